import PyProof.Rows.All
import Wide.All
import OpenK.AllK
import Wide.FinOn
import HandS.ForMost
import HandS.AnyAll
import HandS.Lambda
import HandS.GenList
import HandS.Exc
import HandS.ExcOwn
import HandS.WordsExc
import HandS.TupAny
import HandS.TupMul
import HandS.Wide
import HandS.Style
import HandS.IsInst
import HandS.Deep
import HandS.Conv
import HandS.Iter
import HandS.Zip
import KE.GoesEnum
import HandS.TryMany
import HandS.Property
import HandS.Comp
import HandS.ExcField
import HandS.ExcIs
import HandS.Defaults
import HandS.HeadHook4
import HandS.HeadNt
import HandS.HeadWalk
import HandS.ExcSuper
import KE.KExcSuper
import PyProof.FString
import HandS.Head0
import HandS.Head1
import HandS.Head2
import KE.KStateDown
import Lean
import PySem.Challenge.RW_cavetrue_k16_whole_sides_and_odd_rings
set_option Elab.async false
set_option linter.all false
set_option maxRecDepth 100000
set_option maxHeartbeats 1000000
/-! GX: generator expressions whose element may do what a def may do; their consumers. -/
namespace GX
open PySem PySem.Spec PyProof.Rows L2 GenW
abbrev genv (X : Cx) (scope : Scope) (C : Addr) (code : Value) : Env := genEnv scope (cloFrom X.env.cells scope.names []) C code builtinsNs X.env
structure GSc (N : List Str) (sc scope : Scope) (own : List (Str × Nat)) : Prop where
  kind : scope.kind = .function
  co : scope.isCoroutine = false
  cell : ∀ y ∈ scope.names, y.2 ≠ .cell
  dot : scope.names.lookup (".0" : Str) = some NameKind.local
  ix : ∀ p ∈ own, N[p.2]? = some p.1
  free : ∀ y ∈ scope.names, y.2 = .free → sc.names.lookup y.1 = some .cell ∨ sc.names.lookup y.1 = some .free
  own : ∀ y ∈ scope.names, y.2 = .local → y.1 ∈ own.map (·.1) ∨ y.1 ∉ N
def gscB (N : List Str) (sc scope : Scope) (own : List (Str × Nat)) : Bool :=
  decide (scope.kind = .function) && !scope.isCoroutine && (scope.names.all fun y => !decide (y.2 = .cell)) && decide (scope.names.lookup (".0" : Str) = some NameKind.local) && (own.all fun p => decide (N[p.2]? = some p.1)) &&
    (scope.names.all fun y => !decide (y.2 = .free) || decide (sc.names.lookup y.1 = some .cell) || decide (sc.names.lookup y.1 = some .free)) && scope.names.all fun y => !decide (y.2 = .local) || decide (y.1 ∈ own.map (·.1)) || !decide (y.1 ∈ N)
theorem gsc_by {N : List Str} {sc scope : Scope} {own : List (Str × Nat)} (h : gscB N sc scope own = true) : GSc N sc scope own := by
  unfold gscB at h
  simp only [Bool.and_eq_true, Bool.or_eq_true, Bool.not_eq_true', decide_eq_true_eq, decide_eq_false_iff_not, List.all_eq_true] at h
  obtain ⟨⟨⟨⟨⟨⟨h1, h2⟩, h3⟩, h4⟩, h5⟩, h6⟩, h7⟩ := h
  refine ⟨h1, h2, h3, h4, h5, fun y hy e => ?_, fun y hy e => ?_⟩
  · rcases h6 y hy with (z | z) | z
    · exact absurd e z
    · exact .inl z
    · exact .inr z
  · rcases h7 y hy with (z | z) | z
    · exact absurd e z
    · exact .inl z
    · exact .inr z

/-- the context of the element, where the generator is woken in the around A -/
def cxG (X : Cx) (A : Around) (s : Shared) (H : Hp) (scope : Scope) (code : Value) (fp : List Addr) : Cx :=
  { X with A := A.deeper (genv X scope s.heap.objs.size code), s_0 := s, H_0 := H, env := genv X scope s.heap.objs.size code, outer := X.stack, stack := genv X scope s.heap.objs.size code :: X.stack, ex := fp, fn := fun _ => false, calm := true, pn := [], xe := fun _ _ => False }

section
variable {X : Cx} {pins : List (Addr × Obj)} {σ : L2.St} {H : Hp} {s : Shared}
theorem start {A : Around} {scope : Scope} {own : List (Str × Nat)} {code : Value} {fp : List Addr} {h5 : Heap} {tk : Nat} {gs : GenState} {m : Str → Option Value} (I : Inv X pins σ H s) (S : GSc X.N X.env.scope scope own) (hN : X.N.Nodup) (hd : A.handled = none) (hfr : A.frames = some X.stack)
    (hfp : ∀ b ∈ fp, FpOk X pins H b ∧ b < s.heap.objs.size) (hk : ∀ b o, s.heap.get? b = some o → h5.get? b = some o) (hn : h5.Ns s.heap.objs.size m) (hg : gs.bare = true) :
    Inv (cxG X A s H scope code fp) [] (wipe σ (own.map (·.2))) H { s with gens := s.gens.push gs, toks := tk, heap := h5 } := by
  have hfree : ∀ y ∈ scope.names, y.2 = .free → ∃ c, X.env.cells.lookup y.1 = some c := fun y hy e => by
    rcases S.free y hy e with k | k
    · exact I.ok.has _ (.inl k)
    · exact I.ok.has _ (.inr k)
  have cm : ∀ {y c}, (cloFrom X.env.cells scope.names []).lookup y = some c → X.env.cells.lookup y = some c := fun {y c} e => by
    rcases cloFrom_mem (PySem.mem_of_lookup e) with hm | ⟨h1, h2⟩
    · cases hm
    · obtain ⟨c1, hc⟩ := hfree _ h1 rfl
      have hc : X.env.cells.lookup y = some c1 := hc
      have e2 : c = c1 := by
        rw [h2, hc] <;> rfl
      rw [e2]
      exact hc
  have look : ∀ {y}, scope.names.lookup y = some .free → ∃ c, (cloFrom X.env.cells scope.names []).lookup y = some c := fun {y} hl => by
    have hy : (y, NameKind.free) ∈ scope.names := PySem.mem_of_lookup hl
    exact mem_lookup (cloFrom_has (cells := X.env.cells) (acc := []) hy)
  have cellK : ∀ {c : Addr} {v : Option Value}, s.heap.IsCell c v → h5.IsCell c v := fun {c v} ⟨o, ho, hd⟩ => ⟨o, hk c o ho, hd⟩
  refine ⟨⟨I.ok.mod, S.kind, I.ok.glob, rfl, Nat.le_refl _, fun y z c e1 e2 => I.ok.inj y z c (cm e1) (cm e2), fun y hy => ?_, fun y c z _ => ?_, fun _ => hd, Around.frames_deeper hfr, .inr ⟨rfl, rfl⟩, fun b hb => ⟨Nat.ne_of_lt (hfp b hb).2, fun x c e => (hfp b hb).1.2.2.2.2.1 x c (cm e)⟩, I.bs, Nat.le_trans I.ok.bsz I.sz, fun b o e hb => ?_,
      fun b hb hm => ?_, I.stack, I.stkFree⟩,
    rfl, I.bare.push hg, Un.kept hk, ⟨m, hn, fun i y v e1 e2 e3 => ?_⟩, fun y c e => ?_, I.hok.fresh (Nat.le_refl _), fun y c e => ?_, fun q hq => absurd (show q ∈ ([] : List (Addr × Obj)) ++ [] from hq) (by simp), I.hok.kept hk, by rw [wipe_length]; exact I.len⟩
  · have hy : scope.names.lookup y = some .cell ∨ scope.names.lookup y = some .free := hy
    rcases hy with hy | hy
    · exact absurd rfl (S.cell _ (PySem.mem_of_lookup hy))
    · exact look hy
  · have z : false = true := z
    cases z
  · rcases (hfp b hb).1.2.2.2.1 with z | z
    · exact I.ok.noex b o e z
    · have h1 := Heap.lt_size e
      exact absurd (Nat.lt_of_lt_of_le h1 (Nat.le_trans I.ok.bsz z)) (Nat.lt_irrefl _)
  · rcases List.mem_cons.mp (I.stkSub b hm) with z | z
    · exact (hfp b hb).1.2.1 z
    · exact (hfp b hb).1.2.2.1 z
  · have e3 : Vis scope y := e3
    obtain ⟨e4, e5⟩ := wipe_some e2
    rcases e3 with k | k | k
    · exfalso
      rcases S.own _ (PySem.mem_of_lookup k) rfl with z | z
      · obtain ⟨p, hp, ep⟩ := List.mem_map.mp z
        have h1 := S.ix p hp
        rw [ep] at h1
        exact e5 (List.mem_map.mpr ⟨p, hp, (nodup_ix hN e1 h1).symm⟩)
      · exact z (List.mem_of_getElem? e1)
    · exact absurd rfl (S.cell _ (PySem.mem_of_lookup k))
    · obtain ⟨m', hn', hl⟩ := I.loc
      have hvis : Vis X.env.scope y := (S.free _ (PySem.mem_of_lookup k) rfl).elim (fun k => .inr (.inl k)) (fun k => .inr (.inr k))
      obtain ⟨w', r, q⟩ := hl i y v e1 e4 hvis
      obtain ⟨c2, h2⟩ := look k
      refine ⟨w', r, .inr ⟨.inr k, c2, h2, ?_⟩⟩
      have c1 := cm h2
      rcases q with ⟨k', _⟩ | ⟨_, c3, e', z⟩
      · have k' : X.env.scope.names.lookup y = some .local := k'
        rcases S.free _ (PySem.mem_of_lookup k) rfl with k2 | k2 <;> rw [show X.env.scope.names.lookup y = _ from k2] at k' <;> cases k'
      · rw [c1] at e'
        cases e'
        exact cellK z
  · obtain ⟨w', z⟩ := I.cell y c (cm e)
    exact ⟨w', cellK z⟩
  · exact I.freeC y c (cm e)
theorem gens_ok {G : Array GenState} (I : Inv X pins σ H s) (hg : AllBare G) : Inv X pins σ H { s with gens := G } := ⟨I.ok, I.os, hg, I.base, I.loc, I.cell, I.free, I.freeC, I.pin, I.hok, I.len⟩
end

theorem over_comp {A : Around} {elt tg iter : Expr} {ifs : List Expr} {scope : Scope} {pos : Pos} {it acc : Value} {env : Env} :
    A.over (.compLoop (.GeneratorExp elt [⟨tg, iter, ifs, 0⟩] scope pos) 0 it acc env) [] = A.deeper env := by rfl
theorem over_start {A : Around} {elt tg iter : Expr} {ifs : List Expr} {scope : Scope} {pos : Pos} {it acc : Value} {env : Env} :
    A.over (.compStart (.GeneratorExp elt [⟨tg, iter, ifs, 0⟩] scope pos) 0 it acc env) [] = A.deeper env := by rfl

/-- what the consumer holds stands among the pins -/
def SSp (SS : List Addr) (s : Shared) (pl : List (Addr × Obj)) : Prop := ∀ b ∈ SS, ∃ o, s.heap.get? b = some o ∧ (b, o) ∈ pl
theorem SSp.mem {SS : List Addr} {s : Shared} {pl : List (Addr × Obj)} (h : SSp SS s pl) {b : Addr} {o : Obj} (hb : b ∈ SS) (e : s.heap.get? b = some o) : (b, o) ∈ pl := by
  obtain ⟨o', e', m⟩ := h b hb
  rw [e] at e'; cases e'
  exact m
theorem SSp.go {SS : List Addr} {X : Cx} {s s' : Shared} {pl pf : List (Addr × Obj)} {σ : L2.St} {H : Hp} (h : SSp SS s pl) (I : Inv X (pl ++ pf) σ H s') : SSp SS s' pl := fun b hb => by
  obtain ⟨o, _, m⟩ := h b hb
  exact ⟨o, (I.pin (b, o) (List.mem_append_right _ (List.mem_append_left _ m))).1, m⟩
section
variable {β : Type} (Xg : Cx) (σw : L2.St) (vs : List Nat) (SS : List Addr) (Kc : β → V → Hp → (β → Hp → Prop) → Prop) (Qz : β → Hp → Prop)
def FE (s₀ s₁ : Shared) : Prop := ∃ b H' pl, Inv Xg pl σw H' s₁ ∧ Qz b H' ∧ SSp SS s₀ pl
def RE : GenEnd := fun _ s₀ r s₁ => ((r = .ok (.ret .none) ∨ r = .ok .next) ∧ FE Xg σw SS Qz s₀ s₁) ∨ ∃ e, r = .error e ∧ (fun (_ : Value) (_ : Shared) => False) e s₁
def YP : Protocol := fun n s₀ v s kap => ∃ (b : β) (y : V) (H4 : Hp) (Nx : β → Hp → Prop) (pl pf : List (Addr × Obj)) (σ8 : L2.St), RelV y v ∧ Kc b y H4 Nx ∧ Inv Xg (pl ++ pf) σ8 H4 s ∧ (∀ p ∈ pl, p.1 ∈ SS) ∧ SSp SS s₀ pl ∧ (∀ b' H', Nx b' H' → 0 < n) ∧
  ∀ s'' b' H'' pl'', Inv Xg (pl'' ++ pf) σ8 H'' s'' → (∀ p ∈ pl'', p.1 ∈ SS) → SSp SS s'' pl'' → Nx b' H'' → kap (.send .none) s''
end
/-- the reading's turns -/
def Turns {β : Type} (J : It) (g : TG) (tt : TT) (te : TE) (σw : L2.St) (vs : List Nat) (Kc : β → V → Hp → (β → Hp → Prop) → Prop) (Qz : β → Hp → Prop) (W : Nat → Nat → β → Hp → Prop) : Prop :=
  ∀ i m b H, W i m b H → (J.stop i H ∧ Qz b H) ∨ (J.go i H ∧ ∃ Nx : β → Hp → Prop, (∀ b' H', Nx b' H' → ∃ m', m' < m ∧ W (i + 1) m' b' H') ∧ ∀ x H', J.yld i H x H' → g x σw H' fun σ2 H2 => wipe σ2 vs = σw ∧
    tt σ2 H2 fun c H3 => if c = true then te σ2 H3 fun y H4 => Kc b y H4 Nx else Nx b H3)
section
variable {β : Type} {X : Cx} {sC : Shared} {HC : Hp} {A : Around} {scope : Scope} {code : Value} {fp SS : List Addr} {σ : L2.St} {vs : List Nat} {Kc : β → V → Hp → (β → Hp → Prop) → Prop} {Qz : β → Hp → Prop} {W : Nat → Nat → β → Hp → Prop} {J : It} {g : TG} {tt : TT} {te : TE}
  {elt tg iter : Expr} {ifs : List Expr} {pos : Pos} {it : Addr} {tn : Nat → Heap → Prop}
theorem seg_loop (hco : scope.isCoroutine = false) (T : Turn X.prog X.w X.K tg J fp it tn) (pg : PG (cxG X A sC HC scope code fp) tg g) (pt : PTs (cxG X A sC HC scope code fp) ifs tt) (pe : PE (cxG X A sC HC scope code fp) elt te)
    (hSS : ∀ b ∈ SS, b ∉ fp) (turn : Turns J g tt te (wipe σ vs) vs Kc Qz W) :
    ∀ (m n i : Nat) (b : β) (H' : Hp) (pl : List (Addr × Obj)) (s₀ s : Shared), m + 1 ≤ n → W i m b H' → Inv (cxG X A sC HC scope code fp) pl (wipe σ vs) H' s → (∀ p ∈ pl, p.1 ∈ SS) → tn i s.heap → (∀ q ∈ fp, H' q = none) → SSp SS s₀ pl →
      Seg (model X.prog X.w) A (RE (cxG X A sC HC scope code fp) (wipe σ vs) SS Qz) (YP (cxG X A sC HC scope code fp) SS Kc) n s₀
        (.compLoop (.GeneratorExp elt [⟨tg, iter, ifs, 0⟩] scope pos) 0 (.ref it) .none (cxG X A sC HC scope code fp).env)
        ((model X.prog X.w).den (.compLoop (.GeneratorExp elt [⟨tg, iter, ifs, 0⟩] scope pos) 0 (.ref it) .none (cxG X A sC HC scope code fp).env)) [] s := by
  generalize hXg : cxG X A sC HC scope code fp = Xg at pg pt pe ⊢
  have hA : Xg.A = A.deeper Xg.env := by rw [← hXg]; rfl
  have hex : Xg.ex = fp := by rw [← hXg]; rfl
  have hpn : Xg.pn = [] := by rw [← hXg]; rfl
  have hpr : Xg.prog = X.prog := by rw [← hXg]; rfl
  have hw : Xg.w = X.w := by rw [← hXg]; rfl
  have hK : Xg.K = X.K := by rw [← hXg]; rfl
  have hcalm : Xg.calm = true := by rw [← hXg]; rfl
  have hxe : Xg.xe = fun _ _ => False := by rw [← hXg]; rfl
  have hcoX : Xg.env.scope.isCoroutine = false := by rw [← hXg]; exact hco
  have stat : ∀ {pl : List (Addr × Obj)} {σ' : L2.St} {H' : Hp} {s' : Shared}, Inv Xg pl σ' H' s' → (∀ p ∈ pl, p.1 ∈ SS) → (∀ b ∈ fp, H' b = none) → ∀ b ∈ fp, FpOk Xg pl H' b := fun {pl σ' H' s'} I' hpl hn b hb =>
    ⟨hn b hb, (I'.ok.exf b (by rw [hex]; exact hb)).1, I'.ok.exfs b (by rw [hex]; exact hb), .inl (by rw [hex]; exact hb), fun x c e => (I'.ok.exf b (by rw [hex]; exact hb)).2 x c e, fun p hp z => by
      rw [hpn, List.nil_append] at hp
      exact hSS _ (hpl p hp) (by rw [z]; exact hb)⟩
  intro m
  induction m using Nat.strongRecOn with
  | ind m ih =>
    intro n i b H' pl s₀ s hmn w I hpl st hn hss
    show Seg _ A (RE Xg (wipe σ vs) SS Qz) (YP Xg SS Kc) n s₀ _ ((compTurn (.GeneratorExp elt [⟨tg, iter, ifs, 0⟩] scope pos) 0 (.ref it) .none Xg.env).onRaise (leaving Xg.env)) [] s
    rw [compTurn_gen, Sem.onRaise_eq_wrap]
    refine seg_bind_wrap (wpAny_standAt ?_)
    rcases turn i m b H' w with ⟨stop, qz⟩ | ⟨go, Nx, hNx, step⟩
    · have td := T.done Xg hpr hw hK hcalm i pl s _ H' (fun _ _ => False) I (stat I hpl hn) st stop
      rw [hA] at td
      refine seg_bind_wrap ?_
      rw [over_comp]
      refine wpAny_mono td (fun r s1 ⟨hr, I1⟩ => ?_) fun _ _ z => z.elim
      subst hr
      exact seg_end (.ok .next) (.inl ⟨.inr rfl, b, H', pl, I1, qz, hss⟩)
    · have ti := T.item Xg hpr hw hK hcalm i pl s _ H' (fun _ _ => False) I (stat I hpl hn) st go
      rw [hA] at ti
      refine seg_bind_wrap ?_
      rw [over_comp]
      refine wpAny_mono ti (fun r s1 ⟨u, hr, h1⟩ => ?_) fun _ _ z => z.elim
      subst hr
      refine seg_bind_wrap ?_
      rw [over_comp]
      refine wpAny_mono h1 (fun _ s2 ⟨x, H2, I2, r2, y2, st2, n2⟩ => ?_) fun _ _ z => z.elim
      have I2' := I2.pinned (stat I2 hpl n2) (T.obj _ _ st2)
      have pg1 := pg.run _ s2 _ H2 x u _ I2' r2 (step x H2 y2)
      rw [hA, hpr, hw, hxe] at pg1
      refine seg_bind_wrap ?_
      rw [over_comp]
      refine wpAny_mono pg1 (fun _ s3 ⟨σ3, H3, I3, hw3, q3⟩ => ?_) fun _ _ z => z.elim
      have pt1 := pt.run _ s3 σ3 H3 _ I3 q3
      rw [hA, hpr, hw, hxe] at pt1
      refine seg_bind_wrap ?_
      rw [over_comp]
      refine wpAny_mono pt1 (fun c s4 ⟨H4, I4, q4⟩ => ?_) fun _ _ z => z.elim
      have back : ∀ {s' : Shared} {H'' : Hp} {pl' : List (Addr × Obj)}, Inv Xg (pl' ++ pinsAt fp s2.heap) σ3 H'' s' → Inv Xg pl' (wipe σ vs) H'' s' ∧ tn (i + 1) s'.heap ∧ ∀ q ∈ fp, H'' q = none := fun {s' H'' pl'} I' => by
        have pin' : ∀ q ∈ fp, ∀ o, s2.heap.get? q = some o → s'.heap.get? q = some o ∧ H'' q = none := fun q hq o e =>
          let z := I'.pin (q, o) (List.mem_append_right _ (List.mem_append_right _ (mem_pinsAt hq e)))
          ⟨z.1, z.2.1⟩
        have hl : (wipe σ vs).length = σ3.length := by rw [← hw3, wipe_length]
        refine ⟨I'.unpinned.weak hl (fun j v e => ?_), T.keep _ _ _ st2 fun q hq o e => (pin' q hq o e).1, fun q hq => ?_⟩
        · rw [← hw3] at e
          exact (wipe_some e).1
        · obtain ⟨o, e, _⟩ := T.obj _ _ st2 q hq
          exact (pin' q hq o e).2
      cases c with
      | false =>
        simp only [Bool.false_eq_true, if_false] at q4 ⊢
        obtain ⟨m', hm, w'⟩ := hNx b H4 q4
        obtain ⟨I5, st5, n5⟩ := back I4
        exact seg_again rfl (ih m' hm n (i + 1) b H4 pl s₀ s4 (by omega) w' I5 hpl st5 n5 hss)
      | true =>
        simp only [if_true] at q4 ⊢
        have hy : ∀ v, yieldOut Xg.env v = yieldValue v := fun v => by simp only [yieldOut, hcoX, Bool.false_eq_true, if_false]
        simp only [hy]
        rw [Sem.bind_eq_wrap', Sem.bind_eq_wrap', Sem.wrap_wrap, Sem.wrap_wrap]
        have pe1 := pe.run _ s4 σ3 H4 _ I4 q4
        rw [hA, hpr, hw, hxe] at pe1
        refine seg_wrap ?_
        rw [over_comp]
        refine wpAny_mono pe1 (fun v s5 ⟨y, H5, I5, r5, q5⟩ => ?_) fun _ _ z => z.elim
        obtain ⟨n', rfl⟩ : ∃ n', n = n' + 1 := ⟨n - 1, by omega⟩
        refine seg_at (seg_yield rfl rfl rfl ⟨b, y, H5, Nx, pl, pinsAt fp s2.heap, σ3, r5, q5, I5, hpl, hss, fun b' H' nx => by obtain ⟨m', hm, _⟩ := hNx b' H' nx; omega, fun s'' b' H'' pl'' I6 hpl6 hss6 nx => ?_⟩)
        obtain ⟨m', hm, w'⟩ := hNx b' H'' nx
        obtain ⟨I7, st7, n7⟩ := back I6
        exact seg_again rfl (ih m' hm n' (i + 1) b' H'' pl'' s'' s'' (by omega) w' I7 hpl6 st7 n7 hss6)
theorem seg_begin (hco : scope.isCoroutine = false) (T : Turn X.prog X.w X.K tg J fp it tn) (pg : PG (cxG X A sC HC scope code fp) tg g) (pt : PTs (cxG X A sC HC scope code fp) ifs tt) (pe : PE (cxG X A sC HC scope code fp) elt te)
    (hSS : ∀ b ∈ SS, b ∉ fp) (turn : Turns J g tt te (wipe σ vs) vs Kc Qz W)
    (m n : Nat) (b : β) (H' : Hp) (pl : List (Addr × Obj)) (s₀ s : Shared) (hmn : m + 1 ≤ n) (w : W 0 m b H') (I : Inv (cxG X A sC HC scope code fp) pl (wipe σ vs) H' s) (hpl : ∀ p ∈ pl, p.1 ∈ SS) (st : tn 0 s.heap) (hn : ∀ q ∈ fp, H' q = none) (hss : SSp SS s₀ pl) :
      Seg (model X.prog X.w) A (RE (cxG X A sC HC scope code fp) (wipe σ vs) SS Qz) (YP (cxG X A sC HC scope code fp) SS Kc) n s₀
        (.compStart (.GeneratorExp elt [⟨tg, iter, ifs, 0⟩] scope pos) 0 (.ref it) .none (cxG X A sC HC scope code fp).env)
        ((model X.prog X.w).den (.compStart (.GeneratorExp elt [⟨tg, iter, ifs, 0⟩] scope pos) 0 (.ref it) .none (cxG X A sC HC scope code fp).env)) [] s := by
  have loop := seg_loop (iter := iter) (pos := pos) hco T pg pt pe hSS turn m n 0 b H' pl s₀ s hmn w I hpl st hn hss
  show Seg _ A (RE (cxG X A sC HC scope code fp) (wipe σ vs) SS Qz) (YP (cxG X A sC HC scope code fp) SS Kc) n s₀ _ ((compStart (.GeneratorExp elt [⟨tg, iter, ifs, 0⟩] scope pos) 0 (.ref it) .none (cxG X A sC HC scope code fp).env).onRaise (leaving (cxG X A sC HC scope code fp).env)) [] s
  unfold compStart
  rw [Sem.onRaise_eq_wrap]
  show Seg _ A (RE (cxG X A sC HC scope code fp) (wipe σ vs) SS Qz) (YP (cxG X A sC HC scope code fp) SS Kc) n s₀ _ ((ask >>= _).wrap _ _ _ _) [] s
  refine seg_bind_wrap (wpAny_askSetting ?_)
  split
  · exact seg_again rfl loop
  · first
      | exact seg_bind_wrap (wpAny_rule (seg_bind_wrap (wpAny_standAt (seg_bind_wrap (T.self _ 0 s _ _ st (seg_again rfl loop))))))
      | (refine seg_bind_wrap (wpAny_rule ?_); show Seg _ A (RE (cxG X A sC HC scope code fp) (wipe σ vs) SS Qz) (YP (cxG X A sC HC scope code fp) SS Kc) n s₀ _ ((standAt iter.pos >>= _).wrap _ _ _ _) [] s; exact seg_bind_wrap (wpAny_standAt (seg_bind_wrap (T.self _ 0 s _ _ st (seg_again rfl loop)))))
end

/-! ### the suspended generator -/
section
variable {β : Type} (Xg : Cx) (σw : L2.St) (SS : List Addr) (Kc : β → V → Hp → (β → Hp → Prop) → Prop) (Qz : β → Hp → Prop) (A : Around)
/-- gs goes on wherever Nx holds -/
def Wk (n : Nat) (Nx : β → Hp → Prop) (pf : List (Addr × Obj)) (σ8 : L2.St) (gs : GenState) : Prop :=
  ∀ s'' pl b' H'', Inv Xg (pl ++ pf) σ8 H'' s'' → (∀ p ∈ pl, p.1 ∈ SS) → SSp SS s'' pl → Nx b' H'' → gs.Goes (model Xg.prog Xg.w) A (RE Xg σw SS Qz) (YP Xg SS Kc) n (.send .none) s''
end
section
variable {β : Type} {Xg : Cx} {σw : L2.St} {SS : List Addr} {Kc : β → V → Hp → (β → Hp → Prop) → Prop} {Qz : β → Hp → Prop} {A0 : Around} {E : Value → Shared → Prop} {s : Shared}
theorem next {a : Addr} {gn n : Nat} {gs : GenState} {Nx : β → Hp → Prop} {pl pf : List (Addr × Obj)} {σ8 : L2.St} {b : β} {H : Hp} {Q : Option Value → Shared → Prop} (hh : A0.handled = none) (hroom : A0.depth < recursionLimit) (hg : s.heap.IsGen a gn) (hgs : s.gens[gn]? = some gs) (hn : 0 < n)
    (wk : Wk Xg σw SS Kc Qz A0.in1 n Nx pf σ8 gs) (I : Inv Xg (pl ++ pf) σ8 H s) (hpl : ∀ p ∈ pl, p.1 ∈ SS) (hss : SSp SS s pl) (nx : Nx b H)
    (hz : ∀ s' b' H' pl', Inv Xg pl' σw H' s' → Qz b' H' → (∀ S ∈ SS, ∀ o, s.heap.get? S = some o → s'.heap.get? S = some o) → Q none s')
    (hy : ∀ v s' b' y H4 n' Nx' pl' pf' σ8' gs', RelV y v → Kc b' y H4 Nx' → Inv Xg (pl' ++ pf') σ8' H4 s' → (∀ p ∈ pl', p.1 ∈ SS) → SSp SS s' pl' → s'.gens[gn]? = some gs' → (∀ b' H', Nx' b' H' → 0 < n') → n' < n → Wk Xg σw SS Kc Qz A0.in1 n' Nx' pf' σ8' gs' →
      (∀ S ∈ SS, ∀ o, s.heap.get? S = some o → s'.heap.get? S = some o) → Q (some v) s') : wpAny (model Xg.prog Xg.w) A0 (pyNext (.ref a)) Q E s := by
  have hgl : gn < s.gens.size := (Array.getElem?_eq_some_iff.mp hgs).1
  have I1 : Inv Xg (pl ++ pf) σ8 H (s.setGen gn .running) := gens_ok (G := (s.setGen gn .running).gens) I (allBare_setGen I.bare rfl)
  have go := wk (s.setGen gn .running) pl b H I1 hpl hss nx
  have kept : ∀ {s' : Shared} {pl' : List (Addr × Obj)} {pf' : List (Addr × Obj)} {σ' : L2.St} {H' : Hp}, Inv Xg (pl' ++ pf') σ' H' s' → SSp SS s pl' → ∀ S ∈ SS, ∀ o, s.heap.get? S = some o → s'.heap.get? S = some o := fun {s' pl' pf' σ' H'} J hs S hS o e =>
    (J.pin (S, o) (List.mem_append_right _ (List.mem_append_left _ (hs.mem hS e)))).1
  refine wpAny_gsz (n := gn + 1) hgl (next_genG (F := fun _ s₀ s₁ => FE Xg σw SS Qz s₀ s₁) (Er := fun _ _ => False) (n := n) hh I.nolimit hroom hg hgs go (fun v s₁ gs' hb hv => ?_) (fun s₁ hp h' hk => ?_) fun e s₁ z => z.elim)
  · intro hsz
    obtain ⟨b', y, H4, Nx', pl', pf', σ8', r, q, J, hpl', hss', hpos, kap⟩ := hv
    have hsz1 : gn < s₁.gens.size := by
      have q : (s₁.setGen gn gs').gens.size = s₁.gens.size := setGen_size _ _ _
      have hsz' : gn + 1 ≤ (s₁.setGen gn gs').gens.size := hsz
      omega
    obtain ⟨n', rfl⟩ : ∃ n', n = n' + 1 := ⟨n - 1, by omega⟩
    exact hy v (s₁.setGen gn gs') b' y H4 n' Nx' pl' pf' σ8' gs' r q (gens_ok (G := (s₁.setGen gn gs').gens) J (allBare_setGen J.bare hb)) hpl' (hss'.go (s' := s₁) J) (setGen_at hsz1) hpos (Nat.lt_succ_self _) (fun s'' pl'' b'' H'' I'' hp'' hs'' nx'' => kap s'' b'' H'' pl'' I'' hp'' hs'' nx'') (fun S hS o e => kept J hss' S hS o e)
  · intro _
    obtain ⟨b', H', pl', J, qz, hss'⟩ := hp
    have J1 : Inv Xg pl' σw H' ({ s₁ with heap := h' } : Shared) := J.kept (t' := s₁.toks) hk
    have J2 := gens_ok (G := (s₁.setGen gn .finished).gens) J1 (allBare_setGen J.bare rfl)
    refine hz _ b' H' pl' J2 qz fun S hS o e => ?_
    exact hk _ _ ((J.pin (S, o) (List.mem_append_right _ (hss'.mem hS e))).1)
end

/-! ### making one -/
section
variable {β : Type} {X : Cx} {pins : List (Addr × Obj)} {σ : L2.St} {H : Hp} {s : Shared}
/-- the genexp's own object -/
def genO (g : Nat) (tk : Nat) (q : Str) : Obj := { cls := .type "generator", data := .fields #[.int g 0, .str "<genexpr>" (tk + 1), .str q (tk + 1 + 1)] }
/-- a generator expression has been made at a: sC, HC the state ahead of it -/
structure Made (X : Cx) (pins : List (Addr × Obj)) (σ : L2.St) (elt tg iter : Expr) (ifs : List Expr) (scope : Scope) (gpos : Pos) (own : List (Str × Nat)) (J : It) (fp : List Addr) (it : Addr) (tn : Nat → Heap → Prop) (sC : Shared) (HC : Hp) (code : Value) (a : Addr) (s5 : Shared) : Prop where
  I : Inv X pins σ HC sC
  fpo : ∀ b ∈ fp, FpOk X pins HC b ∧ b < sC.heap.objs.size
  T : Turn X.prog X.w X.K tg J fp it tn
  st : tn 0 sC.heap
  os : s5.os = sC.os
  gens : s5.gens = sC.gens.push (.fresh (.compStart (.GeneratorExp elt [⟨tg, iter, ifs, 0⟩] scope gpos) 0 (.ref it) .none (genv X scope sC.heap.objs.size code)))
  keep : ∀ b o, sC.heap.get? b = some o → s5.heap.get? b = some o
  ns : ∃ m, s5.heap.Ns sC.heap.objs.size m
  obj : ∃ tk q, s5.heap.get? a = some (genO sC.gens.size tk q)
  big : sC.heap.objs.size < a
theorem make {c P : Addr} {elt tg iter : Expr} {ifs : List Expr} {gpos : Pos} {scope : Scope} {own : List (Str × Nat)} {wi : TI} {k : Nat} {R : It → Hp → Prop} {Q' : Value → Shared → Prop}
    (hr : Room k X.A) (TB : GxR.TabB X.base X.mg c P) (hcode : X.env.code = .ref c) (S : GSc X.N X.env.scope scope own) (hi : PI X tg iter wi) (hs : ∀ v, genFold iter X.env v = pure v)
    (I : Inv X pins σ H s) (h : wi σ H fun J H1 => GxR.TabG H1 P ∧ ∀ H2, GxR.Tabbed P H1 H2 → R J H2)
    (hQ : ∀ J fp it tn sC HC code a s5, Made X pins σ elt tg iter ifs scope gpos own J fp it tn sC HC code a s5 → R J HC → Q' (.ref a) s5) :
    wpAny (model X.prog X.w) X.A (eval (.GeneratorExp elt [⟨tg, iter, ifs, 0⟩] scope gpos) X.env) Q' X.xe s := by
  have hfree : ∀ y ∈ scope.names, y.2 = .free → ∃ c, X.env.cells.lookup y.1 = some c := fun y hy e => by
    rcases S.free y hy e with k | k
    · exact I.ok.has _ (.inl k)
    · exact I.ok.has _ (.inr k)
  refine wpAny_GeneratorExp_make S.co (closure_ok hfree) S.cell S.dot S.kind (by have := hr.dp; omega) ?_ hs
  refine thn (hi.run pins s σ H _ I h) fun xv s1 hx => thn hx fun itv s2 h2 => ?_
  obtain ⟨it, fp, tn, J, H1, e, I2, T, st2, f2, ⟨ps, hP, ht⟩, q⟩ := h2
  subst e
  have hPs : s2.heap.get? P = some { cls := .none, data := .fields ps } := I2.hok P _ hP
  have cd : PySem.W.CodeHd s2.heap c P := TB.code.keeps I2.bk
  refine ⟨I2.nolimit, ?_⟩
  have sz : ∀ b ∈ fp, b < s2.heap.objs.size := fun b hb => by
    obtain ⟨o, e, _⟩ := T.obj _ _ st2 b hb
    exact Heap.lt_size e
  have cont : ∀ (code : Value) (h3 : Heap) (tk : Nat) (ps' : Array Value), Heap.ExtBut P s2.heap h3 → s2.heap.objs.size ≤ h3.objs.size → h3.get? P = some { cls := .none, data := .fields ps' } → (∃ more, ps' = ps ++ more) → TriplesOk ps'.toList →
      wpAny (model X.prog X.w) X.A (builtinsFor X.env.globals X.env.builtins) (fun bi s₄ =>
        ∀ h', h'.Ns s₄.heap.objs.size (fun y => if y = ".0" then some (.ref it) else none) → Heap.SameBut s₄.heap.objs.size (s₄.heap.push { cls := .type "frame", data := .dict #[] }) h' →
          Q' (.ref h'.objs.size) { s₄ with
            gens := s₄.gens.push (.fresh (.compStart (.GeneratorExp elt [⟨tg, iter, ifs, 0⟩] scope gpos) 0 (.ref it) .none (genEnv scope (cloFrom X.env.cells scope.names []) s₄.heap.objs.size code bi X.env))),
            toks := s₄.toks + 1 + 1 + 1,
            heap := h'.push { cls := .type "generator", data := .fields #[.int s₄.gens.size 0, .str "<genexpr>" (s₄.toks + 1), .str (X.env.qual ++ "<genexpr>") (s₄.toks + 1 + 1)] } }) X.xe { s2 with heap := h3, toks := tk } := by
    intro code h3 tk ps' hx hsz hP3 hmore ht3
    obtain ⟨bm, ob, e1, e2, e3, e4, e5, e6, e7, e8⟩ := TB.bm
    have keep3 : ∀ b u, b ≠ P → s2.heap.get? b = some u → h3.get? b = some u := fun b u hb e => hx b u hb e
    refine wpAny_builtinsFor (m := X.mg) (by rw [I2.ok.glob]; exact (I2.mod.glob.keeps I2.bk).extBut hx TB.gP) e1 e2 (keep3 _ _ e4 (I2.bk _ _ e5)) e6 e7 e8 ?_
    intro h' hn' hs'
    obtain ⟨more, em⟩ := hmore
    have J4 := GxR.inv_tab (more := more) (h' := h3) (g' := s2.gens) (d' := s2.drawn) (t' := tk) I2 hP keep3 (by rw [← em]; exact hP3) I2.bare
    have hT : GxR.Tabbed P H1 (upd H1 P (.tbl (ps ++ more))) := ⟨⟨ps ++ more, upd_same, by rw [← em]; exact ht3⟩, fun b hb => upd_ne hb⟩
    have hPfp : ∀ b ∈ fp, b ≠ P := fun b hb z => by
      have h0 := (f2 b hb).1
      rw [z, hP] at h0
      cases h0
    have hsz' : h'.objs.size = h3.objs.size + 1 := by rw [hs'.1, Heap.size_push]
    have keep' : ∀ b o, h3.get? b = some o → h'.get? b = some o := fun b o e => hs'.extBut b o (Nat.ne_of_lt (Heap.lt_size e)) (Heap.get?_push_of_some _ e)
    refine hQ J fp it tn { s2 with heap := h3, toks := tk } (upd H1 P (.tbl (ps ++ more))) code h'.objs.size _ ⟨J4, fun b hb => ⟨⟨?_, (f2 b hb).2⟩, Nat.lt_of_lt_of_le (sz b hb) hsz⟩, T, T.keep _ _ _ st2 fun b hb o e => keep3 b o (hPfp b hb) e, rfl, rfl, fun b o e => Heap.get?_push_of_some _ (keep' b o e), ⟨_, hn'.push _⟩, ⟨tk, X.env.qual ++ "<genexpr>", ?_⟩, ?_⟩ (q _ hT)
    · rw [upd_ne (hPfp b hb)]
      exact (f2 b hb).1
    · exact Heap.get?_push_size _ rfl
    · show h3.objs.size < h'.objs.size
      omega
  cases hf : codeAmong gpos ps.toList with
  | none =>
    refine wpAny_genexprCodeX hcode (cd.code hPs ht) (cd.tab hPs) hf fun c' h' tk hx hge hlt hco' _ htab' _ => ?_
    obtain ⟨o1, vs, f1, tf, fl, tg, inF, tx, tt, op, _, _, _, _, _, _, _, _, _, htr, _⟩ := hco'
    exact cont _ h' tk _ hx (Nat.le_trans hge (Nat.le_of_lt hlt)) htab'.2 ⟨_, rfl⟩ htr
  | some cv =>
    refine wpAny_genexprCode_hit hcode (cd.code hPs ht) hf ?_
    exact cont cv s2.heap s2.toks ps (Heap.ExtBut.refl _ _) (Nat.le_refl _) hPs ⟨#[], by simp⟩ ht
theorem Made.gen {elt tg iter : Expr} {ifs : List Expr} {scope : Scope} {gpos : Pos} {own : List (Str × Nat)} {J : It} {fp : List Addr} {it : Addr} {tn : Nat → Heap → Prop} {sC : Shared} {HC : Hp} {code : Value} {a : Addr} {s5 : Shared}
    (M : Made X pins σ elt tg iter ifs scope gpos own J fp it tn sC HC code a s5) {s6 : Shared} (hk : ∀ b o, s5.heap.get? b = some o → s6.heap.get? b = some o) : s6.heap.IsGen a sC.gens.size := by
  obtain ⟨tk, q, ho⟩ := M.obj
  exact ⟨_, _, _, hk _ _ ho, rfl, rfl, rfl⟩
/-- woken for the first time in the around A, the consumer's things at SS -/
theorem Made.wk {elt tg iter : Expr} {ifs : List Expr} {scope : Scope} {gpos : Pos} {own : List (Str × Nat)} {J : It} {fp : List Addr} {it : Addr} {tn : Nat → Heap → Prop} {sC : Shared} {HC : Hp} {code : Value} {a : Addr} {s5 s6 : Shared} {A : Around} {SS : List Addr}
    {Kc : β → V → Hp → (β → Hp → Prop) → Prop} {Qz : β → Hp → Prop} {W : Nat → Nat → β → Hp → Prop} {g : TG} {tt : TT} {te : TE} {b0 : β} {m : Nat}
    (M : Made X pins σ elt tg iter ifs scope gpos own J fp it tn sC HC code a s5) (S : GSc X.N X.env.scope scope own) (hN : X.N.Nodup) (hd : A.handled = none) (hfr : A.frames = some X.stack)
    (pg : PG (cxG X A sC HC scope code fp) tg g) (pt : PTs (cxG X A sC HC scope code fp) ifs tt) (pe : PE (cxG X A sC HC scope code fp) elt te)
    (turn : Turns J g tt te (wipe σ (own.map (·.2))) (own.map (·.2)) Kc Qz W) (w0 : W 0 m b0 HC)
    (hk : ∀ b o, s5.heap.get? b = some o → s6.heap.get? b = some o) (ho : s6.os = s5.os) (hg : s6.gens = s5.gens) (hSS : ∀ b ∈ SS, sC.heap.objs.size < b ∧ ∃ o, s6.heap.get? b = some o ∧ ∀ v, o.data ≠ .cell v) :
    ∃ pl pf gs, s6.gens[sC.gens.size]? = some gs ∧ Inv (cxG X A sC HC scope code fp) (pl ++ pf) (wipe σ (own.map (·.2))) HC s6 ∧ (∀ p ∈ pl, p.1 ∈ SS) ∧ SSp SS s6 pl ∧
      Wk (cxG X A sC HC scope code fp) (wipe σ (own.map (·.2))) SS Kc Qz A (m + 1) (fun b' H' => b' = b0 ∧ W 0 m b0 H') pf (wipe σ (own.map (·.2))) gs := by
  obtain ⟨mn, hns⟩ := M.ns
  have I5 : Inv (cxG X A sC HC scope code fp) [] (wipe σ (own.map (·.2))) HC { sC with gens := sC.gens.push (.fresh (.compStart (.GeneratorExp elt [⟨tg, iter, ifs, 0⟩] scope gpos) 0 (.ref it) .none (genv X scope sC.heap.objs.size code))), toks := s6.toks, heap := s6.heap } :=
    start (m := mn) M.I S hN hd hfr M.fpo (fun b o e => hk b o (M.keep b o e)) (hns.keeps hk) rfl
  have e6 : ({ sC with gens := sC.gens.push (.fresh (.compStart (.GeneratorExp elt [⟨tg, iter, ifs, 0⟩] scope gpos) 0 (.ref it) .none (genv X scope sC.heap.objs.size code))), toks := s6.toks, heap := s6.heap, drawn := s6.drawn } : Shared) = s6 := by
    have h1 := M.gens
    have h2 := M.os
    cases s6
    simp only at hg ho ⊢
    subst hg ho
    rw [h1, h2]
  have I6 : Inv (cxG X A sC HC scope code fp) [] (wipe σ (own.map (·.2))) HC s6 := by
    rw [← e6]
    exact ⟨I5.ok, I5.os, I5.bare, I5.base, I5.loc, I5.cell, I5.free, I5.freeC, I5.pin, I5.hok, I5.len⟩
  have st6 : tn 0 s6.heap := M.T.keep _ _ _ M.st fun b _ o e => hk b o (M.keep b o e)
  have hob : ∀ b ∈ SS, ∀ o, s6.heap.get? b = some o → s6.heap.get? b = some o ∧ HC b = none ∧ b ≠ (cxG X A sC HC scope code fp).env.locals ∧ b ∉ (cxG X A sC HC scope code fp).fs ∧ ∀ v, o.data ≠ .cell v := fun b hb o e => by
    obtain ⟨h1, o', e', h2⟩ := hSS b hb
    rw [e] at e'; cases e'
    refine ⟨e, M.I.hok.fresh (Nat.le_of_lt h1), Nat.ne_of_gt h1, fun z => ?_, h2⟩
    obtain ⟨_, o, ho, _⟩ := M.I.stack.mem (show b ∈ frs X.stack from z)
    exact absurd (Nat.lt_trans (Heap.lt_size ho) h1) (Nat.lt_irrefl _)
  have hfp6 : ∀ b ∈ fp, FpOk (cxG X A sC HC scope code fp) [] HC b := fun b hb => ⟨(M.fpo b hb).1.1, (I6.ok.exf b hb).1, I6.ok.exfs b hb, .inl hb, fun x c e => (I6.ok.exf b hb).2 x c e, fun p hp => absurd (show p ∈ ([] : List (Addr × Obj)) ++ [] from hp) (by simp)⟩
  have I7 := I6.pinned hfp6 (M.T.obj _ _ st6)
  have hfpS : ∀ b ∈ SS, b ∉ fp := fun b hb z => absurd (Nat.lt_trans (M.fpo b z).2 (hSS b hb).1) (Nat.lt_irrefl _)
  refine ⟨pinsAt SS s6.heap, pinsAt fp s6.heap, .fresh (.compStart (.GeneratorExp elt [⟨tg, iter, ifs, 0⟩] scope gpos) 0 (.ref it) .none (genv X scope sC.heap.objs.size code)), ?_, ?_, fun p hp => (of_pinsAt hp).1, fun b hb => let ⟨_, o, e, _⟩ := hSS b hb; ⟨o, e, mem_pinsAt hb e⟩, ?_⟩
  · rw [hg, M.gens]
    exact Array.getElem?_push_size ..
  · refine I7.pins_of fun p hp => ?_
    rcases List.mem_append.mp hp with hp | hp
    · obtain ⟨hb, e⟩ := of_pinsAt hp
      exact hob p.1 hb p.2 e
    · exact I7.pin p (List.mem_append_right _ (List.mem_append_right _ hp))
  · intro s'' pl b' H'' I'' hp'' hs'' nx
    obtain ⟨rfl, w''⟩ := nx
    have pin' : ∀ q ∈ fp, ∀ o, s6.heap.get? q = some o → s''.heap.get? q = some o ∧ H'' q = none := fun q hq o e =>
      let z := I''.pin (q, o) (List.mem_append_right _ (List.mem_append_right _ (mem_pinsAt hq e)))
      ⟨z.1, z.2.1⟩
    refine ⟨rfl, seg_begin (iter := iter) (pos := gpos) S.co M.T pg pt pe hfpS turn m (m + 1) b' H'' pl s'' s'' (Nat.le_refl _) w'' I''.unpinned hp'' (M.T.keep _ _ _ st6 fun q hq o e => (pin' q hq o e).1) (fun q hq => ?_) hs''⟩
    obtain ⟨o, e, _⟩ := M.T.obj _ _ st6 q hq
    exact (pin' q hq o e).2
/-- back in the def's own context -/
theorem Made.back {elt tg iter : Expr} {ifs : List Expr} {scope : Scope} {gpos : Pos} {own : List (Str × Nat)} {J : It} {fp : List Addr} {it : Addr} {tn : Nat → Heap → Prop} {sC : Shared} {HC : Hp} {code : Value} {a : Addr} {s5 s' : Shared} {A : Around} {pl : List (Addr × Obj)} {σ' : L2.St} {H' : Hp}
    (M : Made X pins σ elt tg iter ifs scope gpos own J fp it tn sC HC code a s5) (J' : Inv (cxG X A sC HC scope code fp) pl σ' H' s') : Inv X pins σ H' s' :=
  M.I.call' (ch := fp) J'.os J'.base J'.hok J'.bare fun b hb => ⟨(M.fpo b hb).1.2.2.2.1, (M.fpo b hb).1.2.1, (M.fpo b hb).1.2.2.2.2.1, (M.fpo b hb).1.2.2.2.2.2⟩
end
end GX

set_option Elab.async false
set_option linter.all false
set_option maxRecDepth 100000
set_option maxHeartbeats 1000000
/-! GX2: all, any, sum, tuple, list, max, min of a generator expression. -/
namespace GX
open PySem PySem.Spec PyProof.Rows L2 GenW
def KAll (Qf : Hp → Prop) : Unit → V → Hp → (Unit → Hp → Prop) → Prop := fun _ y H4 Nx => ∃ k, y = .bl k ∧ if k = true then Nx () H4 else Qf H4
def KAny (Qf : Hp → Prop) : Unit → V → Hp → (Unit → Hp → Prop) → Prop := fun _ y H4 Nx => ∃ k, y = .bl k ∧ if k = true then Qf H4 else Nx () H4
section
variable {Xg : Cx} {σw : L2.St} {SS : List Addr} {Qf : Hp → Prop} {Qz : Unit → Hp → Prop} {A : Around} {R : Result → Shared → Prop} {a : Addr} {gn : Nat}
theorem IsGen_keep {s s' : Shared} {a : Addr} {gn : Nat} (h : s.heap.IsGen a gn) (k : ∀ o, s.heap.get? a = some o → s'.heap.get? a = some o) : s'.heap.IsGen a gn := by
  obtain ⟨o, nm, qn, ho, r⟩ := h
  exact ⟨o, nm, qn, k o ho, r⟩
theorem all_loop (hh : A.handled = none) (hroom : A.in1.depth < recursionLimit) (ha : a ∈ SS)
    (hT : ∀ s' H' pl b, Inv Xg pl σw H' s' → Qz b H' → R (.ok (.ret (.bool true))) s') (hF : ∀ s' H' pl σ', Inv Xg pl σ' H' s' → Qf H' → R (.ok (.ret (.bool false))) s') :
    ∀ (n : Nat) (s : Shared) (b : Unit) (H : Hp) (gs : GenState) (pl pf : List (Addr × Obj)) (σ8 : L2.St) (Nx : Unit → Hp → Prop), 0 < n → s.heap.IsGen a gn → s.gens[gn]? = some gs → Wk Xg σw SS (KAll Qf) Qz A.in1.in1 n Nx pf σ8 gs → Inv Xg (pl ++ pf) σ8 H s →
      (∀ p ∈ pl, p.1 ∈ SS) → SSp SS s pl → Nx b H → codeAny (model Xg.prog Xg.w) A (.builtin "all.loop" ⟨[.ref a], []⟩) R s := by
  intro n
  induction n using Nat.strongRecOn with
  | ind n ih =>
    intro s b H gs pl pf σ8 Nx hn hg hgs wk I hpl hss nx
    refine codeAny_builtin F.entry_all_loop ?_
    rw [Around.under_plainId F.plain_all_loop _]
    show wpAny _ A.in1 (pyNext (.ref a) >>= _) _ _ s
    refine wpAny_bind (next (A0 := A.in1) hh hroom hg hgs hn wk I hpl hss nx (fun s' b' H' pl' J qz _ => ?_) fun v s' b' y H4 n' Nx' pl' pf' σ8' gs' r q J hpl' hss' hgs' hpos hlt wk' hkeep => ?_)
    · exact wpAny_bind (wpAny_rule (wpAny_pure (hT s' H' pl' b' J qz)))
    · obtain ⟨k, rfl, q⟩ := q
      obtain rfl : v = Value.bool k := r
      refine wpAny_bind (wpAny_holding (wpAny_truthy_bool ?_))
      refine wpAny_bind (wpAny_letGo ?_)
      cases k with
      | true =>
        simp only [if_true] at q ⊢
        refine wpAny_pure ⟨plainId_quiet F.plain_all_loop _, ih n' hlt s' () H4 gs' pl' pf' σ8' Nx' (hpos _ _ q) (IsGen_keep hg (hkeep a ha)) hgs' wk' J hpl' hss' q⟩
      | false =>
        simp only [Bool.false_eq_true, if_false] at q ⊢
        exact wpAny_bind (wpAny_rule (wpAny_pure (hF s' H4 _ σ8' J q)))
theorem any_loop (hh : A.handled = none) (hroom : A.in1.depth < recursionLimit) (ha : a ∈ SS)
    (hT : ∀ s' H' pl b, Inv Xg pl σw H' s' → Qz b H' → R (.ok (.ret (.bool false))) s') (hF : ∀ s' H' pl σ', Inv Xg pl σ' H' s' → Qf H' → R (.ok (.ret (.bool true))) s') :
    ∀ (n : Nat) (s : Shared) (b : Unit) (H : Hp) (gs : GenState) (pl pf : List (Addr × Obj)) (σ8 : L2.St) (Nx : Unit → Hp → Prop), 0 < n → s.heap.IsGen a gn → s.gens[gn]? = some gs → Wk Xg σw SS (KAny Qf) Qz A.in1.in1 n Nx pf σ8 gs → Inv Xg (pl ++ pf) σ8 H s →
      (∀ p ∈ pl, p.1 ∈ SS) → SSp SS s pl → Nx b H → codeAny (model Xg.prog Xg.w) A (.builtin "any.loop" ⟨[.ref a], []⟩) R s := by
  intro n
  induction n using Nat.strongRecOn with
  | ind n ih =>
    intro s b H gs pl pf σ8 Nx hn hg hgs wk I hpl hss nx
    refine codeAny_builtin F.entry_any_loop ?_
    rw [Around.under_plainId F.plain_any_loop _]
    show wpAny _ A.in1 (pyNext (.ref a) >>= _) _ _ s
    refine wpAny_bind (next (A0 := A.in1) hh hroom hg hgs hn wk I hpl hss nx (fun s' b' H' pl' J qz _ => ?_) fun v s' b' y H4 n' Nx' pl' pf' σ8' gs' r q J hpl' hss' hgs' hpos hlt wk' hkeep => ?_)
    · exact wpAny_bind (wpAny_rule (wpAny_pure (hT s' H' pl' b' J qz)))
    · obtain ⟨k, rfl, q⟩ := q
      obtain rfl : v = Value.bool k := r
      refine wpAny_bind (wpAny_holding (wpAny_truthy_bool ?_))
      refine wpAny_bind (wpAny_letGo ?_)
      cases k with
      | false =>
        simp only [Bool.false_eq_true, if_false] at q ⊢
        refine wpAny_pure ⟨plainId_quiet F.plain_any_loop _, ih n' hlt s' () H4 gs' pl' pf' σ8' Nx' (hpos _ _ q) (IsGen_keep hg (hkeep a ha)) hgs' wk' J hpl' hss' q⟩
      | true =>
        simp only [if_true] at q ⊢
        exact wpAny_bind (wpAny_rule (wpAny_pure (hF s' H4 _ σ8' J q)))
end

/-! ### the rules -/
/-- a genexp under a consumer -/
def tG {β : Type} (P : Addr) (wi : TI) (g : TG) (tt : TT) (te : TE) (vs : List Nat) (b0 : β) (Kc : β → V → Hp → (β → Hp → Prop) → Prop) (Qz : β → Hp → Prop) : L2.St → Hp → Prop := fun σ H => wi σ H fun J H1 => GxR.TabG H1 P ∧ ∀ H2, GxR.Tabbed P H1 H2 →
  ∃ W : Nat → Nat → β → Hp → Prop, (∃ m, W 0 m b0 H2) ∧ Turns J g tt te (wipe σ vs) vs Kc Qz W
def tAllG (P : Addr) (wi : TI) (g : TG) (tt : TT) (te : TE) (vs : List Nat) : TE := fun σ H Q => tG P wi g tt te vs () (KAll fun H' => Q (.bl false) H') (fun _ H' => Q (.bl true) H') σ H
def tAnyG (P : Addr) (wi : TI) (g : TG) (tt : TT) (te : TE) (vs : List Nat) : TE := fun σ H Q => tG P wi g tt te vs () (KAny fun H' => Q (.bl true) H') (fun _ H' => Q (.bl false) H') σ H
section
variable {X : Cx} {c P : Addr} {elt tg iter : Expr} {ifs : List Expr} {gpos p pos : Pos} {scope : Scope} {own : List (Str × Nat)} {wi : TI} {g : TG} {tt : TT} {te : TE} {k : Nat}
/-- the genexp's own things -/
structure GOk (X : Cx) (k : Nat) (c P : Addr) (elt tg iter : Expr) (ifs : List Expr) (scope : Scope) (own : List (Str × Nat)) (wi : TI) (g : TG) (tt : TT) (te : TE) : Prop where
  hr : Room (k + 3) X.A
  TB : GxR.TabB X.base X.mg c P
  code : X.env.code = .ref c
  S : GSc X.N X.env.scope scope own
  hN : X.N.Nodup
  hi : PI X tg iter wi
  hs : ∀ v, genFold iter X.env v = pure v
  pg : ∀ (A : Around) (s : Shared) (H : Hp) (cv : Value) (fp : List Addr), Room k (cxG X A s H scope cv fp).A → PG (cxG X A s H scope cv fp) tg g
  pt : ∀ (A : Around) (s : Shared) (H : Hp) (cv : Value) (fp : List Addr), Room k (cxG X A s H scope cv fp).A → PTs (cxG X A s H scope cv fp) ifs tt
  pe : ∀ (A : Around) (s : Shared) (H : Hp) (cv : Value) (fp : List Addr), Room k (cxG X A s H scope cv fp).A → PE (cxG X A s H scope cv fp) elt te
theorem GOk.room (G : GOk X k c P elt tg iter ifs scope own wi g tt te) (s : Shared) (H : Hp) (cv : Value) (fp : List Addr) : Room k (cxG X X.A.in1.in1 s H scope cv fp).A :=
  (G.hr.in1.in1.deeper _ : Room k _)
theorem pe_allG (G : GOk X k c P elt tg iter ifs scope own wi g tt te) (hg : Gl X "all") (hm : X.mg "all" = none) (hb : bootBuiltins "all" = some (.builtin "all") := by decide +kernel)
    (he : starEach [.GeneratorExp elt [⟨tg, iter, ifs, 0⟩] scope gpos] X.env = (false, eval (.GeneratorExp elt [⟨tg, iter, ifs, 0⟩] scope gpos) X.env) :: starEach [] X.env := by rfl) :
    PE X (.Call (.Name "all" p) [.GeneratorExp elt [⟨tg, iter, ifs, 0⟩] scope gpos] [] pos) (tAllG P wi g tt te (own.map (·.2))) := by
  refine ⟨fun pins s σ H Q I h => ?_⟩
  refine wpAny_Call_Name_kw (ld_blt I hg hm hb ?_)
  refine PyProof.Rows.callWith_builtin1 ?_ he (by rfl)
  rw [he]
  show wpAny _ _ (spliced ((false, eval (.GeneratorExp elt [⟨tg, iter, ifs, 0⟩] scope gpos) X.env) :: backTo pos (starEach [] X.env))) _ _ s
  refine Calls.spliced_cons (make (own := own) G.hr G.TB G.code G.S G.hi G.hs I h fun J fp it tn sC HC code a s5 M hW => ?_)
  refine Calls.spliced_nil ?_
  obtain ⟨W, ⟨m, w0⟩, turn⟩ := hW
  refine call_function_tree F.kind_all F.plain_all F.entry_all (F.args_all1 _) ?_
  unfold Builtin.«all»
  refine wpAny_bind (m := oneArg "all" _) (wpAny_pure ?_)
  refine wpAny_bind (wpAny_pyIter_gen (M.gen fun _ _ e => e) ?_)
  have hfr : X.A.frames = some X.stack := I.ok.frames
  obtain ⟨pl, pf, gs, h1, h2, h3, h4, h5⟩ := M.wk (A := X.A.in1.in1) (SS := [a]) G.S G.hN G.hr.hd hfr (G.pg _ sC HC code fp (G.room sC HC code fp)) (G.pt _ sC HC code fp (G.room sC HC code fp)) (G.pe _ sC HC code fp (G.room sC HC code fp)) turn w0 (fun _ _ e => e) rfl rfl (fun b hb => by
    rw [List.mem_singleton.mp hb]
    obtain ⟨tk, q, ho⟩ := M.obj
    exact ⟨M.big, _, ho, fun v z => by cases z⟩)
  exact wpAny_pure ⟨plainId_quiet F.plain_all_loop _, all_loop (Xg := cxG X X.A.in1.in1 sC HC scope code fp) (A := X.A) (gn := sC.gens.size) G.hr.hd (by have := G.hr.dp; show X.A.depth < _; omega) List.mem_cons_self (fun s' H' pl b J q => (⟨.bl true, H', M.back (A := X.A.in1.in1) J, rfl, q⟩ : EP X pins σ Q (.bool true) s')) (fun s' H' pl σ' J q => (⟨.bl false, H', M.back (A := X.A.in1.in1) J, rfl, q⟩ : EP X pins σ Q (.bool false) s'))
    (m + 1) s5 () HC gs pl pf _ _ (Nat.succ_pos _) (M.gen fun _ _ e => e) h1 h5 h2 h3 h4 ⟨rfl, w0⟩⟩
theorem pe_anyG (G : GOk X k c P elt tg iter ifs scope own wi g tt te) (hg : Gl X "any") (hm : X.mg "any" = none) (hb : bootBuiltins "any" = some (.builtin "any") := by decide +kernel)
    (he : starEach [.GeneratorExp elt [⟨tg, iter, ifs, 0⟩] scope gpos] X.env = (false, eval (.GeneratorExp elt [⟨tg, iter, ifs, 0⟩] scope gpos) X.env) :: starEach [] X.env := by rfl) :
    PE X (.Call (.Name "any" p) [.GeneratorExp elt [⟨tg, iter, ifs, 0⟩] scope gpos] [] pos) (tAnyG P wi g tt te (own.map (·.2))) := by
  refine ⟨fun pins s σ H Q I h => ?_⟩
  refine wpAny_Call_Name_kw (ld_blt I hg hm hb ?_)
  refine PyProof.Rows.callWith_builtin1 ?_ he (by rfl)
  rw [he]
  show wpAny _ _ (spliced ((false, eval (.GeneratorExp elt [⟨tg, iter, ifs, 0⟩] scope gpos) X.env) :: backTo pos (starEach [] X.env))) _ _ s
  refine Calls.spliced_cons (make (own := own) G.hr G.TB G.code G.S G.hi G.hs I h fun J fp it tn sC HC code a s5 M hW => ?_)
  refine Calls.spliced_nil ?_
  obtain ⟨W, ⟨m, w0⟩, turn⟩ := hW
  refine call_function_tree F.kind_any F.plain_any F.entry_any (F.args_any1 _) ?_
  unfold Builtin.«any»
  refine wpAny_bind (m := oneArg "any" _) (wpAny_pure ?_)
  refine wpAny_bind (wpAny_pyIter_gen (M.gen fun _ _ e => e) ?_)
  have hfr : X.A.frames = some X.stack := I.ok.frames
  obtain ⟨pl, pf, gs, h1, h2, h3, h4, h5⟩ := M.wk (A := X.A.in1.in1) (SS := [a]) G.S G.hN G.hr.hd hfr (G.pg _ sC HC code fp (G.room sC HC code fp)) (G.pt _ sC HC code fp (G.room sC HC code fp)) (G.pe _ sC HC code fp (G.room sC HC code fp)) turn w0 (fun _ _ e => e) rfl rfl (fun b hb => by
    rw [List.mem_singleton.mp hb]
    obtain ⟨tk, q, ho⟩ := M.obj
    exact ⟨M.big, _, ho, fun v z => by cases z⟩)
  exact wpAny_pure ⟨plainId_quiet F.plain_any_loop _, any_loop (Xg := cxG X X.A.in1.in1 sC HC scope code fp) (A := X.A) (gn := sC.gens.size) G.hr.hd (by have := G.hr.dp; show X.A.depth < _; omega) List.mem_cons_self (fun s' H' pl b J q => (⟨.bl false, H', M.back (A := X.A.in1.in1) J, rfl, q⟩ : EP X pins σ Q (.bool false) s')) (fun s' H' pl σ' J q => (⟨.bl true, H', M.back (A := X.A.in1.in1) J, rfl, q⟩ : EP X pins σ Q (.bool true) s'))
    (m + 1) s5 () HC gs pl pf _ _ (Nat.succ_pos _) (M.gen fun _ _ e => e) h1 h5 h2 h3 h4 ⟨rfl, w0⟩⟩
end
end GX

set_option Elab.async false
set_option linter.all false
set_option maxRecDepth 100000
/-! N0: data D, the store of changing things, worlds, what stands for what. -/
namespace M
open PySem PySem.Spec L2

/-- a value told by what it is: tuples and lists by value (a list that is never changed again), adr n: the n-th changing thing -/
inductive D where
  | non | bl (b : Bool) | int (i : Int) | str (x : Str)
  | tup (ds : List D) | lst (ds : List D) | scr (ns : List Int)
  | obj (c : Str) (fs : List (Str × D))
  | adr (n : Nat)

/-- a changing thing -/
inductive Cell where
  | lst (ds : List D) | ins (c : Str) (fs : List (Str × D)) | froz

abbrev Mu := List Cell
abbrev Dl := List (Option D)
abbrev MG := Str → Option Value

/-- where the changing things stand; L: other places that change meanwhile (a comprehension's list) -/
structure Wd where
  A : List Addr
  μ : Mu
  L : Addr → Prop

def Wd.live (w : Wd) (a : Addr) : Prop := w.L a ∨ ∃ (n : Nat) (c : Cell), w.A[n]? = some a ∧ w.μ[n]? = some c ∧ c ≠ Cell.froz


/-- a tuple | a list that does not change -/
def TupAt (K : PySem.W.Frag) (w : Wd) (H : Hp) (a : Addr) (xs : List V) : Prop :=
  (¬ w.live a ∧ Rd H a (.tup xs)) ∨ ∃ (o : Obj) (its : Array Value) (n : Nat), K.lookup a = some o ∧ o.cls = .type "tuple" ∧ o.data = .seq its n ∧ its.size ≤ sizeLine ∧ Vals xs its.toList
def LstAt (w : Wd) (H : Hp) (a : Addr) (xs : List V) : Prop := ¬ w.live a ∧ H a = some (.lst xs)
theorem TupAt.sq {K : PySem.W.Frag} {w : Wd} {H : Hp} {a : Addr} {xs : List V} (h : TupAt K w H a xs) : SqT K H a xs := h.elim (fun h => .inl h.2) .inr
theorem LstAt.sq {K : PySem.W.Frag} {w : Wd} {H : Hp} {a : Addr} {xs : List V} (h : LstAt w H a xs) : SqL K H a xs := .inl (.inl h.2)
/-- the script's list: it never changes -/
def ScrAt (K : PySem.W.Frag) (w : Wd) (H : Hp) (a : Addr) (xs : List V) : Prop :=
  (¬ w.live a ∧ Rd H a (.lst xs)) ∨ ∃ (o : Obj) (its : Array Value) (n : Nat), K.lookup a = some o ∧ o.cls = .type "list" ∧ o.dict = none ∧ o.data = .seq its n ∧ its.size ≤ sizeLine ∧ Vals xs its.toList
theorem ScrAt.sq {K : PySem.W.Frag} {w : Wd} {H : Hp} {a : Addr} {xs : List V} (h : ScrAt K w H a xs) : SqL K H a xs := h.elim (fun h => .inl h.2) .inr

section
variable (K : PySem.W.Frag) (mg : MG) (w : Wd) (H : Hp)
mutual
def Is : D → V → Prop
  | .non, v => v = .non
  | .bl b, v => v = .bl b
  | .int i, v => v = .int i
  | .str x, v => v = .str x
  | .tup ds, v => ∃ a xs, v = .ref a ∧ TupAt K w H a xs ∧ IsL ds xs
  | .lst ds, v => ∃ a xs, v = .ref a ∧ LstAt w H a xs ∧ IsL ds xs
  | .scr ns, v => ∃ a, v = .ref a ∧ ScrAt K w H a (ns.map V.int)
  | .obj c fs, v => ∃ a C dx xs, v = .ref a ∧ ¬ w.live a ∧ mg c = some (.ref C) ∧ H a = some (.ins C dx xs) ∧ IsF fs xs
  | .adr n, v => ∃ a, v = .ref a ∧ w.A[n]? = some a
def IsL : List D → List V → Prop
  | [], xs => xs = []
  | d :: ds, xs => ∃ v r, xs = v :: r ∧ Is d v ∧ IsL ds r
def IsF : List (Str × D) → List (Str × V) → Prop
  | [], xs => xs = []
  | (f, d) :: ds, xs => ∃ v r, xs = (f, v) :: r ∧ Is d v ∧ IsF ds r
end
end

/-- from (w, H) on to (w', H'): what does not change stands -/
structure Xt (w : Wd) (H : Hp) (w' : Wd) (H' : Hp) : Prop where
  A : ∃ B, w'.A = w.A ++ B
  k : ∀ a o, ¬ w.live a → H a = some o → (∀ ps, o ≠ .tbl ps) → H' a = some o
  l : ∀ a o, ¬ w.live a → H a = some o → ¬ w'.live a
  t : ∀ a o, H a = some o → ∃ o', H' a = some o'
section
variable {K : PySem.W.Frag} {mg : MG} {w w' w2 : Wd} {H H' H2 : Hp}
theorem Xt.at (e : Xt w H w' H') {n : Nat} {a : Addr} (h : w.A[n]? = some a) : w'.A[n]? = some a := by
  obtain ⟨B, hB⟩ := e.A
  rw [hB, List.getElem?_append_left (List.getElem?_eq_some_iff.mp h).1]
  exact h
theorem rd_some {a : Addr} {u : HO} (h : Rd H a u) : ∃ o, H a = some o := h.elim (fun h => ⟨_, h⟩) fun ⟨_, h⟩ => ⟨_, h⟩
theorem rd_xt (e : Xt w H w' H') {a : Addr} {u : HO} (hl : ¬ w.live a) (hu : ∀ ps, u ≠ .tbl ps) (h : Rd H a u) : ¬ w'.live a ∧ Rd H' a u := by
  rcases h with h | ⟨o, h⟩
  · exact ⟨e.l a _ hl h, .inl (e.k a _ hl h hu)⟩
  · exact ⟨e.l a _ hl h, .inr ⟨o, e.k a _ hl h (fun ps z => by cases z)⟩⟩
theorem TupAt.xt (e : Xt w H w' H') {a : Addr} {xs : List V} (h : TupAt K w H a xs) : TupAt K w' H' a xs :=
  h.elim (fun h => .inl (rd_xt e h.1 (fun ps z => by cases z) h.2)) .inr
theorem LstAt.xt (e : Xt w H w' H') {a : Addr} {xs : List V} (h : LstAt w H a xs) : LstAt w' H' a xs :=
  ⟨e.l a _ h.1 h.2, e.k a _ h.1 h.2 (fun ps z => by cases z)⟩
theorem ScrAt.xt (e : Xt w H w' H') {a : Addr} {xs : List V} (h : ScrAt K w H a xs) : ScrAt K w' H' a xs :=
  h.elim (fun h => .inl (rd_xt e h.1 (fun ps z => by cases z) h.2)) .inr
mutual
theorem Is.xt (e : Xt w H w' H') : ∀ {d : D} {v : V}, Is K mg w H d v → Is K mg w' H' d v
  | .non, _, h => h
  | .bl _, _, h => h
  | .int _, _, h => h
  | .str _, _, h => h
  | .tup ds, v, h => by
    obtain ⟨a, xs, h1, h2, h3⟩ := h
    exact ⟨a, xs, h1, h2.xt e, IsL.xt e h3⟩
  | .lst ds, v, h => by
    obtain ⟨a, xs, h1, h2, h3⟩ := h
    exact ⟨a, xs, h1, h2.xt e, IsL.xt e h3⟩
  | .scr ns, v, h => by
    obtain ⟨a, h1, h2⟩ := h
    exact ⟨a, h1, h2.xt e⟩
  | .obj c fs, v, h => by
    obtain ⟨a, C, dx, xs, h1, h2, h3, h4, h5⟩ := h
    exact ⟨a, C, dx, xs, h1, e.l a _ h2 h4, h3, e.k a _ h2 h4 (fun ps z => by cases z), IsF.xt e h5⟩
  | .adr n, v, h => by
    obtain ⟨a, h1, h2⟩ := h
    exact ⟨a, h1, e.at h2⟩
theorem IsL.xt (e : Xt w H w' H') : ∀ {ds : List D} {xs : List V}, IsL K mg w H ds xs → IsL K mg w' H' ds xs
  | [], _, h => h
  | d :: ds, xs, h => by
    obtain ⟨v, r, h1, h2, h3⟩ := h
    exact ⟨v, r, h1, Is.xt e h2, IsL.xt e h3⟩
theorem IsF.xt (e : Xt w H w' H') : ∀ {ds : List (Str × D)} {xs : List (Str × V)}, IsF K mg w H ds xs → IsF K mg w' H' ds xs
  | [], _, h => h
  | (f, d) :: ds, xs, h => by
    obtain ⟨v, r, h1, h2, h3⟩ := h
    exact ⟨v, r, h1, Is.xt e h2, IsF.xt e h3⟩
end
end

/-- .. and what is locked stays as it is -/
structure Ext (w : Wd) (H : Hp) (w' : Wd) (H' : Hp) : Prop extends Xt w H w' H' where
  p : ∀ a, w.L a → H' a = H a ∧ w'.L a
theorem Ext.refl (w : Wd) (H : Hp) : Ext w H w H := ⟨⟨⟨[], by simp⟩, fun _ _ _ h _ => h, fun _ _ h _ => h, fun _ o h => ⟨o, h⟩⟩, fun _ h => ⟨rfl, h⟩⟩
section
variable {K : PySem.W.Frag} {mg : MG} {w w' w2 : Wd} {H H' H2 : Hp}
theorem Ext.at (e : Ext w H w' H') {n : Nat} {a : Addr} (h : w.A[n]? = some a) : w'.A[n]? = some a := e.toXt.at h
theorem Xt.trans (e : Xt w H w' H') (f : Xt w' H' w2 H2) : Xt w H w2 H2 where
  A := by
    obtain ⟨B, hB⟩ := e.A
    obtain ⟨C, hC⟩ := f.A
    exact ⟨B ++ C, by rw [hC, hB, List.append_assoc]⟩
  k := fun a o hl h ht => f.k a o (e.l a o hl h) (e.k a o hl h ht) ht
  l := fun a o hl h => by
    obtain ⟨o', h'⟩ := e.t a o h
    exact f.l a o' (e.l a o hl h) h'
  t := fun a o h => by
    obtain ⟨o', h'⟩ := e.t a o h
    exact f.t a o' h'
theorem Ext.trans (e : Ext w H w' H') (f : Ext w' H' w2 H2) : Ext w H w2 H2 := ⟨e.toXt.trans f.toXt, fun a h => by
    obtain ⟨h1, h2⟩ := e.p a h
    obtain ⟨h3, h4⟩ := f.p a h2
    exact ⟨h3.trans h1, h4⟩⟩
theorem Is.ext (e : Ext w H w' H') {d : D} {v : V} (h : Is K mg w H d v) : Is K mg w' H' d v := Is.xt e.toXt h
theorem IsL.ext (e : Ext w H w' H') {d : List D} {v : List V} (h : IsL K mg w H d v) : IsL K mg w' H' d v := IsL.xt e.toXt h
theorem IsF.ext (e : Ext w H w' H') {d : List (Str × D)} {v : List (Str × V)} (h : IsF K mg w H d v) : IsF K mg w' H' d v := IsF.xt e.toXt h
end

/-! ### lists of data -/
section
variable {K : PySem.W.Frag} {mg : MG} {w : Wd} {H : Hp}
theorem IsL.nil : IsL K mg w H [] [] := by unfold IsL; rfl
theorem IsL.cons {d : D} {v : V} {ds : List D} {xs : List V} (h : Is K mg w H d v) (h2 : IsL K mg w H ds xs) : IsL K mg w H (d :: ds) (v :: xs) := by
  unfold IsL
  exact ⟨v, xs, rfl, h, h2⟩
theorem IsL.of_nil {xs : List V} (h : IsL K mg w H [] xs) : xs = [] := by unfold IsL at h; exact h
theorem IsL.of_cons {d : D} {ds : List D} {xs : List V} (h : IsL K mg w H (d :: ds) xs) : ∃ v r, xs = v :: r ∧ Is K mg w H d v ∧ IsL K mg w H ds r := by unfold IsL at h; exact h
theorem IsL.length : ∀ {ds : List D} {xs : List V}, IsL K mg w H ds xs → xs.length = ds.length
  | [], _, h => by rw [h.of_nil]; rfl
  | d :: ds, xs, h => by
    obtain ⟨v, r, rfl, _, h3⟩ := h.of_cons
    rw [List.length_cons, List.length_cons, IsL.length h3]
theorem IsL.get : ∀ {ds : List D} {xs : List V} {i : Nat} {d : D}, IsL K mg w H ds xs → ds[i]? = some d → ∃ v, xs[i]? = some v ∧ Is K mg w H d v
  | [], _, _, _, _, e => by simp at e
  | d :: ds, xs, 0, d', h, e => by
    obtain ⟨v, r, rfl, h2, _⟩ := h.of_cons
    simp at e; subst e
    exact ⟨v, rfl, h2⟩
  | d :: ds, xs, i + 1, d', h, e => by
    obtain ⟨v, r, rfl, _, h3⟩ := h.of_cons
    obtain ⟨u, h4, h5⟩ := IsL.get h3 (by simpa using e)
    exact ⟨u, by simpa using h4, h5⟩
theorem IsL.get' {ds : List D} {xs : List V} {i : Nat} {x : V} (h : IsL K mg w H ds xs) (e : xs[i]? = some x) : ∃ d, ds[i]? = some d ∧ Is K mg w H d x := by
  have hi : i < ds.length := by rw [← h.length]; exact (List.getElem?_eq_some_iff.mp e).1
  obtain ⟨v, h1, h2⟩ := h.get (List.getElem?_eq_getElem hi)
  rw [e] at h1; cases h1
  exact ⟨_, List.getElem?_eq_getElem hi, h2⟩
theorem IsL.append : ∀ {ds es : List D} {xs ys : List V}, IsL K mg w H ds xs → IsL K mg w H es ys → IsL K mg w H (ds ++ es) (xs ++ ys)
  | [], _, _, _, h, h2 => by rw [h.of_nil]; exact h2
  | d :: ds, es, xs, ys, h, h2 => by
    obtain ⟨v, r, rfl, h3, h4⟩ := h.of_cons
    exact IsL.cons h3 (IsL.append h4 h2)
theorem IsL.set : ∀ {ds : List D} {xs : List V} (i : Nat) {d : D} {v : V}, IsL K mg w H ds xs → Is K mg w H d v → IsL K mg w H (ds.set i d) (xs.set i v)
  | [], _, _, _, _, h, _ => by rw [h.of_nil]; exact IsL.nil
  | d :: ds, xs, 0, _, _, h, h2 => by
    obtain ⟨v, r, rfl, _, h4⟩ := h.of_cons
    exact IsL.cons h2 h4
  | d :: ds, xs, i + 1, _, _, h, h2 => by
    obtain ⟨v, r, rfl, h3, h4⟩ := h.of_cons
    exact IsL.cons h3 (IsL.set i h4 h2)
theorem IsL.take : ∀ {ds : List D} {xs : List V} (n : Nat), IsL K mg w H ds xs → IsL K mg w H (ds.take n) (xs.take n)
  | _, _, 0, _ => by rw [List.take_zero, List.take_zero]; exact IsL.nil
  | [], _, n + 1, h => by rw [h.of_nil]; exact IsL.nil
  | d :: ds, xs, n + 1, h => by
    obtain ⟨v, r, rfl, h3, h4⟩ := h.of_cons
    exact IsL.cons h3 (IsL.take n h4)
theorem IsL.drop : ∀ {ds : List D} {xs : List V} (n : Nat), IsL K mg w H ds xs → IsL K mg w H (ds.drop n) (xs.drop n)
  | _, _, 0, h => by rw [List.drop_zero, List.drop_zero]; exact h
  | [], _, n + 1, h => by rw [h.of_nil]; exact IsL.nil
  | d :: ds, xs, n + 1, h => by
    obtain ⟨v, r, rfl, h3, h4⟩ := h.of_cons
    exact IsL.drop n h4
theorem IsL.reverse : ∀ {ds : List D} {xs : List V}, IsL K mg w H ds xs → IsL K mg w H ds.reverse xs.reverse
  | [], _, h => by rw [h.of_nil]; exact IsL.nil
  | d :: ds, xs, h => by
    obtain ⟨v, r, rfl, h3, h4⟩ := h.of_cons
    rw [List.reverse_cons, List.reverse_cons]
    exact IsL.append (IsL.reverse h4) (IsL.cons h3 IsL.nil)
theorem IsF.nil : IsF K mg w H [] [] := by unfold IsF; rfl
theorem IsF.of_nil {xs : List (Str × V)} (h : IsF K mg w H [] xs) : xs = [] := by unfold IsF at h; exact h
theorem IsF.of_cons {f : Str} {d : D} {ds : List (Str × D)} {xs : List (Str × V)} (h : IsF K mg w H ((f, d) :: ds) xs) : ∃ v r, xs = (f, v) :: r ∧ Is K mg w H d v ∧ IsF K mg w H ds r := by unfold IsF at h; exact h
theorem IsF.cons {f : Str} {d : D} {v : V} {ds : List (Str × D)} {xs : List (Str × V)} (h : Is K mg w H d v) (h2 : IsF K mg w H ds xs) : IsF K mg w H ((f, d) :: ds) ((f, v) :: xs) := by
  unfold IsF
  exact ⟨v, xs, rfl, h, h2⟩
theorem IsF.length : ∀ {ds : List (Str × D)} {xs : List (Str × V)}, IsF K mg w H ds xs → xs.length = ds.length
  | [], _, h => by rw [h.of_nil]; rfl
  | (f, d) :: ds, xs, h => by
    obtain ⟨v, r, rfl, _, h3⟩ := h.of_cons
    rw [List.length_cons, List.length_cons, IsF.length h3]
theorem IsF.look : ∀ {ds : List (Str × D)} {xs : List (Str × V)} {f : Str} {d : D}, IsF K mg w H ds xs → ds.lookup f = some d → ∃ v, xs.lookup f = some v ∧ Is K mg w H d v
  | [], _, _, _, _, e => by simp at e
  | (g, d) :: ds, xs, f, d', h, e => by
    obtain ⟨v, r, rfl, h2, h3⟩ := h.of_cons
    rw [List.lookup_cons] at e ⊢
    cases q : (f == g) with
    | true =>
      rw [q] at e; cases e
      exact ⟨v, rfl, h2⟩
    | false =>
      rw [q] at e
      exact IsF.look h3 e
theorem IsF.look_none : ∀ {ds : List (Str × D)} {xs : List (Str × V)} {f : Str}, IsF K mg w H ds xs → ds.lookup f = none → xs.lookup f = none
  | [], _, _, h, _ => by rw [h.of_nil]; rfl
  | (g, d) :: ds, xs, f, h, e => by
    obtain ⟨v, r, rfl, h2, h3⟩ := h.of_cons
    rw [List.lookup_cons] at e ⊢
    cases q : (f == g) with
    | true => rw [q] at e; cases e
    | false =>
      rw [q] at e
      exact IsF.look_none h3 e
/-- the fields with one stored, as the machine's own putF -/
def putD (f : Str) (d : D) : List (Str × D) → List (Str × D)
  | [] => [(f, d)]
  | (g, e) :: r => if g = f then (g, d) :: r else (g, e) :: putD f d r
end
end M

set_option Elab.async false
set_option linter.all false
set_option maxRecDepth 100000
/-! N1: what the store holds, the steps of a world, the judgements' meaning. -/
namespace M
open PySem PySem.Spec L2

/-- the program's surroundings: the written part, the module's names, the tables of code objects (of lambdas with their name; of generator expressions) -/
structure Gm where
  K : PySem.W.Frag
  mg : MG
  T : List (Addr × Str)
  G : List Addr

def CellIs (g : Gm) (w : Wd) (H : Hp) : Cell → Addr → Prop
  | .lst ds, a => ∃ xs, H a = some (.lst xs) ∧ IsL g.K g.mg w H ds xs
  | .ins c fs, a => ∃ C dx xs, g.mg c = some (.ref C) ∧ H a = some (.ins C dx xs) ∧ IsF g.K g.mg w H fs xs
  | .froz, _ => True
/-- the table at P: its triples are in form -/
def TabG (H : Hp) (P : Addr) : Prop := ∃ ps : Array Value, H P = some (.tbl ps) ∧ TriplesOk ps.toList
structure RepH (g : Gm) (w : Wd) (H : Hp) : Prop where
  len : w.A.length = w.μ.length
  nd : w.A.Nodup
  trk : ∀ a ∈ w.A, ∃ o, H a = some o ∧ ∀ ps, o ≠ .tbl ps
  trkL : ∀ a, w.L a → ∃ o, H a = some o ∧ ∀ ps, o ≠ .tbl ps
  nL : ∀ a ∈ w.A, ¬ w.L a
  cell : ∀ (n : Nat) (a : Addr) (c : Cell), w.A[n]? = some a → w.μ[n]? = some c → CellIs g w H c a
  tabs : LamX.Tabs g.T H
  tabg : ∀ P ∈ g.G, TabG H P

theorem CellIs.xt {g : Gm} {w w' : Wd} {H H' : Hp} (e : Xt w H w' H') {c : Cell} {a : Addr} (h : CellIs g w H c a) (ha : H' a = H a) : CellIs g w' H' c a := by
  cases c with
  | lst ds =>
    obtain ⟨xs, h1, h2⟩ := h
    exact ⟨xs, ha.trans h1, h2.xt e⟩
  | ins c fs =>
    obtain ⟨C, dx, xs, h1, h2, h3⟩ := h
    exact ⟨C, dx, xs, h1, ha.trans h2, h3.xt e⟩
  | froz => trivial

theorem CellIs.ext {g : Gm} {w w' : Wd} {H H' : Hp} (e : Ext w H w' H') {c : Cell} {a : Addr} (h : CellIs g w H c a) (ha : H' a = H a) : CellIs g w' H' c a := h.xt e.toXt ha
section
variable {g : Gm} {w w' : Wd} {H H' : Hp}
theorem RepH.live_trk (R : RepH g w H) {a : Addr} (h : w.live a) : ∃ o, H a = some o ∧ ∀ ps, o ≠ .tbl ps := by
  rcases h with h | ⟨n, c, h1, _, _⟩
  · exact R.trkL a h
  · exact R.trk a (List.mem_of_getElem? h1)
theorem RepH.fresh (R : RepH g w H) {p : Addr} (hp : H p = none) : ¬ w.live p ∧ p ∉ w.A := by
  constructor
  · intro h
    obtain ⟨o, h1, _⟩ := R.live_trk h
    rw [hp] at h1; cases h1
  · intro h
    obtain ⟨o, h1, _⟩ := R.trk p h
    rw [hp] at h1; cases h1
theorem RepH.tbl_ne (R : RepH g w H) {P : Addr} {ps : Array Value} (h : H P = some (.tbl ps)) : ¬ w.live P ∧ P ∉ w.A := by
  constructor
  · intro z
    obtain ⟨o, h1, h2⟩ := R.live_trk z
    rw [h] at h1; cases h1; exact h2 _ rfl
  · intro z
    obtain ⟨o, h1, h2⟩ := R.trk P z
    rw [h] at h1; cases h1; exact h2 _ rfl
theorem tabs_upd {T : List (Addr × Str)} {H : Hp} {p : Addr} {o : HO} (t : LamX.Tabs T H) (hp : (∀ ps, H p ≠ some (.tbl ps)) ) (hc : H p = none ∨ ∀ φ, H p ≠ some (.ext φ)) : LamX.Tabs T (upd H p o) := fun q hq => by
  obtain ⟨ps, h1, h2, h3⟩ := t q hq
  have n1 : q.1 ≠ p := fun z => hp ps (by rw [← z]; exact h1)
  refine ⟨ps, by rw [upd_ne n1]; exact h1, h2, fun pos cv hcv => ?_⟩
  obtain ⟨c, e1, e2⟩ := h3 pos cv hcv
  refine ⟨c, e1, ?_⟩
  have n2 : c ≠ p := fun z => by
    rw [z] at e2
    rcases hc with hc | hc
    · rw [hc] at e2; cases e2
    · exact hc _ e2
  rw [upd_ne n2]; exact e2
theorem tabg_upd {H : Hp} {p P : Addr} {o : HO} (t : TabG H P) (hp : ∀ ps, H p ≠ some (.tbl ps)) : TabG (upd H p o) P := by
  obtain ⟨ps, h1, h2⟩ := t
  have n1 : P ≠ p := fun z => hp ps (by rw [← z]; exact h1)
  exact ⟨ps, by rw [upd_ne n1]; exact h1, h2⟩

/-- a new thing that does not change -/
theorem RepH.ne_L (R : RepH g w H) {p a : Addr} (hp : H p = none) (h : w.L a) : a ≠ p := by
  obtain ⟨u, h1, _⟩ := R.trkL a h
  exact ne_of_none h1 hp
theorem Ext.new (R : RepH g w H) {p : Addr} {o : HO} (hp : H p = none) : Ext w H w (upd H p o) :=
  ⟨⟨⟨[], by simp⟩, fun a u _ h _ => by rw [upd_ne (ne_of_none h hp)]; exact h, fun _ _ h _ => h, fun a u h => ⟨u, by rw [upd_ne (ne_of_none h hp)]; exact h⟩⟩, fun a h => ⟨upd_ne (R.ne_L hp h), h⟩⟩
theorem RepH.new (R : RepH g w H) {p : Addr} {o : HO} (hp : H p = none) : RepH g w (upd H p o) := by
  have e : Ext w H w (upd H p o) := Ext.new R hp
  refine ⟨R.len, R.nd, fun a ha => ?_, fun a ha => ?_, R.nL, fun n a c h1 h2 => (R.cell n a c h1 h2).ext e ?_, tabs_upd R.tabs (fun ps z => by rw [hp] at z; cases z) (.inl hp), fun P hP => tabg_upd (R.tabg P hP) fun ps z => by rw [hp] at z; cases z⟩
  · obtain ⟨u, h, h'⟩ := R.trk a ha
    exact ⟨u, by rw [upd_ne (ne_of_none h hp)]; exact h, h'⟩
  · obtain ⟨u, h, h'⟩ := R.trkL a ha
    exact ⟨u, by rw [upd_ne (ne_of_none h hp)]; exact h, h'⟩
  · obtain ⟨u, h, h'⟩ := R.trk a (List.mem_of_getElem? h1)
    exact upd_ne (ne_of_none h hp)
/-- a new thing that changes -/
def Wd.push (w : Wd) (p : Addr) (c : Cell) : Wd := ⟨w.A ++ [p], w.μ ++ [c], w.L⟩
theorem Wd.push_live {w : Wd} {p a : Addr} {c : Cell} (len : w.A.length = w.μ.length) (h : (w.push p c).live a) : w.live a ∨ a = p := by
  rcases h with h | ⟨n, c', h1, h2, h3⟩
  · exact .inl (.inl h)
  · have h1 : (w.A ++ [p])[n]? = some a := h1
    have h2 : (w.μ ++ [c])[n]? = some c' := h2
    by_cases hn : n < w.A.length
    · rw [List.getElem?_append_left hn] at h1
      rw [List.getElem?_append_left (by omega)] at h2
      exact .inl (.inr ⟨n, c', h1, h2, h3⟩)
    · rw [List.getElem?_append_right (by omega)] at h1
      obtain ⟨i, hi⟩ : ∃ i, n - w.A.length = i := ⟨_, rfl⟩
      rw [hi] at h1
      cases i with
      | zero => simp at h1; exact .inr h1.symm
      | succ i => simp at h1
theorem Ext.alloc (R : RepH g w H) {p : Addr} {o : HO} {c : Cell} (hp : H p = none) : Ext w H (w.push p c) (upd H p o) :=
  ⟨⟨⟨[p], rfl⟩, fun a u _ h _ => by rw [upd_ne (ne_of_none h hp)]; exact h, fun a u h h' z => (Wd.push_live R.len z).elim h (ne_of_none h' hp), fun a u h => ⟨u, by rw [upd_ne (ne_of_none h hp)]; exact h⟩⟩, fun a h => ⟨upd_ne (R.ne_L hp h), h⟩⟩
theorem RepH.alloc (R : RepH g w H) {p : Addr} {o : HO} {c : Cell} (hp : H p = none) (ho : ∀ ps, o ≠ .tbl ps) (hc : CellIs g (w.push p c) (upd H p o) c p) : RepH g (w.push p c) (upd H p o) := by
  have e : Ext w H (w.push p c) (upd H p o) := Ext.alloc R hp
  have hpA := (R.fresh hp).2
  refine ⟨?_, ?_, fun a ha => ?_, fun a ha => ?_, fun a ha hl => ?_, fun n a c' h1 h2 => ?_, tabs_upd R.tabs (fun ps z => by rw [hp] at z; cases z) (.inl hp), fun P hP => tabg_upd (R.tabg P hP) fun ps z => by rw [hp] at z; cases z⟩
  · show (w.A ++ [p]).length = (w.μ ++ [c]).length
    rw [List.length_append, List.length_append, R.len]; rfl
  · show (w.A ++ [p]).Nodup
    rw [List.nodup_append]
    refine ⟨R.nd, by simp, fun a ha b hb z => ?_⟩
    rw [List.mem_singleton] at hb
    rw [z, hb] at ha
    exact hpA ha
  · rcases List.mem_append.mp (show a ∈ w.A ++ [p] from ha) with ha | ha
    · obtain ⟨u, h, h'⟩ := R.trk a ha
      exact ⟨u, by rw [upd_ne (ne_of_none h hp)]; exact h, h'⟩
    · rw [List.mem_singleton] at ha
      rw [ha]
      exact ⟨o, upd_same, ho⟩
  · obtain ⟨u, h, h'⟩ := R.trkL a ha
    exact ⟨u, by rw [upd_ne (ne_of_none h hp)]; exact h, h'⟩
  · rcases List.mem_append.mp (show a ∈ w.A ++ [p] from ha) with ha | ha
    · exact R.nL a ha hl
    · rw [List.mem_singleton] at ha
      obtain ⟨u, h, _⟩ := R.trkL a hl
      rw [ha, hp] at h; cases h
  · have h1 : (w.A ++ [p])[n]? = some a := h1
    have h2 : (w.μ ++ [c])[n]? = some c' := h2
    have hl := R.len
    by_cases hn : n < w.A.length
    · rw [List.getElem?_append_left hn] at h1
      rw [List.getElem?_append_left (by omega)] at h2
      refine (R.cell n a c' h1 h2).ext e ?_
      obtain ⟨u, h, _⟩ := R.trk a (List.mem_of_getElem? h1)
      exact upd_ne (ne_of_none h hp)
    · rw [List.getElem?_append_right (by omega)] at h1
      rw [List.getElem?_append_right (by omega)] at h2
      obtain ⟨i, hi⟩ : ∃ i, n - w.A.length = i := ⟨_, rfl⟩
      rw [hi] at h1
      rw [← R.len, hi] at h2
      cases i with
      | zero =>
        simp at h1 h2
        subst h1 h2
        exact hc
      | succ i => simp at h1
/-- a changing thing changes -/
def Wd.put (w : Wd) (n : Nat) (c : Cell) : Wd := ⟨w.A, w.μ.set n c, w.L⟩
theorem Wd.put_live {w : Wd} {n : Nat} {a b : Addr} {c : Cell} (hn : w.A[n]? = some a) (h : (w.put n c).live b) : w.live b ∨ (b = a ∧ c ≠ .froz) := by
  rcases h with h | ⟨m, c', h1, h2, h3⟩
  · exact .inl (.inl h)
  · have h1 : w.A[m]? = some b := h1
    have h2 : (w.μ.set n c)[m]? = some c' := h2
    by_cases hm : n = m
    · subst hm
      rw [hn] at h1
      have hb : b = a := (Option.some.inj h1).symm
      by_cases hs : n < w.μ.length
      · rw [List.getElem?_set_self hs] at h2
        cases h2
        exact .inr ⟨hb, h3⟩
      · rw [List.getElem?_eq_none (by rw [List.length_set]; omega)] at h2; cases h2
    · rw [List.getElem?_set_ne hm] at h2
      exact .inl (.inr ⟨m, c', h1, h2, h3⟩)
theorem nodup_get {A : List Addr} (nd : A.Nodup) {n m : Nat} {a : Addr} (h1 : A[n]? = some a) (h2 : A[m]? = some a) : n = m := by
  obtain ⟨l1, e1⟩ := List.getElem?_eq_some_iff.mp h1
  obtain ⟨l2, e2⟩ := List.getElem?_eq_some_iff.mp h2
  exact (List.getElem_inj nd).mp (e1.trans e2.symm)
theorem Ext.put (R : RepH g w H) {n : Nat} {a : Addr} {o : HO} {c c' : Cell} (hn : w.A[n]? = some a) (hc : w.μ[n]? = some c) (hf : c ≠ .froz) : Ext w H (w.put n c') (upd H a o) := by
  have hl : w.live a := .inr ⟨n, c, hn, hc, hf⟩
  refine ⟨⟨⟨[], by simp [Wd.put]⟩, fun b u hb h _ => ?_, fun b u hb h z => ?_, fun b u h => ?_⟩, fun b h => ⟨upd_ne (fun z => R.nL a (List.mem_of_getElem? hn) (by rw [← z]; exact h)), h⟩⟩
  · rw [upd_ne (fun z => hb (by rw [z]; exact hl))]; exact h
  · rcases Wd.put_live hn z with z | z
    · exact hb z
    · exact hb (by rw [z.1]; exact hl)
  · by_cases e : b = a
    · rw [e]; exact ⟨o, upd_same⟩
    · exact ⟨u, by rw [upd_ne e]; exact h⟩
theorem RepH.put (R : RepH g w H) {n : Nat} {a : Addr} {o : HO} {c c' : Cell} (hn : w.A[n]? = some a) (hc : w.μ[n]? = some c) (hf : c ≠ .froz) (ho : ∀ ps, o ≠ .tbl ps) (hx : ∀ φ, H a ≠ some (.ext φ))
    (hc' : CellIs g (w.put n c') (upd H a o) c' a) : RepH g (w.put n c') (upd H a o) := by
  have e : Ext w H (w.put n c') (upd H a o) := Ext.put R hn hc hf
  have hat : ∀ ps, H a ≠ some (.tbl ps) := fun ps z => by
    obtain ⟨u, h, h'⟩ := R.trk a (List.mem_of_getElem? hn)
    rw [z] at h; cases h; exact h' _ rfl
  refine ⟨by show w.A.length = (w.μ.set n c').length; rw [List.length_set]; exact R.len, R.nd, fun b hb => ?_, fun b hb => ?_, R.nL, fun m b d h1 h2 => ?_, tabs_upd R.tabs hat (.inr hx), fun P hP => tabg_upd (R.tabg P hP) hat⟩
  · by_cases eb : b = a
    · rw [eb]; exact ⟨o, upd_same, ho⟩
    · obtain ⟨u, h, h'⟩ := R.trk b hb
      exact ⟨u, by rw [upd_ne eb]; exact h, h'⟩
  · by_cases eb : b = a
    · rw [eb]; exact ⟨o, upd_same, ho⟩
    · obtain ⟨u, h, h'⟩ := R.trkL b hb
      exact ⟨u, by rw [upd_ne eb]; exact h, h'⟩
  · have h1 : w.A[m]? = some b := h1
    have h2 : (w.μ.set n c')[m]? = some d := h2
    by_cases hm : n = m
    · subst hm
      rw [hn] at h1; cases h1
      have hs : n < w.μ.length := by rw [← R.len]; exact (List.getElem?_eq_some_iff.mp hn).1
      rw [List.getElem?_set_self hs] at h2
      cases h2
      exact hc'
    · rw [List.getElem?_set_ne hm] at h2
      refine (R.cell m b d h1 h2).ext e ?_
      exact upd_ne (fun z => hm (nodup_get R.nd hn (by rw [← z]; exact h1)))
/-- a thing changes no more -/
theorem Ext.frz (R : RepH g w H) {n : Nat} {a : Addr} (hn : w.A[n]? = some a) : Ext w H (w.put n .froz) H := by
  refine ⟨⟨⟨[], by simp [Wd.put]⟩, fun b u hb h _ => h, fun b u hb h z => ?_, fun b u h => ⟨u, h⟩⟩, fun b h => ⟨rfl, h⟩⟩
  rcases Wd.put_live hn z with z | z
  · exact hb z
  · exact z.2 rfl
theorem RepH.frz (R : RepH g w H) {n : Nat} {a : Addr} (hn : w.A[n]? = some a) : RepH g (w.put n .froz) H := by
  have e : Ext w H (w.put n .froz) H := Ext.frz R hn
  refine ⟨by show w.A.length = (w.μ.set n _).length; rw [List.length_set]; exact R.len, R.nd, R.trk, R.trkL, R.nL, fun m b d h1 h2 => ?_, R.tabs, R.tabg⟩
  have h1 : w.A[m]? = some b := h1
  have h2 : (w.μ.set n .froz)[m]? = some d := h2
  by_cases hm : n = m
  · subst hm
    have hs : n < w.μ.length := by rw [← R.len]; exact (List.getElem?_eq_some_iff.mp hn).1
    rw [List.getElem?_set_self hs] at h2
    cases h2
    trivial
  · rw [List.getElem?_set_ne hm] at h2
    exact (R.cell m b d h1 h2).ext e rfl
theorem frz_not_live (R : RepH g w H) {n : Nat} {a : Addr} (hn : w.A[n]? = some a) : ¬ (w.put n .froz).live a := fun z => by
  rcases z with z | ⟨m, c, h1, h2, h3⟩
  · exact R.nL a (List.mem_of_getElem? hn) z
  · have h1 : w.A[m]? = some a := h1
    have h2 : (w.μ.set n .froz)[m]? = some c := h2
    have hm := nodup_get R.nd hn h1
    subst hm
    have hs : n < w.μ.length := by rw [← R.len]; exact (List.getElem?_eq_some_iff.mp hn).1
    rw [List.getElem?_set_self hs] at h2
    cases h2
    exact h3 rfl
end

/-! ### exceptions, results -/
structure Exn where
  cls : Str
  fs : List (Str × D)
def IsX (g : Gm) (w : Wd) (H : Hp) (x : Exn) (cls : Value) (d : Option Addr) : Prop :=
  ∃ C, g.mg x.cls = some (.ref C) ∧ cls = .ref C ∧ match x.fs with
    | [] => d = none
    | fs => ∃ (dd : Addr) (xs : List (Str × V)), d = some dd ∧ ¬ w.live dd ∧ H dd = some (.xd xs) ∧ IsF g.K g.mg w H fs xs
inductive Out (α : Type) where
  | ok (a : α) | exc (x : Exn)
abbrev Mo (α : Type) := Option (Out α × Mu)
def mBind {α β : Type} (x : Mo α) (f : α → Mu → Mo β) : Mo β := match x with
  | none => none
  | some (.ok a, μ) => f a μ
  | some (.exc e, μ) => some (.exc e, μ)
def mOk {α : Type} (a : α) (μ : Mu) : Mo α := some (.ok a, μ)
def mOpt {α : Type} (o : Option α) (μ : Mu) : Mo α := match o with
  | none => none
  | some a => mOk a μ

/-- what the reading is to come to -/
def Post {α β : Type} (g : Gm) (w : Wd) (H : Hp) (E : XK) (o : Mo α) (rel : Wd → Hp → α → β → Prop) (Q : β → Hp → Prop) : Prop :=
  ∃ r μ', o = some (r, μ') ∧ match r with
    | .ok a => ∀ A' H' b, Ext w H ⟨A', μ', w.L⟩ H' → RepH g ⟨A', μ', w.L⟩ H' → rel ⟨A', μ', w.L⟩ H' a b → Q b H'
    | .exc x => ∀ A' H' cls d, Ext w H ⟨A', μ', w.L⟩ H' → RepH g ⟨A', μ', w.L⟩ H' → IsX g ⟨A', μ', w.L⟩ H' x cls d → E cls d H'
section
variable {α β γ δ : Type} {g : Gm} {w : Wd} {H : Hp} {E : XK}
theorem Post.ok {a : α} {b : β} {μ : Mu} {rel : Wd → Hp → α → β → Prop} {Q : β → Hp → Prop} (P : Post g w H E (mOk a μ) rel Q) {A' : List Addr} {H' : Hp} (e : Ext w H ⟨A', μ, w.L⟩ H') (R : RepH g ⟨A', μ, w.L⟩ H') (r : rel ⟨A', μ, w.L⟩ H' a b) : Q b H' := by
  obtain ⟨r', μ', h1, h2⟩ := P
  cases h1
  exact h2 A' H' b e R r
/-- nothing has changed -/
theorem Post.here {a : α} {b : β} {rel : Wd → Hp → α → β → Prop} {Q : β → Hp → Prop} (P : Post g w H E (mOk a w.μ) rel Q) (R : RepH g w H) (r : rel w H a b) : Q b H :=
  Post.ok (A' := w.A) P (Ext.refl w H) R r
theorem Post.bind {x : Mo α} {f : α → Mu → Mo β} {rel : Wd → Hp → β → γ → Prop} {Q : γ → Hp → Prop} {relA : Wd → Hp → α → δ → Prop} {Q' : δ → Hp → Prop} (P : Post g w H E (mBind x f) rel Q)
    (k : ∀ w1 H1 a b, Ext w H w1 H1 → RepH g w1 H1 → w1.L = w.L → relA w1 H1 a b → Post g w1 H1 E (f a w1.μ) rel Q → Q' b H1) : Post g w H E x relA Q' := by
  obtain ⟨r, μ', h1, h2⟩ := P
  cases x with
  | none => cases h1
  | some p =>
    obtain ⟨o, μ1⟩ := p
    cases o with
    | exc e =>
      have h1 : some ((Out.exc e : Out β), μ1) = some (r, μ') := h1
      cases h1
      exact ⟨.exc e, _, rfl, h2⟩
    | ok a =>
      have h1 : f a μ1 = some (r, μ') := h1
      refine ⟨.ok a, μ1, rfl, fun A1 H1 b e1 R1 r1 => k ⟨A1, μ1, w.L⟩ H1 a b e1 R1 rfl r1 ⟨r, μ', h1, ?_⟩⟩
      cases r with
      | ok c => exact fun A' H' d e2 R2 r2 => h2 A' H' d (e1.trans e2) R2 r2
      | exc c => exact fun A' H' cls d e2 R2 r2 => h2 A' H' cls d (e1.trans e2) R2 r2
theorem Post.opt {o : Option α} {μ : Mu} {rel : Wd → Hp → α → β → Prop} {Q : β → Hp → Prop} (P : Post g w H E (mOpt o μ) rel Q) : ∃ a, o = some a ∧ Post g w H E (mOk a μ) rel Q := by
  cases o with
  | none =>
    obtain ⟨r, μ', h1, _⟩ := P
    cases h1
  | some a => exact ⟨a, rfl, P⟩
theorem Post.none {rel : Wd → Hp → α → β → Prop} {Q : β → Hp → Prop} (P : Post g w H E (none : Mo α) rel Q) : False := by
  obtain ⟨_, _, h, _⟩ := P
  cases h
/-- from a world on -/
theorem Post.on {w1 : Wd} {H1 : Hp} {o : Mo α} {rel : Wd → Hp → α → β → Prop} {Q : β → Hp → Prop} (P : Post g w H E o rel Q) (e : Ext w H w1 H1) (hL : w1.L = w.L) : Post g w1 H1 E o rel Q := by
  obtain ⟨r, μ', h1, h2⟩ := P
  refine ⟨r, μ', h1, ?_⟩
  rw [hL]
  cases r with
  | ok a => exact fun A' H' b e2 R2 r2 => h2 A' H' b (e.trans e2) R2 r2
  | exc x => exact fun A' H' cls d e2 R2 r2 => h2 A' H' cls d (e.trans e2) R2 r2
end

/-! ### slots -/
def Sl (g : Gm) (w : Wd) (H : Hp) (Δ : Dl) (σ : St) : Prop := σ.length = Δ.length ∧ ∀ (i : Nat) d, Δ[i]? = some (some d) → ∃ v, σ[i]? = some (some v) ∧ Is g.K g.mg w H d v
theorem Sl.ext {g : Gm} {w w' : Wd} {H H' : Hp} {Δ : Dl} {σ : St} (s : Sl g w H Δ σ) (e : Ext w H w' H') : Sl g w' H' Δ σ :=
  ⟨s.1, fun i d h => let ⟨v, h1, h2⟩ := s.2 i d h; ⟨v, h1, h2.ext e⟩⟩
theorem Sl.set {g : Gm} {w : Wd} {H : Hp} {Δ : Dl} {σ : St} (s : Sl g w H Δ σ) {i : Nat} {d : D} {v : V} (h : Is g.K g.mg w H d v) : Sl g w H (Δ.set i (some d)) (σ.set i (some v)) := by
  refine ⟨by rw [List.length_set, List.length_set]; exact s.1, fun j d' hj => ?_⟩
  by_cases e : i = j
  · subst e
    have hi : i < Δ.length := by
      have := (List.getElem?_eq_some_iff.mp hj).1
      rwa [List.length_set] at this
    rw [List.getElem?_set_self hi] at hj
    cases hj
    exact ⟨v, by rw [List.getElem?_set_self (by rw [s.1]; exact hi)], h⟩
  · rw [List.getElem?_set_ne e] at hj ⊢
    exact s.2 j d' hj
structure Rep (g : Gm) (w : Wd) (H : Hp) (Δ : Dl) (σ : St) : Prop where
  h : RepH g w H
  s : Sl g w H Δ σ

abbrev IsV (g : Gm) : Wd → Hp → D → V → Prop := fun w H d v => Is g.K g.mg w H d v
abbrev IsVs (g : Gm) : Wd → Hp → List D → List V → Prop := fun w H d v => IsL g.K g.mg w H d v
abbrev IsB : Wd → Hp → Bool → Bool → Prop := fun _ _ a b => a = b
inductive Fl where
  | nx | rt (d : D) | bk | ct
abbrev DE := Dl → Mu → Mo D
abbrev DT := Dl → Mu → Mo Bool
abbrev DA := Dl → Mu → Mo (List D)
abbrev DS := Dl → Mu → Mo (Fl × Dl)
/-- the end of a statement: where it goes on -/
inductive Go where
  | nx (σ : St) | rt (v : V) | bk (σ : St) | ct (σ : St)
def IsG (g : Gm) : Wd → Hp → (Fl × Dl) → Go → Prop := fun w H f o => match f.1, o with
  | .nx, .nx σ => Sl g w H f.2 σ
  | .bk, .bk σ => Sl g w H f.2 σ
  | .ct, .ct σ => Sl g w H f.2 σ
  | .rt d, .rt v => Is g.K g.mg w H d v
  | _, _ => False
def gQ (D : Ends) : Go → Hp → Prop := fun o H => match o with
  | .nx σ => D.nx σ H
  | .rt v => D.rt v H
  | .bk σ => D.bk σ H
  | .ct σ => D.ct σ H

/-! ### readings by meanings -/
section
variable (g : Gm) (E : XK)
def tE (m : DE) : TE := fun σ H Q => ∃ w Δ, Rep g w H Δ σ ∧ Post g w H E (m Δ w.μ) (IsV g) Q
def tT (m : DT) : TT := fun σ H Q => ∃ w Δ, Rep g w H Δ σ ∧ Post g w H E (m Δ w.μ) IsB Q
def tA (m : DA) : TA := fun σ H Q => ∃ w Δ, Rep g w H Δ σ ∧ Post g w H E (m Δ w.μ) (IsVs g) Q
def tS (m : DS) : TS := fun D σ H => ∃ w Δ, Rep g w H Δ σ ∧ Post g w H E (m Δ w.μ) (IsG g) (gQ D)
/-- an operation on values -/
def S1 (r : V → Hp → VK → Prop) (f : D → Mu → Mo D) : Prop := ∀ (w : Wd) (H : Hp) (a : D) (va : V) (Q : VK), RepH g w H → Is g.K g.mg w H a va → Post g w H E (f a w.μ) (IsV g) Q → r va H Q
def S2 (r : R2) (f : D → D → Mu → Mo D) : Prop := ∀ (w : Wd) (H : Hp) (a b : D) (va vb : V) (Q : VK), RepH g w H → Is g.K g.mg w H a va → Is g.K g.mg w H b vb → Post g w H E (f a b w.μ) (IsV g) Q → r va vb H Q
def SC (r : List V → Hp → VK → Prop) (f : List D → Mu → Mo D) : Prop := ∀ (w : Wd) (H : Hp) (ds : List D) (vs : List V) (Q : VK), RepH g w H → IsL g.K g.mg w H ds vs → Post g w H E (f ds w.μ) (IsV g) Q → r vs H Q
end
/-! ### weakening -/
section
variable {X : Cx}
theorem pe_mono {e : Expr} {t t' : TE} (h : PE X e t) (i : ∀ σ H Q, t' σ H Q → t σ H Q) : PE X e t' := ⟨fun pins s σ H Q I q => h.run pins s σ H Q I (i σ H Q q)⟩
theorem pt_mono {e : Expr} {t t' : TT} (h : PT X e t) (i : ∀ σ H Q, t' σ H Q → t σ H Q) : PT X e t' := ⟨fun pins s σ H Q I q => h.run pins s σ H Q I (i σ H Q q)⟩
theorem pw_mono {e : Expr} {t t' : TT} (h : PW X e t) (i : ∀ σ H Q, t' σ H Q → t σ H Q) : PW X e t' := ⟨fun wh pins s σ H Q I q => h.run wh pins s σ H Q I (i σ H Q q)⟩
theorem pa_mono {e : List Expr} {t t' : TA} (h : PA X e t) (i : ∀ σ H Q, t' σ H Q → t σ H Q) : PA X e t' := ⟨fun pos pins s σ H Q I q => h.run pos pins s σ H Q I (i σ H Q q)⟩
theorem ps_mono {e : Stmt} {t t' : TS} (h : PS X e t) (i : ∀ D σ H, t' D σ H → t D σ H) : PS X e t' := ⟨fun pins s σ H D I q => h.run pins s σ H D I (i D σ H q)⟩
theorem pss_mono {e : List Stmt} {t t' : TS} (h : PSs X e t) (i : ∀ D σ H, t' D σ H → t D σ H) : PSs X e t' := ⟨fun pins s σ H D I q => h.run pins s σ H D I (i D σ H q)⟩
end
end M

set_option Elab.async false
set_option linter.all false
set_option maxRecDepth 100000
/-! N2: the small language and its meaning. -/
namespace M
open PySem PySem.Spec L2

mutual
def D.beq : D → D → Bool
  | .non, .non => true
  | .bl a, .bl b => a == b
  | .int a, .int b => decide (a = b)
  | .str a, .str b => decide (a = b)
  | .tup a, .tup b => D.beqL a b
  | .lst a, .lst b => D.beqL a b
  | .scr a, .scr b => decide (a = b)
  | .obj c f, .obj c' f' => decide (c = c') && D.beqF f f'
  | .adr a, .adr b => decide (a = b)
  | _, _ => false
def D.beqL : List D → List D → Bool
  | [], [] => true
  | a :: r, b :: s => D.beq a b && D.beqL r s
  | _, _ => false
def D.beqF : List (Str × D) → List (Str × D) → Bool
  | [], [] => true
  | (f, a) :: r, (g, b) :: s => decide (f = g) && D.beq a b && D.beqF r s
  | _, _ => false
end
mutual
theorem D.beq_eq : ∀ {a b : D}, D.beq a b = true → a = b
  | .non, b, h => by cases b <;> simp [D.beq] at h ⊢
  | .bl a, b, h => by cases b <;> simp [D.beq] at h ⊢; exact h
  | .int a, b, h => by cases b <;> simp [D.beq] at h ⊢; exact h
  | .str a, b, h => by cases b <;> simp [D.beq] at h ⊢; exact h
  | .tup a, b, h => by cases b <;> simp [D.beq] at h ⊢; exact D.beqL_eq h
  | .lst a, b, h => by cases b <;> simp [D.beq] at h ⊢; exact D.beqL_eq h
  | .scr a, b, h => by cases b <;> simp [D.beq] at h ⊢; exact h
  | .obj c f, b, h => by cases b <;> simp [D.beq] at h ⊢; exact ⟨h.1, D.beqF_eq h.2⟩
  | .adr a, b, h => by cases b <;> simp [D.beq] at h ⊢; exact h
theorem D.beqL_eq : ∀ {a b : List D}, D.beqL a b = true → a = b
  | [], b, h => by cases b <;> simp [D.beqL] at h ⊢
  | a :: r, b, h => by
    cases b with
    | nil => simp [D.beqL] at h
    | cons b s =>
      simp only [D.beqL, Bool.and_eq_true] at h
      rw [D.beq_eq h.1, D.beqL_eq h.2]
theorem D.beqF_eq : ∀ {a b : List (Str × D)}, D.beqF a b = true → a = b
  | [], b, h => by cases b <;> simp [D.beqF] at h ⊢
  | (f, a) :: r, b, h => by
    cases b with
    | nil => simp [D.beqF] at h
    | cons b s =>
      obtain ⟨g, b⟩ := b
      simp only [D.beqF, Bool.and_eq_true, decide_eq_true_eq] at h
      rw [h.1.1, D.beq_eq h.1.2, D.beqF_eq h.2]
end
mutual
theorem D.beq_self : ∀ a : D, D.beq a a = true
  | .non => by simp [D.beq]
  | .bl a => by simp [D.beq]
  | .int a => by simp [D.beq]
  | .str a => by simp [D.beq]
  | .tup a => by simp only [D.beq]; exact D.beqL_self a
  | .lst a => by simp only [D.beq]; exact D.beqL_self a
  | .scr a => by simp [D.beq]
  | .obj c f => by simp only [D.beq, decide_true, Bool.true_and]; exact D.beqF_self f
  | .adr a => by simp [D.beq]
theorem D.beqL_self : ∀ a : List D, D.beqL a a = true
  | [] => by simp [D.beqL]
  | a :: r => by simp only [D.beqL, Bool.and_eq_true]; exact ⟨D.beq_self a, D.beqL_self r⟩
theorem D.beqF_self : ∀ a : List (Str × D), D.beqF a a = true
  | [] => by simp [D.beqF]
  | (f, a) :: r => by simp only [D.beqF, decide_true, Bool.true_and, Bool.and_eq_true]; exact ⟨D.beq_self a, D.beqF_self r⟩
end
theorem D.beqL_iff {a b : List D} : D.beqL a b = true ↔ a = b := ⟨D.beqL_eq, fun h => h ▸ D.beqL_self a⟩

/-! ### operations on data -/
abbrev big : Nat := 1000000
/-- a new list: by value, or one that may change -/
def dNew (m : Bool) (xs : List D) (μ : Mu) : Mo D := if xs.length ≤ big then (if m then mOk (.adr μ.length) (μ ++ [.lst xs]) else mOk (.lst xs) μ) else none
/-- a list's items -/
def rdL (d : D) (μ : Mu) : Option (List D) := match d with
  | .lst xs => some xs
  | .adr n => match μ[n]? with
    | some (.lst xs) => some xs
    | _ => none
  | _ => none
/-- a list's or a tuple's items -/
def rdS (d : D) (μ : Mu) : Option (List D) := match d with
  | .tup xs => some xs
  | .scr ns => some (ns.map .int)
  | d => rdL d μ
/-- an instance: its class, its fields -/
def rdI (d : D) (μ : Mu) : Option (Str × List (Str × D)) := match d with
  | .obj c fs => some (c, fs)
  | .adr n => match μ[n]? with
    | some (.ins c fs) => some (c, fs)
    | _ => none
  | _ => none
def truD (d : D) (μ : Mu) : Option Bool := match d with
  | .non => some false
  | .bl b => some b
  | .int i => some (decide (i ≠ 0))
  | .str x => if x.length ≤ big then some (decide (x.length ≠ 0)) else none
  | d => (rdS d μ).map fun xs => !xs.isEmpty
def okMul (i j : Int) : Bool := decide (i.natAbs < 2 ^ 64) || decide (j.natAbs < 2 ^ 64) || decide (i.natAbs.log2 + j.natAbs.log2 < 1000000)
def okDiv (j : Int) : Bool := decide (0 < j) && (decide (j.natAbs < 2 ^ 64) || decide (j.natAbs.log2 < 9000))
def okPow (i j : Int) : Bool := decide (0 ≤ j) && decide (j ≤ 1000000) && decide (i.natAbs < 2 ^ 64)
inductive Ob where
  | add | sub | mul | fdiv | mod | pow | shl | shr | band | bor
/-- two ints -/
def iBin (o : Ob) (i j : Int) : Option Int := match o with
  | .add => some (i + j)
  | .sub => some (i - j)
  | .mul => if okMul i j then some (i * j) else none
  | .fdiv => if okDiv j then some (i / j) else none
  | .mod => if 0 < j then some (i % j) else none
  | .pow => if okPow i j then some (i ^ j.toNat) else none
  | .shl => if okPow i j then some (i * 2 ^ j.toNat) else none
  | .shr => if 0 ≤ j then some (i / 2 ^ j.toNat) else none
  | .band => some (Builtin.bitAnd i j)
  | .bor => some (Builtin.bitOr i j)
def dBin (o : Ob) (m : Bool) (a b : D) (μ : Mu) : Mo D := match a, b with
  | .int i, .int j => mOpt ((iBin o i j).map .int) μ
  | .tup xs, .tup ys => match o with
    | .add => if xs.length + ys.length ≤ big then mOk (.tup (xs ++ ys)) μ else none
    | _ => none
  | .str x, .str y => match o with
    | .add => if x.length + y.length ≤ big then mOk (.str (x ++ y)) μ else none
    | _ => none
  | .tup xs, .int k => match o with
    | .mul => if xs ≠ [] ∧ 2 ≤ k ∧ k ≤ 1000 ∧ xs.length ≤ 1000 then mOk (.tup (List.replicate k.toNat xs).flatten) μ else none
    | _ => none
  | a, .int k => match o with
    | .mul => match rdL a μ with
      | some xs => if -1000000 ≤ k ∧ k ≤ 1000000 ∧ xs.length * k.toNat ≤ big then dNew m (List.replicate k.toNat xs).flatten μ else none
      | none => none
    | _ => none
  | a, b => match o with
    | .add => match rdL a μ, rdL b μ with
      | some xs, some ys => dNew m (xs ++ ys) μ
      | _, _ => none
    | _ => none
def optMap {α β : Type} (f : α → Option β) : List α → Option (List β)
  | [] => some []
  | a :: r => match f a, optMap f r with
    | some b, some s => some (b :: s)
    | _, _ => none
/-- plain data, read -/
def pyD : Nat → Mu → D → Option PyData
  | 0, _, _ => none
  | n + 1, μ, d => match d with
    | .non => some .none
    | .bl b => some (.bool b)
    | .int i => some (.int i)
    | .str x => if PyData.strOk x then some (.str x) else none
    | .tup ds => (optMap (fun e => pyD n μ e) ds).map .tuple
    | .lst ds => (optMap (fun e => pyD n μ e) ds).map .list
    | .scr ns => some (.list (ns.map .int))
    | .adr k => match μ[k]? with
      | some (.lst ds) => (optMap (fun e => pyD n μ e) ds).map .list
      | _ => none
    | .obj _ _ => none
inductive Oc where
  | eq | ne | lt | le | gt | ge | is_ | isnt | in_ | nin
/-- flat data: what may be looked for -/
def flatD : D → Bool
  | .non | .bl _ | .int _ | .str _ => true
  | _ => false
def flV : D → V
  | .non => .non
  | .bl b => .bl b
  | .int i => .int i
  | .str x => .str x
  | _ => .non
def cmpI (p : Int → Int → Bool) : D → D → Option Bool
  | .int i, .int j => some (p i j)
  | _, _ => none
def dCmp (o : Oc) (a b : D) (μ : Mu) : Option Bool := match o with
  | .eq => match pyD 16 μ a, pyD 16 μ b with
    | some x, some y => some (PyData.eqv x y)
    | _, _ => none
  | .ne => match pyD 16 μ a, pyD 16 μ b with
    | some x, some y => some (!PyData.eqv x y)
    | _, _ => none
  | .lt => cmpI (fun i j => decide (i < j)) a b
  | .le => cmpI (fun i j => decide (i ≤ j)) a b
  | .gt => cmpI (fun i j => decide (j < i)) a b
  | .ge => cmpI (fun i j => decide (j ≤ i)) a b
  | .is_ => match a, b with
    | .non, .non => some true
    | _, .non => some false
    | .bl x, .bl y => some (decide (x = y))
    | _, _ => none
  | .isnt => match a, b with
    | .non, .non => some false
    | _, .non => some true
    | .bl x, .bl y => some (!decide (x = y))
    | _, _ => none
  | .in_ => match rdS b μ with
    | some xs => if flatD a && xs.all flatD then some (inV (flV a) (xs.map flV)) else none
    | none => none
  | .nin => match rdS b μ with
    | some xs => if flatD a && xs.all flatD then some (!inV (flV a) (xs.map flV)) else none
    | none => none
/-- a[b] -/
def dIx (a b : D) (μ : Mu) : Option D := match b with
  | .int i => match a with
    | .scr ns => (atI ns i).map .int
    | .str x => if x.length ≤ big then (atI x.cps.toList i).map fun c => .str ⟨#[c]⟩ else none
    | a => (rdS a μ).bind fun xs => atI xs i
  | _ => none
def cutD (xs : List D) (lo hi : Option Int) : List D := (xs.drop (HT.sIx xs.length 0 lo)).take (HT.sIx xs.length xs.length hi - HT.sIx xs.length 0 lo)
/-- a[lo:hi] -/
def dSl (m : Bool) (a : D) (lo hi : Option Int) (μ : Mu) : Mo D := match a with
  | .tup xs => mOk (.tup (cutD xs lo hi)) μ
  | a => match rdL a μ with
    | some xs => dNew m (cutD xs lo hi) μ
    | none => none
/-- a[::-1] -/
def dRev (m : Bool) (a : D) (μ : Mu) : Mo D := match a with
  | .tup xs => mOk (.tup xs.reverse) μ
  | a => match rdL a μ with
    | some xs => dNew m xs.reverse μ
    | none => none
/-- o[i] = v -/
def dSetX (o i v : D) (μ : Mu) : Option Mu := match o, i with
  | .adr n, .int k => match μ[n]? with
    | some (.lst xs) => match ixN xs.length k with
      | some j => some (μ.set n (.lst (xs.set j v)))
      | none => none
    | _ => none
  | _, _ => none
inductive Bt where
  | int | bool | str | tuple | list | dict | none
  deriving DecidableEq
inductive Ty where
  | bt (t : Bt) | own (c : Str)
def btN : Bt → String
  | .int => "int" | .bool => "bool" | .str => "str" | .tuple => "tuple" | .list => "list" | .dict => "dict" | .none => "NoneType"
def tyD (d : D) (μ : Mu) : Option Ty := match d with
  | .non => some (.bt .none)
  | .bl _ => some (.bt .bool)
  | .int _ => some (.bt .int)
  | .str _ => some (.bt .str)
  | .tup _ => some (.bt .tuple)
  | .lst _ | .scr _ => some (.bt .list)
  | .obj c _ => some (.own c)
  | .adr n => match μ[n]? with
    | some (.lst _) => some (.bt .list)
    | some (.ins c _) => some (.own c)
    | _ => Option.none
def isTy : Ty → Ty → Bool
  | .bt a, .bt b => decide (a = b) || (decide (a = .bool) && decide (b = .int))
  | .own c, .own c' => decide (c = c')
  | _, _ => false

/-! ### the language -/
/-- functions of values -/
inductive Bi where
  | len | abs | min2 | max2 | int | list (m : Bool) | tuple | sum
/-- a list's methods -/
inductive Mt where
  | append | extend | pop
  deriving DecidableEq
inductive IT where
  | nm (i : Nat) | tup (ts : List IT)
/-- consumers of a generator expression -/
inductive Gk where
  | all | any | sum | tuple
mutual
inductive IE where
  | var (i : Nat) | cst (d : D)
  | bin (o : Ob) (m : Bool) (a b : IE) | neg (a : IE)
  | cmp (o : Oc) (a b : IE) | chain (o p : Oc) (a b c : IE)
  | not_ (a : IE) | and_ (a b : IE) | or_ (a b : IE) | ite (c : IC) (a b : IE)
  | tup (es : IA) | lst (m : Bool) (es : IA)
  | ix (a b : IE) | sl (m : Bool) (a : IE) (lo hi : IO) | rev (m : Bool) (a : IE)
  | att (a : IE) (f : Str)
  | call (f : Str) (es : IA) | mk (c : Str) (fr : Bool) (es : IA) | meth (f : Str) (a : IE) (es : IA)
  | bi (b : Bi) (es : IA) | mt (b : Mt) (a : IE) (es : IA)
  | isi (a : IE) (ts : List Ty)
  | lc (m : Bool) (t : IT) (i : II) (c : IC) (e : IE) (own : List Nat)
  | gn (k : Gk) (t : IT) (i : II) (c : IC) (e : IE) (own : List Nat)
  | heard (e : IE)
inductive IC where
  | yes | tru (e : IE) | not (a : IC) | and (a b : IC) | or (a b : IC)
inductive IA where
  | nil | cons (e : IE) (r : IA)
inductive II where
  | seq (e : IE) | rng (es : IA) | enm (e : IE) | zip (a b : IE)
inductive IO where
  | no | some (e : IE)
end
inductive IS where
  | skip | seq (a b : IS) | ex (e : IE)
  | asg (t : IT) (e : IE) | par (is : List Nat) (es : IA)
  | setx (o i v : IE) | setf (o : IE) (f : Str) (v : IE)
  | aug (i : Nat) (o : Ob) (e : IE) | augx (a i : IE) (o : Ob) (e : IE) | augf (a : IE) (f : Str) (o : Ob) (e : IE)
  | ite (c : IC) (a b : IS) | whil (c : IC) (b : IS) | for_ (t : IT) (i : II) (b : IS)
  | ret (e : IE) | brk | cnt | raise (c : Str) (es : IA)

/-! ### its meaning -/
/-- a class: the fields, the properties -/
structure CI where
  flds : List Str
  props : List Str
  meths : List Str
  ini : Bool
/-- a program: its functions, its classes, its exceptions (with the fields), its constants -/
structure Pg where
  fns : List Str
  cls : List (Str × CI)
  exc : List (Str × List Str)
  cons : List (Str × D)
  mu_ : List (Nat × Nat)
  frz : List Str
  hrd : Bool
/-- its meaning: what a call comes to; the most turns of a while -/
structure Ev where
  P : Pg
  call : Str → Str → List D → Mu → Mo D
  W : Nat
def Ev.cls (S : Ev) (c : Str) : Option CI := S.P.cls.lookup c
def Ev.exc (S : Ev) (c : Str) : Option (List Str) := S.P.exc.lookup c
def knownTy (S : Ev) : Ty → Bool
  | .bt _ => true
  | .own c => (S.cls c).isSome
def dIsi (S : Ev) (d : D) (ts : List Ty) (μ : Mu) : Option Bool := match tyD d μ with
  | some t => if knownTy S t && ts.all (knownTy S) then some (ts.any (isTy t)) else none
  | none => none
mutual
def tgD : IT → D → Dl → Option Dl
  | .nm i, d, Δ => some (Δ.set i (some d))
  | .tup ts, d, Δ => match d with
    | .tup ds => tgDs ts ds Δ
    | _ => none
def tgDs : List IT → List D → Dl → Option Dl
  | [], [], Δ => some Δ
  | t :: ts, d :: ds, Δ => match tgD t d Δ with
    | some Δ' => tgDs ts ds Δ'
    | none => none
  | _, _, _ => none
end
/-- an exception is not followed here -/
def noX {α : Type} (x : Mo α) : Mo α := match x with
  | some (.ok a, μ) => some (.ok a, μ)
  | _ => none
def wipeD (Δ : Dl) : List Nat → Dl
  | [] => Δ
  | v :: vs => (wipeD Δ vs).set v none
/-- lists that are walked stand as they were -/
def lockOk (ls : List (Nat × List D)) (μ : Mu) : Bool := ls.all fun p => match μ[p.1]? with
  | some (.lst ds) => D.beqL ds p.2
  | _ => false
def lockL (d : D) (ds : List D) : List (Nat × List D) := match d with
  | .adr n => [(n, ds)]
  | _ => []
abbrev ItD := List D × List (Nat × List D)
def forD (t : IT) (b : DS) (ls : List (Nat × List D)) : List D → DS
  | [], Δ, μ => if lockOk ls μ then mOk (.nx, Δ) μ else none
  | d :: ds, Δ, μ => if lockOk ls μ then mBind (mOpt (tgD t d Δ) μ) fun Δ1 μ1 => mBind (b Δ1 μ1) fun r μ2 => match r.1 with
      | .nx => forD t b ls ds r.2 μ2
      | .ct => forD t b ls ds r.2 μ2
      | .bk => mOk (.nx, r.2) μ2
      | .rt d => mOk (.rt d, r.2) μ2
    else none
def whileD (c : DT) (b : DS) : Nat → DS
  | 0, _, _ => none
  | n + 1, Δ, μ => mBind (c Δ μ) fun k μ1 => if k then mBind (b Δ μ1) fun r μ2 => match r.1 with
      | .nx => whileD c b n r.2 μ2
      | .ct => whileD c b n r.2 μ2
      | .bk => mOk (.nx, r.2) μ2
      | .rt d => mOk (.rt d, r.2) μ2
    else mOk (.nx, Δ) μ1
/-- a comprehension's turns; the list so far -/
def compD (t : IT) (c : DT) (e : DE) (Δ : Dl) (ls : List (Nat × List D)) : List D → List D → Mu → Mo (List D)
  | [], acc, μ => if lockOk ls μ then mOk acc μ else none
  | d :: ds, acc, μ => if lockOk ls μ then mBind (mOpt (tgD t d Δ) μ) fun Δ1 μ1 => mBind (noX (c Δ1 μ1)) fun k μ2 =>
      if k then mBind (noX (e Δ1 μ2)) fun y μ3 => if acc.length < big then compD t c e Δ ls ds (acc ++ [y]) μ3 else none
      else compD t c e Δ ls ds acc μ2
    else none
/-- a generator's turns under a consumer that folds -/
def genD {β : Type} (t : IT) (c : DT) (e : DE) (Δ : Dl) (ls : List (Nat × List D)) (f : β → D → Option (β ⊕ D)) (z : β → D) : List D → β → Mu → Mo D
  | [], b, μ => if lockOk ls μ then mOk (z b) μ else none
  | d :: ds, b, μ => if lockOk ls μ then mBind (mOpt (tgD t d Δ) μ) fun Δ1 μ1 => mBind (noX (c Δ1 μ1)) fun k μ2 =>
      if k then mBind (noX (e Δ1 μ2)) fun y μ3 => match f b y with
        | some (.inl b') => genD t c e Δ ls f z ds b' μ3
        | some (.inr d) => mOk d μ3
        | none => none
      else genD t c e Δ ls f z ds b μ2
    else none
def foldAll (_ : Unit) (d : D) : Option (Unit ⊕ D) := match d with
  | .bl true => some (.inl ())
  | .bl false => some (.inr (.bl false))
  | _ => none
def foldAny (_ : Unit) (d : D) : Option (Unit ⊕ D) := match d with
  | .bl true => some (.inr (.bl true))
  | .bl false => some (.inl ())
  | _ => none
def foldSum (i : Int) (d : D) : Option (Int ⊕ D) := match d with
  | .int j => if i.natAbs < 2 ^ 60 ∧ j.natAbs < 2 ^ 60 ∧ (i + j).natAbs < 2 ^ 60 then some (.inl (i + j)) else none
  | .bl b => if i.natAbs < 2 ^ 60 then some (.inl (i + if b then 1 else 0)) else none
  | _ => none
def foldTup (xs : List D) (d : D) : Option (List D ⊕ D) := if xs.length < big then some (.inl (xs ++ [d])) else none
def gnD (k : Gk) (t : IT) (c : DT) (e : DE) (Δ : Dl) (ls : List (Nat × List D)) (ds : List D) (μ : Mu) : Mo D := match k with
  | .all => genD t c e Δ ls foldAll (fun _ => .bl true) ds () μ
  | .any => genD t c e Δ ls foldAny (fun _ => .bl false) ds () μ
  | .sum => genD t c e Δ ls foldSum .int ds 0 μ
  | .tuple => genD t c e Δ ls foldTup .tup ds [] μ
/-- own things of the new part are told by value: what may not change any more -/
def fzD (n : Nat) (μ : Mu) : Nat → D → Option D
  | 0, _ => none
  | k + 1, d => match d with
    | .tup ds => (optMap (fun e => fzD n μ k e) ds).map .tup
    | .lst ds => (optMap (fun e => fzD n μ k e) ds).map .lst
    | .obj c fs => (optMap (fun e => (fzD n μ k e.2).map fun v => (e.1, v)) fs).map (.obj c)
    | .adr m => if m < n then some (.adr m) else match μ[m]? with
      | some (.lst ds) => (optMap (fun e => fzD n μ k e) ds).map .lst
      | some (.ins c fs) => (optMap (fun e => (fzD n μ k e.2).map fun v => (e.1, v)) fs).map (.obj c)
      | _ => none
    | d => some d
mutual
def D.und (n : Nat) : D → Bool
  | .tup ds => D.undL n ds
  | .lst ds => D.undL n ds
  | .obj _ fs => D.undF n fs
  | .adr m => decide (m < n)
  | .non => true
  | .bl _ => true
  | .int _ => true
  | .str _ => true
  | .scr _ => true
def D.undL (n : Nat) : List D → Bool
  | [] => true
  | d :: r => D.und n d && D.undL n r
def D.undF (n : Nat) : List (Str × D) → Bool
  | [] => true
  | (_, d) :: r => D.und n d && D.undF n r
end
/-- a cell speaks of the first n alone -/
def belowC (n : Nat) (c : Cell) : Bool := match c with
  | .lst ds => D.undL n ds
  | .ins _ fs => D.undF n fs
  | .froz => true
def Cell.beq : Cell → Cell → Bool
  | .lst a, .lst b => D.beqL a b
  | .ins c f, .ins c' f' => decide (c = c') && D.beqF f f'
  | .froz, .froz => true
  | _, _ => false
/-- every old cell stands as it was or speaks of old cells alone -/
def trimOk (n : Nat) : Mu → Mu → Bool
  | c :: μ, c' :: μ' => (Cell.beq c c' || belowC n c') && trimOk n μ μ'
  | [], _ => true
  | _, _ => false
/-- the end of a def that hands nothing changing out -/
def fzR (μ : Mu) (x : Mo D) : Mo D := match x with
  | some (.ok d, μ') => if trimOk μ.length μ μ' then mOpt (fzD μ.length μ' 16 d) (μ'.take μ.length) else none
  | some (.exc e, μ') => if trimOk μ.length μ μ' then match optMap (fun f => (fzD μ.length μ' 16 f.2).map fun v => (f.1, v)) e.fs with
      | some fs => some (.exc ⟨e.cls, fs⟩, μ'.take μ.length)
      | none => none
    else none
  | none => none
def dAtt (S : Ev) (f : Str) (d : D) (μ : Mu) : Mo D := match rdI d μ with
  | some (c, fs) => match S.cls c with
    | some ci => if ci.props.contains f then noX (S.call c f [d] μ) else if ci.flds.contains f then mOpt (fs.lookup f) μ else none
    | none => none
  | none => none
def dSetF (S : Ev) (d : D) (f : Str) (v : D) (μ : Mu) : Option Mu := match d with
  | .adr n => match μ[n]? with
    | some (.ins c fs) => match S.cls c with
      | some ci => if ci.flds.contains f ∧ fs.length < 1000 then some (μ.set n (.ins c (putD f v fs))) else none
      | none => none
    | _ => none
  | _ => none
def dMeth (S : Ev) (m : Str) (d : D) (μ0 : Mu) (k : (Str → Mo D)) : Mo D := match rdI d μ0 with
  | some (c, fs) => match S.cls c with
    | some ci => if ci.meths.contains m ∧ (fs.lookup m).isNone then k c else none
    | none => none
  | none => none
def dMk (S : Ev) (c : Str) (fr : Bool) (ds : List D) (μ : Mu) : Mo D :=
  let r : Mo D := mBind (S.call c "__init__" (.adr μ.length :: ds) (μ ++ [.ins c []])) fun v μ1 => match v with
    | .non => mOk (.adr μ.length) μ1
    | _ => none
  if fr then fzR μ r else r
def lenD (d : D) (μ : Mu) : Option Nat := match d with
  | .str x => if x.length ≤ big then some x.length else none
  | .scr ns => some ns.length
  | d => (rdS d μ).map (·.length)
def intsD : List D → Option (List Int)
  | [] => some []
  | .int j :: r => (intsD r).map fun l => j :: l
  | _ => none
def dBi (S : Ev) (b : Bi) (ds : List D) (μ : Mu) : Mo D := match b, ds with
  | .len, [d] => match rdI d μ with
    | some (c, _) => match S.cls c with
      | some ci => if ci.meths.contains "__len__" then mBind (noX (S.call c "__len__" [d] μ)) fun v μ1 => match v with
          | .int i => if 0 ≤ i ∧ i ≤ big then mOk (.int i) μ1 else none
          | _ => none
        else none
      | none => none
    | none => mOpt ((lenD d μ).map fun (n : Nat) => D.int (n : Int)) μ
  | .abs, [.int i] => mOk (.int (if i < 0 then -i else i)) μ
  | .min2, [.int i, .int j] => mOk (.int (if j < i then j else i)) μ
  | .max2, [.int i, .int j] => mOk (.int (if j > i then j else i)) μ
  | .int, [.int i] => mOk (.int i) μ
  | .int, [.bl b] => mOk (.int (if b then 1 else 0)) μ
  | .list m, [d] => match rdS d μ with
    | some xs => dNew m xs μ
    | none => none
  | .tuple, [d] => match rdS d μ with
    | some xs => mOk (.tup xs) μ
    | none => none
  | .sum, [d] => match rdL d μ with
    | some xs => mOpt ((intsD xs).map fun l => .int l.sum) μ
    | none => none
  | _, _ => none
def dMt (b : Mt) (d : D) (ds : List D) (μ : Mu) : Mo D := match d with
  | .adr n => match μ[n]? with
    | some (.lst xs) => match b, ds with
      | .append, [y] => if xs.length < big then some (.ok .non, μ.set n (.lst (xs ++ [y]))) else none
      | .extend, [y] => match rdL y μ with
        | some ys => if xs.length + ys.length ≤ big then some (.ok .non, μ.set n (.lst (xs ++ ys))) else none
        | none => none
      | .pop, [] => match xs.getLast? with
        | some y => some (.ok y, μ.set n (.lst xs.dropLast))
        | none => none
      | _, _ => none
    | _ => none
  | _ => none
def isTup : D → Bool
  | .tup _ => true
  | _ => false
def enumD : Nat → List D → List D
  | _, [] => []
  | i, d :: r => .tup [.int i, d] :: enumD (i + 1) r
def zipD : List D → List D → List D
  | a :: r, b :: s => .tup [a, b] :: zipD r s
  | _, _ => []
def rngD (lo : Int) : Nat → List D
  | 0 => []
  | n + 1 => .int lo :: rngD (lo + 1) n
def dRng (ds : List D) : Option (List D) := match ds with
  | [.int j] => if -(2 ^ 62) ≤ j ∧ j < 2 ^ 62 then some (rngD 0 j.toNat) else none
  | [.int i, .int j] => if -(2 ^ 62) ≤ i ∧ i < 2 ^ 62 ∧ -(2 ^ 62) ≤ j ∧ j < 2 ^ 62 then some (rngD i (j - i).toNat) else none
  | _ => none
/-- what the law's helper tells of an exception -/
def heardD (x : Exn) : Option D := match x.fs with
  | [(f, v)] => if x.cls = ("BadArgument" : Str) ∧ f = ("name" : Str) then some (.tup [.str "bad", v, .bl true]) else if x.cls = ("NoPlan" : Str) ∧ f = ("ring" : Str) then some (.tup [.str "no plan", v, .bl true]) else none
  | _ => none
mutual
def evE (S : Ev) : IE → DE
  | .var i => fun Δ μ => match Δ[i]? with
    | some (some d) => mOk d μ
    | _ => none
  | .cst d => fun _ μ => mOk d μ
  | .bin o m a b => fun Δ μ => mBind (evE S a Δ μ) fun x μ1 => mBind (evE S b Δ μ1) fun y μ2 => dBin o m x y μ2
  | .neg a => fun Δ μ => mBind (evE S a Δ μ) fun x μ1 => match x with
    | .int i => mOk (.int (-i)) μ1
    | _ => none
  | .cmp o a b => fun Δ μ => mBind (evE S a Δ μ) fun x μ1 => mBind (evE S b Δ μ1) fun y μ2 => mOpt ((dCmp o x y μ2).map .bl) μ2
  | .chain o p a b c => fun Δ μ => mBind (evE S a Δ μ) fun x μ1 => mBind (evE S b Δ μ1) fun y μ2 => mBind (mOpt (dCmp o x y μ2) μ2) fun k μ3 =>
    if k then mBind (evE S c Δ μ3) fun z μ4 => mOpt ((dCmp p y z μ4).map .bl) μ4 else mOk (.bl false) μ3
  | .not_ a => fun Δ μ => mBind (evE S a Δ μ) fun x μ1 => match x with
    | .bl k => mOk (.bl (!k)) μ1
    | _ => none
  | .and_ a b => fun Δ μ => mBind (evE S a Δ μ) fun x μ1 => match x with
    | .bl k => if k then evE S b Δ μ1 else mOk (.bl false) μ1
    | _ => none
  | .or_ a b => fun Δ μ => mBind (evE S a Δ μ) fun x μ1 => match x with
    | .bl k => if k then mOk (.bl true) μ1 else evE S b Δ μ1
    | _ => none
  | .ite c a b => fun Δ μ => mBind (evC S c Δ μ) fun k μ1 => if k then evE S a Δ μ1 else evE S b Δ μ1
  | .tup es => fun Δ μ => mBind (evA S es Δ μ) fun ds μ1 => if ds.length ≤ big then mOk (.tup ds) μ1 else none
  | .lst m es => fun Δ μ => mBind (evA S es Δ μ) fun ds μ1 => dNew m ds μ1
  | .ix a b => fun Δ μ => mBind (evE S a Δ μ) fun x μ1 => mBind (evE S b Δ μ1) fun y μ2 => mOpt (dIx x y μ2) μ2
  | .sl m a lo hi => fun Δ μ => mBind (evE S a Δ μ) fun x μ1 => mBind (evO S lo Δ μ1) fun l μ2 => mBind (evO S hi Δ μ2) fun h μ3 => dSl m x l h μ3
  | .rev m a => fun Δ μ => mBind (evE S a Δ μ) fun x μ1 => dRev m x μ1
  | .att a f => fun Δ μ => mBind (evE S a Δ μ) fun x μ1 => dAtt S f x μ1
  | .call f es => fun Δ μ => mBind (evA S es Δ μ) fun ds μ1 => S.call "" f ds μ1
  | .mk c fr es => fun Δ μ => mBind (evA S es Δ μ) fun ds μ1 => dMk S c fr ds μ1
  | .meth f a es => fun Δ μ => mBind (evE S a Δ μ) fun x μ1 => dMeth S f x μ1 fun c => mBind (evA S es Δ μ1) fun ds μ2 => S.call c f (x :: ds) μ2
  | .bi b es => fun Δ μ => mBind (evA S es Δ μ) fun ds μ1 => dBi S b ds μ1
  | .mt b a es => fun Δ μ => mBind (evE S a Δ μ) fun x μ1 => match rdL x μ1 with
    | some _ => mBind (evA S es Δ μ1) fun ds μ2 => dMt b x ds μ2
    | none => none
  | .isi a ts => fun Δ μ => mBind (evE S a Δ μ) fun x μ1 => mOpt ((dIsi S x ts μ1).map .bl) μ1
  | .lc m t i c e own => fun Δ μ => mBind (evI S i Δ μ) fun p μ1 => mBind (compD t (evC S c) (evE S e) (wipeD Δ own) p.2 p.1 [] μ1) fun ds μ2 =>
    if m then mOk (.adr μ2.length) (μ2 ++ [.lst ds]) else mOk (.lst ds) μ2
  | .gn k t i c e own => fun Δ μ => mBind (evI S i Δ μ) fun p μ1 => gnD k t (evC S c) (evE S e) (wipeD Δ own) p.2 p.1 μ1
  | .heard e => fun Δ μ => match evE S e Δ μ with
    | some (.ok _, μ1) => mOk (.tup []) μ1
    | some (.exc x, μ1) => mOpt (heardD x) μ1
    | none => none
def evC (S : Ev) : IC → DT
  | .yes => fun _ μ => mOk true μ
  | .tru e => fun Δ μ => mBind (evE S e Δ μ) fun x μ1 => mOpt (truD x μ1) μ1
  | .not a => fun Δ μ => mBind (evC S a Δ μ) fun k μ1 => mOk (!k) μ1
  | .and a b => fun Δ μ => mBind (evC S a Δ μ) fun k μ1 => if k then evC S b Δ μ1 else mOk false μ1
  | .or a b => fun Δ μ => mBind (evC S a Δ μ) fun k μ1 => if k then mOk true μ1 else evC S b Δ μ1
def evA (S : Ev) : IA → DA
  | .nil => fun _ μ => mOk [] μ
  | .cons e r => fun Δ μ => mBind (evE S e Δ μ) fun x μ1 => mBind (evA S r Δ μ1) fun xs μ2 => mOk (x :: xs) μ2
def evI (S : Ev) : II → Dl → Mu → Mo ItD
  | .seq e => fun Δ μ => mBind (evE S e Δ μ) fun x μ1 => match rdS x μ1 with
    | some ds => mOk (ds, lockL x ds) μ1
    | none => none
  | .rng es => fun Δ μ => mBind (evA S es Δ μ) fun ds μ1 => mOpt ((dRng ds).map fun l => (l, [])) μ1
  | .enm e => fun Δ μ => mBind (evE S e Δ μ) fun x μ1 => match rdS x μ1 with
    | some ds => mOk (enumD 0 ds, lockL x ds) μ1
    | none => none
  | .zip a b => fun Δ μ => mBind (evE S a Δ μ) fun x μ1 => mBind (evE S b Δ μ1) fun y μ2 => match rdS x μ2, rdS y μ2 with
    | some ds, some es => if isTup x = isTup y then mOk (zipD ds es, lockL x ds ++ lockL y es) μ2 else none
    | _, _ => none
def evO (S : Ev) : IO → Dl → Mu → Mo (Option Int)
  | .no => fun _ μ => mOk none μ
  | .some e => fun Δ μ => mBind (evE S e Δ μ) fun x μ1 => match x with
    | .int i => mOk (some i) μ1
    | _ => none
end
/-- what an exception's text may be made of -/
def fmtD : D → Bool
  | .str x => decide (x.length ≤ 1000)
  | .int i => decide (i.natAbs < 2 ^ 64)
  | _ => false
def setMany : List Nat → List D → Dl → Option Dl
  | [], [], Δ => some Δ
  | i :: r, d :: s, Δ => setMany r s (Δ.set i (some d))
  | _, _, _ => none
def evS (S : Ev) : IS → DS
  | .skip => fun Δ μ => mOk (.nx, Δ) μ
  | .seq a b => fun Δ μ => mBind (evS S a Δ μ) fun r μ1 => match r.1 with
    | .nx => evS S b r.2 μ1
    | _ => mOk r μ1
  | .ex e => fun Δ μ => mBind (evE S e Δ μ) fun _ μ1 => mOk (.nx, Δ) μ1
  | .asg t e => fun Δ μ => mBind (evE S e Δ μ) fun x μ1 => mOpt ((tgD t x Δ).map fun Δ' => (.nx, Δ')) μ1
  | .par is es => fun Δ μ => mBind (evA S es Δ μ) fun xs μ1 => mOpt ((setMany is xs Δ).map fun Δ' => (.nx, Δ')) μ1
  | .setx o i v => fun Δ μ => mBind (evE S v Δ μ) fun y μ1 => mBind (evE S o Δ μ1) fun x μ2 => mBind (evE S i Δ μ2) fun k μ3 => match dSetX x k y μ3 with
    | some μ4 => mOk (.nx, Δ) μ4
    | none => none
  | .setf o f v => fun Δ μ => mBind (evE S v Δ μ) fun y μ1 => mBind (evE S o Δ μ1) fun x μ2 => match dSetF S x f y μ2 with
    | some μ3 => mOk (.nx, Δ) μ3
    | none => none
  | .aug i o e => fun Δ μ => match Δ[i]? with
    | some (some (.int x)) => mBind (evE S e Δ μ) fun y μ1 => match y with
      | .int y => match iBin o x y with
        | some z => mOk (.nx, Δ.set i (some (.int z))) μ1
        | none => none
      | _ => none
    | _ => none
  | .augx a i o e => fun Δ μ => mBind (evE S a Δ μ) fun x μ1 => mBind (evE S i Δ μ1) fun k μ2 => match rdL x μ2, dIx x k μ2 with
    | some _, some (.int p) => mBind (evE S e Δ μ2) fun y μ3 => match y with
      | .int q => match iBin o p q with
        | some z => match dSetX x k (.int z) μ3 with
          | some μ4 => mOk (.nx, Δ) μ4
          | none => none
        | none => none
      | _ => none
    | _, _ => none
  | .augf a f o e => fun Δ μ => mBind (evE S a Δ μ) fun x μ1 => match rdI x μ1 with
    | some (c, fs) => match S.cls c, fs.lookup f with
      | some ci, some (.int p) => if ci.flds.contains f then mBind (evE S e Δ μ1) fun y μ2 => match y with
          | .int q => match iBin o p q, rdI x μ2 with
            | some z, some (c', _) => if c' = c then match dSetF S x f (.int z) μ2 with
                | some μ3 => mOk (.nx, Δ) μ3
                | none => none
              else none
            | _, _ => none
          | _ => none
        else none
      | _, _ => none
    | none => none
  | .ite c a b => fun Δ μ => mBind (evC S c Δ μ) fun k μ1 => if k then evS S a Δ μ1 else evS S b Δ μ1
  | .whil c b => fun Δ μ => whileD (evC S c) (evS S b) S.W Δ μ
  | .for_ t i b => fun Δ μ => mBind (evI S i Δ μ) fun p μ1 => forD t (evS S b) p.2 p.1 Δ μ1
  | .ret e => fun Δ μ => mBind (evE S e Δ μ) fun x μ1 => mOk (.rt x, Δ) μ1
  | .brk => fun Δ μ => mOk (.bk, Δ) μ
  | .cnt => fun Δ μ => mOk (.ct, Δ) μ
  | .raise c es => fun Δ μ => mBind (evA S es Δ μ) fun ds μ1 => match S.exc c with
    | some ns => if ns.length = ds.length ∧ ds.all fmtD = true then some (.exc ⟨c, ns.zip ds⟩, μ1) else none
    | none => none
end M

set_option Elab.async false
set_option linter.all false
set_option maxRecDepth 100000
/-! N3: the operations on data are what the machine's do. -/
namespace M
open PySem PySem.Spec L2
theorem big_le : big ≤ sizeLine := by decide
section
variable {g : Gm} {w : Wd} {H : Hp} {E : XK}
abbrev IsG' (g : Gm) (w : Wd) (H : Hp) (d : D) (v : V) : Prop := Is g.K g.mg w H d v

theorem is_tup_new (R : RepH g w H) {p : Addr} {ds : List D} {xs : List V} (hp : H p = none) (h : IsL g.K g.mg w H ds xs) : Is g.K g.mg w (upd H p (.tup xs)) (.tup ds) (.ref p) :=
  ⟨p, xs, rfl, .inl ⟨(R.fresh hp).1, .inl upd_same⟩, h.ext (Ext.new R hp)⟩
theorem is_lst_new (R : RepH g w H) {p : Addr} {ds : List D} {xs : List V} (hp : H p = none) (h : IsL g.K g.mg w H ds xs) : Is g.K g.mg w (upd H p (.lst xs)) (.lst ds) (.ref p) :=
  ⟨p, xs, rfl, ⟨(R.fresh hp).1, upd_same⟩, h.ext (Ext.new R hp)⟩
theorem push_at {w : Wd} {p : Addr} {c : Cell} (len : w.A.length = w.μ.length) : (w.push p c).A[w.μ.length]? = some p := by
  show (w.A ++ [p])[w.μ.length]? = some p
  rw [← len]; simp
/-- a new tuple is the end -/
theorem post_tup (R : RepH g w H) {Q : VK} {ds : List D} {xs : List V} (h : IsL g.K g.mg w H ds xs) (P : Post g w H E (mOk (.tup ds) w.μ) (IsV g) Q) : ∀ p, H p = none → Q (.ref p) (upd H p (.tup xs)) := fun p hp =>
  Post.ok (A' := w.A) P (Ext.new R hp) (R.new hp) (is_tup_new R hp h)
theorem post_new (R : RepH g w H) {m : Bool} {Q : VK} {ds : List D} {xs : List V} (h : IsL g.K g.mg w H ds xs) (P : Post g w H E (dNew m ds w.μ) (IsV g) Q) : xs.length ≤ big ∧ ∀ p, H p = none → Q (.ref p) (upd H p (.lst xs)) := by
  unfold dNew at P
  by_cases hl : ds.length ≤ big
  · rw [if_pos hl] at P
    refine ⟨by rw [h.length]; exact hl, fun p hp => ?_⟩
    cases m with
    | false =>
      simp only [Bool.false_eq_true, if_false] at P
      exact Post.ok (A' := w.A) P (Ext.new R hp) (R.new hp) (is_lst_new R hp h)
    | true =>
      simp only [if_true] at P
      have e := Ext.alloc (o := .lst xs) (c := .lst ds) R hp
      refine Post.ok (A' := w.A ++ [p]) P e (R.alloc hp (fun ps z => by cases z) ⟨xs, upd_same, h.ext e⟩) ?_
      exact ⟨p, rfl, push_at (c := .lst ds) R.len⟩
  · rw [if_neg hl] at P; exact P.none.elim
theorem rdL_is (R : RepH g w H) {d : D} {v : V} {xs : List D} (h : Is g.K g.mg w H d v) (e : rdL d w.μ = some xs) : ∃ a vs, v = .ref a ∧ H a = some (.lst vs) ∧ IsL g.K g.mg w H xs vs := by
  cases d with
  | lst ds =>
    obtain ⟨a, vs, h1, h2, h3⟩ := h
    cases e
    exact ⟨a, vs, h1, h2.2, h3⟩
  | adr n =>
    obtain ⟨a, h1, h2⟩ := h
    cases hc : w.μ[n]? with
    | none => simp [rdL, hc] at e
    | some c =>
      cases c with
      | lst ds =>
        simp [rdL, hc] at e; subst e
        obtain ⟨vs, h3, h4⟩ := R.cell n a _ h2 hc
        exact ⟨a, vs, h1, h3, h4⟩
      | ins c fs => simp [rdL, hc] at e
      | froz => simp [rdL, hc] at e
  | _ => simp [rdL] at e
theorem isL_ints (ns : List Int) : IsL g.K g.mg w H (ns.map .int) (ns.map V.int) := by
  induction ns with
  | nil => exact IsL.nil
  | cons n ns ih => exact IsL.cons rfl ih
theorem rdS_is (R : RepH g w H) {d : D} {v : V} {xs : List D} (h : Is g.K g.mg w H d v) (e : rdS d w.μ = some xs) : ∃ a vs, v = .ref a ∧ (SqL g.K H a vs ∨ SqT g.K H a vs) ∧ IsL g.K g.mg w H xs vs := by
  by_cases ht : ∃ ds, d = .tup ds
  · obtain ⟨ds, rfl⟩ := ht
    cases e
    obtain ⟨a, vs, h1, h2, h3⟩ := h
    exact ⟨a, vs, h1, .inr h2.sq, h3⟩
  by_cases hs : ∃ ns, d = .scr ns
  · obtain ⟨ns, rfl⟩ := hs
    cases e
    obtain ⟨a, h1, h2⟩ := h
    exact ⟨a, _, h1, .inl h2.sq, isL_ints ns⟩
  have e' : rdL d w.μ = some xs := by
    cases d <;> first | exact e | exact absurd ⟨_, rfl⟩ ht | exact absurd ⟨_, rfl⟩ hs
  obtain ⟨a, vs, h1, h2, h3⟩ := rdL_is R h e'
  exact ⟨a, vs, h1, .inl (.of h2), h3⟩
theorem rdI_is (R : RepH g w H) {d : D} {v : V} {c : Str} {fs : List (Str × D)} (h : Is g.K g.mg w H d v) (e : rdI d w.μ = some (c, fs)) : ∃ a C dx xs, v = .ref a ∧ g.mg c = some (.ref C) ∧ H a = some (.ins C dx xs) ∧ IsF g.K g.mg w H fs xs := by
  cases d with
  | obj c' fs' =>
    cases e
    obtain ⟨a, C, dx, xs, h1, h2, h3, h4, h5⟩ := h
    exact ⟨a, C, dx, xs, h1, h3, h4, h5⟩
  | adr n =>
    obtain ⟨a, h1, h2⟩ := h
    cases hc : w.μ[n]? with
    | none => simp [rdI, hc] at e
    | some k =>
      cases k with
      | ins c' fs' =>
        simp [rdI, hc] at e
        obtain ⟨rfl, rfl⟩ := e
        obtain ⟨C, dx, xs, h3, h4, h5⟩ := R.cell n a _ h2 hc
        exact ⟨a, C, dx, xs, h1, h3, h4, h5⟩
      | lst ds => simp [rdI, hc] at e
      | froz => simp [rdI, hc] at e
  | _ => simp [rdI] at e
theorem rdS_live {d : D} (μ : Mu) {xs : List D} (e : rdS d μ = some xs) : rdI d μ = none := by
  cases d <;> simp [rdS, rdL, rdI] at e ⊢
  rename_i n
  cases hc : μ[n]? with
  | none => rfl
  | some c => cases c <;> simp [hc] at e ⊢

theorem rep_flat : ∀ (k : Nat) {xs : List D} {vs : List V}, IsL g.K g.mg w H xs vs → IsL g.K g.mg w H (List.replicate k xs).flatten (List.replicate k vs).flatten
  | 0, _, _, _ => IsL.nil
  | k + 1, xs, vs, h => by
    rw [List.replicate_succ, List.replicate_succ, List.flatten_cons, List.flatten_cons]
    exact h.append (rep_flat k h)
theorem cut_is {xs : List D} {vs : List V} (h : IsL g.K g.mg w H xs vs) (lo hi : Option Int) : IsL g.K g.mg w H (cutD xs lo hi) (cutV vs lo hi) := by
  unfold cutD cutV
  rw [h.length]
  exact (h.drop _).take _

/-! ### readings of operations -/
def R1of (g : Gm) (E : XK) (f : D → Mu → Mo D) : V → Hp → VK → Prop := fun x H Q => ∃ w a, RepH g w H ∧ Is g.K g.mg w H a x ∧ Post g w H E (f a w.μ) (IsV g) Q
def R2of (g : Gm) (E : XK) (f : D → D → Mu → Mo D) : R2 := fun x y H Q => ∃ w a b, RepH g w H ∧ Is g.K g.mg w H a x ∧ Is g.K g.mg w H b y ∧ Post g w H E (f a b w.μ) (IsV g) Q
def RCof (g : Gm) (E : XK) (f : List D → Mu → Mo D) : List V → Hp → VK → Prop := fun xs H Q => ∃ w ds, RepH g w H ∧ IsL g.K g.mg w H ds xs ∧ Post g w H E (f ds w.μ) (IsV g) Q
def RMof (g : Gm) (E : XK) (f : D → List D → Mu → Mo D) : V → List V → Hp → VK → Prop := fun x xs H Q => ∃ w d ds, RepH g w H ∧ Is g.K g.mg w H d x ∧ IsL g.K g.mg w H ds xs ∧ Post g w H E (f d ds w.μ) (IsV g) Q
end

def opOf : Ob → Operator
  | .add => .Add | .sub => .Sub | .mul => .Mult | .fdiv => .FloorDiv | .mod => .Mod | .pow => .Pow | .shl => .LShift | .shr => .RShift | .band => .BitAnd | .bor => .BitOr
section
variable {g : Gm} {E : XK} {X : Cx}
theorem iBin_op {o : Ob} {i j k : Int} (h : iBin o i j = some k) : OpR X (binaryOp (opOf o)) (fun x y H Q => x = .int i ∧ y = .int j ∧ Q (.int k) H) := by
  intro pins s σ H x y v u Q I rx ry q
  obtain ⟨rfl, rfl, q⟩ := q
  cases o with
  | add => cases h; exact op_add pins s σ H _ _ v u Q I rx ry ⟨i, j, rfl, rfl, q⟩
  | sub => cases h; exact op_sub pins s σ H _ _ v u Q I rx ry ⟨i, j, rfl, rfl, q⟩
  | mul =>
    simp only [iBin] at h
    split at h
    · rename_i hm
      cases h
      simp only [okMul, Bool.or_eq_true, decide_eq_true_eq] at hm
      rcases hm with (hm | hm) | hm
      · exact op_mul pins s σ H _ _ v u Q I rx ry ⟨i, j, rfl, rfl, .inl (by omega), q⟩
      · exact op_mul pins s σ H _ _ v u Q I rx ry ⟨i, j, rfl, rfl, .inr (by omega), q⟩
      · exact op_mulW pins s σ H _ _ v u Q I rx ry ⟨i, j, rfl, rfl, hm, q⟩
    · cases h
  | fdiv =>
    simp only [iBin] at h
    split at h
    · rename_i hm
      cases h
      simp only [okDiv, Bool.and_eq_true, Bool.or_eq_true, decide_eq_true_eq] at hm
      refine op_fdivW pins s σ H _ _ v u Q I rx ry ⟨i, j, rfl, rfl, ⟨hm.1, ?_⟩, q⟩
      rcases hm.2 with z | z
      · have : j.natAbs.log2 < 64 := (Nat.log2_lt (by omega)).mpr z
        omega
      · exact z
    · cases h
  | mod =>
    simp only [iBin] at h
    split at h
    · rename_i hm
      cases h
      exact op_mod pins s σ H _ _ v u Q I rx ry ⟨i, j, rfl, rfl, hm, q⟩
    · cases h
  | pow =>
    simp only [iBin] at h
    split at h
    · rename_i hm
      cases h
      simp only [okPow, Bool.and_eq_true, decide_eq_true_eq] at hm
      exact op_pow pins s σ H _ _ v u Q I rx ry ⟨i, j, rfl, rfl, ⟨hm.1.1, hm.1.2, hm.2⟩, q⟩
    · cases h
  | shl =>
    simp only [iBin] at h
    split at h
    · rename_i hm
      cases h
      simp only [okPow, Bool.and_eq_true, decide_eq_true_eq] at hm
      exact op_shl pins s σ H _ _ v u Q I rx ry ⟨i, j, rfl, rfl, ⟨hm.1.1, hm.1.2, hm.2⟩, q⟩
    · cases h
  | shr =>
    simp only [iBin] at h
    split at h
    · rename_i hm
      cases h
      exact op_shr pins s σ H _ _ v u Q I rx ry ⟨i, j, rfl, rfl, hm, q⟩
    · cases h
  | band => cases h; exact op_and pins s σ H _ _ v u Q I rx ry ⟨i, j, rfl, rfl, q⟩
  | bor => cases h; exact op_or pins s σ H _ _ v u Q I rx ry ⟨i, j, rfl, rfl, q⟩
def augOk : Ob → Bool
  | .add | .sub | .mul => true
  | _ => false
theorem iBin_iop {o : Ob} {i j k : Int} (h : iBin o i j = some k) (ho : augOk o = true) : OpR X (inplaceOp (opOf o)) (fun x y H Q => x = .int i ∧ y = .int j ∧ Q (.int k) H) := by
  intro pins s σ H x y v u Q I rx ry q
  obtain ⟨rfl, rfl, q⟩ := q
  obtain ⟨t, rfl⟩ := (show ∃ t, v = Value.int i t from rx)
  obtain ⟨t', rfl⟩ := (show ∃ t', u = Value.int j t' from ry)
  cases o with
  | add => cases h; exact iop_add pins s σ H _ _ _ _ Q I rx ry ⟨i, j, rfl, rfl, q⟩
  | sub => cases h; exact iop_sub pins s σ H _ _ _ _ Q I rx ry ⟨i, j, rfl, rfl, q⟩
  | mul =>
    simp only [iBin] at h
    split at h
    · rename_i hm
      cases h
      simp only [okMul, Bool.or_eq_true, decide_eq_true_eq] at hm
      refine PyProof.Rows.imul_int ⟨.int _, H, I.tok _, ⟨_, rfl⟩, q⟩ ?_
      rcases hm with (hm | hm) | hm
      · exact CMul.ok (.inl (by omega))
      · exact CMul.ok (.inr (by omega))
      · exact CMulW.ok hm
    · cases h
  | _ => cases ho

/-- a op b -/
theorem bin_ok (hK : X.K = g.K) (o : Ob) (m : Bool) : OpR X (binaryOp (opOf o)) (R2of g E (dBin o m)) := by
  intro pins s σ H x y v u Q I rx ry q
  obtain ⟨w, a, b, R, ha, hb, P⟩ := q
  have lists : ∀ (h1 : ∀ xs ys, (rdL a w.μ = some xs ∧ rdL b w.μ = some ys ∧ o = .add ∧ Post g w H E (dNew m (xs ++ ys) w.μ) (IsV g) Q) → wpAny (model X.prog X.w) X.A (binaryOp (opOf o) v u) (EP X pins σ Q) X.xe s), True := fun _ => trivial
  have cat : ∀ {xs ys : List D}, rdL a w.μ = some xs → rdL b w.μ = some ys → Post g w H E (dNew m (xs ++ ys) w.μ) (IsV g) Q → wpAny (model X.prog X.w) X.A (binaryOp .Add v u) (EP X pins σ Q) X.xe s := fun {xs ys} e1 e2 P => by
    obtain ⟨p1, vs, rfl, h1, i1⟩ := rdL_is R ha e1
    obtain ⟨p2, us, rfl, h2, i2⟩ := rdL_is R hb e2
    obtain ⟨hl, P⟩ := post_new R (i1.append i2) P
    exact op_cat pins s σ H _ _ v u Q I rx ry ⟨p1, p2, vs, us, rfl, rfl, h1, h2, by rw [List.length_append] at hl; exact Nat.le_trans hl big_le, P⟩
  have rep : ∀ {xs : List D} {k : Int}, rdL a w.μ = some xs → y = .int k → Post g w H E (if -1000000 ≤ k ∧ k ≤ 1000000 ∧ xs.length * k.toNat ≤ big then dNew m (List.replicate k.toNat xs).flatten w.μ else none) (IsV g) Q → wpAny (model X.prog X.w) X.A (binaryOp .Mult v u) (EP X pins σ Q) X.xe s := fun {xs k} e1 e2 P => by
    obtain ⟨p1, vs, rfl, h1, i1⟩ := rdL_is R ha e1
    split at P
    · rename_i hk
      obtain ⟨hl, P⟩ := post_new R (rep_flat k.toNat i1) P
      exact op_rep pins s σ H _ _ v u Q I rx ry ⟨p1, k, vs, rfl, e2, h1, by omega, by omega, by rw [i1.length]; exact Nat.le_trans hk.2.2 big_le, P⟩
    · exact P.none.elim
  unfold dBin at P
  split at P
  · rename_i i j
    obtain ⟨k, hk, P⟩ := P.opt
    obtain ⟨l, hl, rfl⟩ := Option.map_eq_some_iff.mp hk
    exact iBin_op hl pins s σ H x y v u Q I rx ry ⟨ha, hb, P.here R rfl⟩
  · rename_i xs ys
    cases o <;> first | exact P.none.elim | skip
    simp only at P
    split at P
    · rename_i hl
      obtain ⟨p1, vs, rfl, h1, i1⟩ := ha
      obtain ⟨p2, us, rfl, h2, i2⟩ := hb
      have t1 := h1.sq
      have t2 := h2.sq
      rw [← hK] at t1 t2
      refine op_catA pins s σ H _ _ v u Q I rx ry ⟨p1, p2, vs, us, rfl, rfl, t1, t2, by rw [i1.length, i2.length]; exact Nat.le_trans hl big_le, fun e => ?_, fun e e2 => ?_, fun e e2 => post_tup R (i1.append i2) P⟩
      · subst e
        have : xs = [] := List.eq_nil_of_length_eq_zero (by rw [← i1.length]; rfl)
        subst this
        exact P.here R ⟨p2, us, rfl, h2, i2⟩
      · subst e2
        have : ys = [] := List.eq_nil_of_length_eq_zero (by rw [← i2.length]; rfl)
        subst this
        exact P.here R ⟨p1, vs, rfl, h1, by rw [List.append_nil]; exact i1⟩
    · exact P.none.elim
  · rename_i i j
    cases o <;> first | exact P.none.elim | skip
    simp only at P
    split at P
    · rename_i hl
      exact op_add_str pins s σ H x y v u Q I rx ry ⟨i, j, ha, hb, Nat.le_trans hl big_le, P.here R rfl⟩
    · exact P.none.elim
  · rename_i xs k
    cases o <;> first | exact P.none.elim | skip
    simp only at P
    split at P
    · rename_i hl
      obtain ⟨p1, vs, rfl, h1, i1⟩ := ha
      have t1 := h1.sq
      rw [← hK] at t1
      refine op_repT pins s σ H _ _ v u Q I rx ry ⟨p1, k, vs, rfl, hb, t1, fun e => hl.1 (List.eq_nil_of_length_eq_zero (by rw [← i1.length, e]; rfl)), hl.2.1, hl.2.2.1, by rw [i1.length]; exact hl.2.2.2, post_tup R (rep_flat _ i1) P⟩
    · exact P.none.elim
  · rename_i k _ _
    cases o <;> first | exact P.none.elim | skip
    simp only at P
    split at P
    · rename_i xs e
      exact rep e hb P
    · exact P.none.elim
  · cases o <;> first | exact P.none.elim | skip
    simp only at P
    split at P
    · rename_i xs ys e1 e2
      exact cat e1 e2 P
    · exact P.none.elim
end
end M

set_option Elab.async false
set_option linter.all false
set_option maxRecDepth 100000
/-! N4: comparisons, subscripts, slices, isinstance, functions of values, a list's methods. -/
namespace M
open PySem PySem.Spec L2
section
variable {g : Gm} {E : XK} {w : Wd} {H : Hp}
theorem optMap_py {n : Nat} {μ : Mu} (ih : ∀ (d : D) (v : V) (p : PyData), pyD n μ d = some p → Is g.K g.mg w H d v → Dp g.K H v p ∧ p.canLay0 = true ∧ p.depth ≤ n) :
    ∀ (ds : List D) (vs : List V) (ps : List PyData), optMap (fun e => pyD n μ e) ds = some ps → IsL g.K g.mg w H ds vs → DpAll g.K H vs ps ∧ PyData.canLayAll0 ps = true ∧ PyData.depthAll ps ≤ n
  | [], vs, ps, e, h => by
    cases e
    rw [h.of_nil]
    exact ⟨.nil, by simp [PyData.canLayAll0], by simp [PyData.depthAll]⟩
  | d :: ds, vs, ps, e, h => by
    obtain ⟨v, r, rfl, h1, h2⟩ := h.of_cons
    unfold optMap at e
    split at e
    · rename_i p q e1 e2
      cases e
      obtain ⟨a1, a2, a3⟩ := ih d v p e1 h1
      obtain ⟨b1, b2, b3⟩ := optMap_py ih ds r q e2 h2
      exact ⟨.cons a1 b1, by simp [PyData.canLayAll0, a2, b2], by simp only [PyData.depthAll]; omega⟩
    · cases e
theorem dpAll_ints : ∀ ns : List Int, DpAll g.K H (ns.map V.int) (ns.map PyData.int) ∧ PyData.canLayAll0 (ns.map PyData.int) = true ∧ PyData.depthAll (ns.map PyData.int) = 0
  | [] => ⟨.nil, by simp [PyData.canLayAll0], by simp [PyData.depthAll]⟩
  | n :: ns => by
    obtain ⟨a, b, c⟩ := dpAll_ints ns
    exact ⟨.cons (.int n) a, by simp [PyData.canLayAll0, PyData.canLay0]; exact b, by simp [PyData.depthAll, PyData.depth]; exact c⟩
theorem pyD_is (R : RepH g w H) : ∀ (n : Nat) (d : D) (v : V) (p : PyData), pyD n w.μ d = some p → Is g.K g.mg w H d v → Dp g.K H v p ∧ p.canLay0 = true ∧ p.depth ≤ n
  | 0, _, _, _, e, _ => by simp [pyD] at e
  | n + 1, d, v, p, e, h => by
    have ih := optMap_py (g := g) (w := w) (H := H) (pyD_is R n)
    unfold pyD at e
    cases d with
    | non => cases e; cases h; exact ⟨.non, by simp [PyData.canLay0], by simp [PyData.depth]⟩
    | bl b => cases e; cases h; exact ⟨.bl b, by simp [PyData.canLay0], by simp [PyData.depth]⟩
    | int i => cases e; cases h; exact ⟨.int i, by simp [PyData.canLay0], by simp [PyData.depth]⟩
    | str x =>
      simp only at e
      split at e
      · rename_i hs
        cases e; cases h
        exact ⟨.str x, by simp [PyData.canLay0, hs], by simp [PyData.depth]⟩
      · cases e
    | tup ds =>
      simp only at e
      obtain ⟨ps, e1, rfl⟩ := Option.map_eq_some_iff.mp e
      obtain ⟨a, vs, rfl, h2, h3⟩ := h
      obtain ⟨b1, b2, b3⟩ := ih ds vs ps e1 h3
      exact ⟨.tup h2.sq b1, by simp [PyData.canLay0, b2], by simp only [PyData.depth]; omega⟩
    | lst ds =>
      simp only at e
      obtain ⟨ps, e1, rfl⟩ := Option.map_eq_some_iff.mp e
      obtain ⟨a, vs, rfl, h2, h3⟩ := h
      obtain ⟨b1, b2, b3⟩ := ih ds vs ps e1 h3
      exact ⟨.lst h2.sq b1, by simp [PyData.canLay0, b2], by simp only [PyData.depth]; omega⟩
    | scr ns =>
      cases e
      obtain ⟨a, rfl, h2⟩ := h
      obtain ⟨b1, b2, b3⟩ := dpAll_ints ns
      exact ⟨.lst h2.sq b1, by simp [PyData.canLay0, b2], by simp only [PyData.depth]; omega⟩
    | adr k =>
      simp only at e
      split at e
      · rename_i ds hc
        obtain ⟨ps, e1, rfl⟩ := Option.map_eq_some_iff.mp e
        obtain ⟨a, rfl, h2⟩ := h
        obtain ⟨vs, h3, h4⟩ := R.cell k a _ h2 hc
        obtain ⟨b1, b2, b3⟩ := ih ds vs ps e1 h4
        exact ⟨.lst (.of h3) b1, by simp [PyData.canLay0, b2], by simp only [PyData.depth]; omega⟩
      · cases e
    | obj c fs => cases e
theorem shaped_of {p : PyData} (h : p.canLay0 = true) (h2 : p.depth ≤ 16) : SeqAt.shaped p = true := by
  unfold SeqAt.shaped
  rw [h, Bool.true_and]
  exact decide_eq_true (by omega)
theorem flat_is {d : D} {v : V} (h : Is g.K g.mg w H d v) (f : flatD d = true) : v = flV d ∧ flatV v = true := by
  cases d with
  | non => cases h; exact ⟨rfl, rfl⟩
  | bl b => cases h; exact ⟨rfl, rfl⟩
  | int b => cases h; exact ⟨rfl, rfl⟩
  | str b => cases h; exact ⟨rfl, rfl⟩
  | _ => cases f
theorem flatL_is : ∀ {ds : List D} {vs : List V}, IsL g.K g.mg w H ds vs → ds.all flatD = true → vs = ds.map flV ∧ vs.all flatV = true
  | [], _, h, _ => by rw [h.of_nil]; exact ⟨rfl, rfl⟩
  | d :: ds, _, h, f => by
    obtain ⟨v, r, rfl, h1, h2⟩ := h.of_cons
    rw [List.all_cons, Bool.and_eq_true] at f
    obtain ⟨a, b⟩ := flat_is h1 f.1
    obtain ⟨c, e⟩ := flatL_is h2 f.2
    exact ⟨by rw [List.map_cons, ← a, ← c], by rw [List.all_cons, b, e]; rfl⟩
def isN : D → Bool
  | .non => true
  | _ => false
theorem non_is {d : D} {v : V} (h : Is g.K g.mg w H d v) : decide (v = .non) = isN d := by
  cases d with
  | non => cases h; rfl
  | bl b => cases h; rfl
  | int b => cases h; rfl
  | str b => cases h; rfl
  | tup _ => obtain ⟨a, _, rfl, _⟩ := h; rfl
  | lst _ => obtain ⟨a, _, rfl, _⟩ := h; rfl
  | scr _ => obtain ⟨a, rfl, _⟩ := h; rfl
  | obj _ _ => obtain ⟨a, _, _, _, rfl, _⟩ := h; rfl
  | adr _ => obtain ⟨a, rfl, _⟩ := h; rfl
end
def ocOf : Oc → CmpOp
  | .eq => .Eq | .ne => .NotEq | .lt => .Lt | .le => .LtE | .gt => .Gt | .ge => .GtE | .is_ => .Is | .isnt => .IsNot | .in_ => .In | .nin => .NotIn
section
variable {g : Gm} {E : XK} {X : Cx}
def RKof (g : Gm) (o : Oc) : R2 := fun x y H Q => ∃ w a b k, RepH g w H ∧ Is g.K g.mg w H a x ∧ Is g.K g.mg w H b y ∧ dCmp o a b w.μ = some k ∧ Q (.bl k) H
theorem cmp_ok (hK : X.K = g.K) (hu : X.A.units + 64 < cLine) (o : Oc) : OpR X (compareOp (ocOf o)) (RKof g o) := by
  intro pins s σ H x y v u Q I rx ry q
  obtain ⟨w, a, b, k, R, ha, hb, e, q⟩ := q
  have twoI : ∀ (p : Int → Int → Bool), cmpI p a b = some k → ∃ i j, x = .int i ∧ y = .int j ∧ Q (.bl (p i j)) H := fun p e => by
    cases a <;> cases b <;> first | (cases e; exact ⟨_, _, ha, hb, q⟩) | cases e
  have ins : ∀ (neg : Bool), (match rdS b w.μ with | some xs => if flatD a && xs.all flatD then some (if neg then !inV (flV a) (xs.map flV) else inV (flV a) (xs.map flV)) else none | none => none) = some k → rIn X.K neg x y H Q := fun neg e => by
    split at e
    · rename_i xs hx
      split at e
      · rename_i hf
        cases e
        rw [Bool.and_eq_true] at hf
        obtain ⟨p, vs, rfl, h1, h2⟩ := rdS_is R hb hx
        obtain ⟨f1, f2⟩ := flat_is ha hf.1
        obtain ⟨f3, f4⟩ := flatL_is h2 hf.2
        rw [hK]
        exact ⟨p, vs, rfl, h1, f2, f4, by rw [f1, f3]; exact q⟩
      · cases e
    · cases e
  cases o with
  | eq =>
    simp only [dCmp] at e
    split at e
    · rename_i p1 p2 e1 e2
      cases e
      obtain ⟨a1, a2, a3⟩ := pyD_is R _ _ _ _ e1 ha
      obtain ⟨b1, b2, b3⟩ := pyD_is R _ _ _ _ e2 hb
      exact op_eqD hu pins s σ H x y v u Q I rx ry ⟨p1, p2, by rw [hK]; exact a1, by rw [hK]; exact b1, shaped_of a2 a3, shaped_of b2 b3, q⟩
    · cases e
  | ne =>
    simp only [dCmp] at e
    split at e
    · rename_i p1 p2 e1 e2
      cases e
      obtain ⟨a1, a2, a3⟩ := pyD_is R _ _ _ _ e1 ha
      obtain ⟨b1, b2, b3⟩ := pyD_is R _ _ _ _ e2 hb
      exact op_neD hu pins s σ H x y v u Q I rx ry ⟨p1, p2, by rw [hK]; exact a1, by rw [hK]; exact b1, shaped_of a2 a3, shaped_of b2 b3, q⟩
    · cases e
  | lt => exact op_lt pins s σ H x y v u Q I rx ry (twoI (fun i j => decide (i < j)) e)
  | le => exact op_le pins s σ H x y v u Q I rx ry (twoI (fun i j => decide (i ≤ j)) e)
  | gt => exact op_gt pins s σ H x y v u Q I rx ry (twoI (fun i j => decide (j < i)) e)
  | ge => exact op_ge pins s σ H x y v u Q I rx ry (twoI (fun i j => decide (j ≤ i)) e)
  | is_ =>
    simp only [dCmp] at e
    have hn := non_is ha
    split at e
    · cases e
      exact op_isN pins s σ H x y v u Q I rx ry ⟨hb, by rw [hn]; exact q⟩
    · rename_i hne
      cases e
      refine op_isN pins s σ H x y v u Q I rx ry ⟨hb, ?_⟩
      rw [hn]
      cases a <;> first | exact q | exact (hne rfl).elim
    · cases e
      exact op_isBl pins s σ H x y v u Q I rx ry ⟨_, _, ha, hb, q⟩
    · cases e
  | isnt =>
    simp only [dCmp] at e
    have hn := non_is ha
    split at e
    · cases e
      exact op_notN pins s σ H x y v u Q I rx ry ⟨hb, by rw [hn]; exact q⟩
    · rename_i hne
      cases e
      refine op_notN pins s σ H x y v u Q I rx ry ⟨hb, ?_⟩
      rw [hn]
      cases a <;> first | exact q | exact (hne rfl).elim
    · cases e
      exact op_notBl pins s σ H x y v u Q I rx ry ⟨_, _, ha, hb, q⟩
    · cases e
  | in_ => exact op_in_seq pins s σ H x y v u Q I rx ry (ins false e)
  | nin => exact op_notIn_seq pins s σ H x y v u Q I rx ry (ins true e)

/-! ### subscripts -/
theorem atI_is {w : Wd} {H : Hp} {ds : List D} {vs : List V} {i : Int} {d : D} (h : IsL g.K g.mg w H ds vs) (e : atI ds i = some d) : ∃ v, atI vs i = some v ∧ Is g.K g.mg w H d v := by
  unfold atI at e ⊢
  rw [h.length]
  cases hj : ixN ds.length i with
  | none => rw [hj] at e; cases e
  | some j => rw [hj] at e; exact h.get e
def RIof (g : Gm) : R2 := fun x y H Q => ∃ w a b d, RepH g w H ∧ Is g.K g.mg w H a x ∧ Is g.K g.mg w H b y ∧ dIx a b w.μ = some d ∧ ∀ v, Is g.K g.mg w H d v → Q v H
theorem ix_ok (hK : X.K = g.K) : IxR X (RIof g) := by
  intro value slice pins s σ H x y v u Q I rx ry q hs
  obtain ⟨w, a, b, d, R, ha, hb, e, q⟩ := q
  refine ix_seq value slice pins s σ H x y v u Q I rx ry ?_ hs
  rw [hK]
  unfold dIx at e
  split at e
  · rename_i i
    have seq : ∀ xs, rdS a w.μ = some xs → atI xs i = some d → rIx g.K x y H Q := fun xs h1 h2 => by
      obtain ⟨p, vs, rfl, h3, h4⟩ := rdS_is R ha h1
      obtain ⟨z, e1, e2⟩ := atI_is h4 h2
      rcases h3 with h3 | h3
      · exact .inl ⟨p, vs, i, z, rfl, hb, h3, e1, q z e2⟩
      · exact .inr (.inl ⟨p, vs, i, z, rfl, hb, h3, e1, q z e2⟩)
    split at e
    · rename_i ns
      obtain ⟨n, e1, rfl⟩ := Option.map_eq_some_iff.mp e
      refine seq (ns.map .int) rfl ?_
      unfold atI at e1 ⊢
      rw [List.length_map]
      cases hj : ixN ns.length i with
      | none => rw [hj] at e1; cases e1
      | some j =>
        rw [hj] at e1
        have e1 : ns[j]? = some n := e1
        show (ns.map D.int)[j]? = some (.int n)
        rw [List.getElem?_map, e1]; rfl
    · rename_i z
      split at e
      · rename_i hz
        obtain ⟨c, e1, rfl⟩ := Option.map_eq_some_iff.mp e
        exact .inr (.inr ⟨z, i, c, ha, hb, Nat.le_trans hz big_le, e1, q _ rfl⟩)
      · cases e
    · obtain ⟨xs, e1, e2⟩ := Option.bind_eq_some_iff.mp e
      exact seq xs e1 e2
  · cases e
/-- o[i] = v -/
def RXof (g : Gm) : V → V → V → Hp → (Hp → Prop) → Prop := fun x y z H Q => ∃ w a b c μ', RepH g w H ∧ Is g.K g.mg w H a x ∧ Is g.K g.mg w H b y ∧ Is g.K g.mg w H c z ∧ dSetX a b c w.μ = some μ' ∧
  ∀ H', Ext w H ⟨w.A, μ', w.L⟩ H' → RepH g ⟨w.A, μ', w.L⟩ H' → Q H'
theorem not_ext_lst {H : Hp} {a : Addr} {xs : List V} (h : H a = some (.lst xs)) : ∀ φ, H a ≠ some (.ext φ) := fun φ z => by rw [h] at z; cases z
theorem put_lst {w : Wd} {H : Hp} {n : Nat} {a : Addr} {c : Cell} {xs : List V} {ds' : List D} {vs' : List V} (R : RepH g w H) (hn : w.A[n]? = some a) (hc : w.μ[n]? = some c) (hf : c ≠ .froz) (ha : H a = some (.lst xs)) (i : IsL g.K g.mg w H ds' vs') :
    Ext w H (w.put n (.lst ds')) (upd H a (.lst vs')) ∧ RepH g (w.put n (.lst ds')) (upd H a (.lst vs')) := by
  have e : Ext w H (w.put n (.lst ds')) (upd H a (.lst vs')) := Ext.put R hn hc hf
  exact ⟨e, R.put hn hc hf (fun ps z => by cases z) (not_ext_lst ha) ⟨vs', upd_same, i.ext e⟩⟩
theorem setx_ok : PSet X (RXof g) := by
  intro pins s σ H o i v ov iv u Q I ro ri rv q
  obtain ⟨w, a, b, c, μ', R, ha, hb, hc, e, q⟩ := q
  refine set_list pins s σ H o i v ov iv u Q I ro ri rv ?_
  unfold dSetX at e
  split at e
  · rename_i n k
    split at e
    · rename_i xs hx
      split at e
      · rename_i j hj
        cases e
        obtain ⟨p, rfl, hA⟩ := ha
        obtain ⟨vs, h1, h2⟩ := R.cell n p _ hA hx
        obtain ⟨e1, R1⟩ := put_lst R hA hx (by intro z; cases z) h1 (h2.set j hc)
        exact ⟨p, vs, k, j, rfl, hb, h1, by rw [h2.length]; exact hj, q _ e1 R1⟩
      · cases e
    · cases e
  · cases e
/-! ### slices -/
def RSof (g : Gm) (E : XK) (m : Bool) : V → Option Int → Option Int → Hp → VK → Prop := fun x lo hi H Q => ∃ w a, RepH g w H ∧ Is g.K g.mg w H a x ∧ Post g w H E (dSl m a lo hi w.μ) (IsV g) Q
theorem cutD_all {xs : List D} {lo hi : Option Int} (h1 : HT.sIx xs.length 0 lo = 0) (h2 : HT.sIx xs.length xs.length hi = xs.length) : cutD xs lo hi = xs := by
  unfold cutD
  rw [h1, h2, List.drop_zero, Nat.sub_zero, List.take_length]
theorem sl_ok (hK : X.K = g.K) (m : Bool) : SlR X (RSof g E m) := by
  intro pins s σ H x v vl vu lo hi sl Q I rx hs pl pu q
  obtain ⟨w, a, R, ha, P⟩ := q
  unfold dSl at P
  split at P
  · rename_i xs
    obtain ⟨p, vs, rfl, h1, h2⟩ := ha
    have h3 := h1.sq
    rw [← hK] at h3
    refine sl_tupA pins s σ H _ v vl vu lo hi sl Q I rx hs pl pu ⟨p, vs, rfl, h3, fun ⟨z1, z2⟩ => ?_, fun _ => post_tup R (cut_is h2 lo hi) P⟩
    rw [h2.length] at z1 z2
    rw [cutD_all z1 z2] at P
    exact P.here R ⟨p, vs, rfl, h1, h2⟩
  · split at P
    · rename_i xs hx
      obtain ⟨p, vs, rfl, h1, h2⟩ := rdL_is R ha hx
      exact sl_list pins s σ H _ v vl vu lo hi sl Q I rx hs pl pu ⟨p, vs, rfl, .of h1, (post_new R (cut_is h2 lo hi) P).2⟩
    · exact P.none.elim
end
end M

set_option Elab.async false
set_option linter.all false
set_option maxRecDepth 100000
/-! RV: tuple[::-1]. -/
namespace RV
open PySem PySem.Spec PyProof.Rows L2 HT
section
variable {prog : Program} {w : World} {A : Around} {E : Value → Shared → Prop} {s : Shared}
theorem adjust_rev (n : Nat) : Builtin.Slice.sliceAdjust none none (-1) (n : Int) = ((n : Int) - 1, -1) := by
  unfold Builtin.Slice.sliceAdjust
  simp
theorem places_rev (n : Nat) : Builtin.Slice.slicePlaces ((n : Int) - 1) (-1) (-1) = n := by
  unfold Builtin.Slice.slicePlaces
  have h1 : ¬ ((-1 : Int) > 0) := by omega
  simp only [h1, if_false]
  split <;> simp <;> omega
theorem fm_congr {α β : Type} {f g : α → Option β} : ∀ {l : List α}, (∀ a ∈ l, f a = g a) → l.filterMap f = l.filterMap g
  | [], _ => rfl
  | a :: l, h => by
    rw [List.filterMap_cons, List.filterMap_cons, h a List.mem_cons_self, fm_congr fun b hb => h b (List.mem_cons_of_mem _ hb)]
theorem sliceApplied_rev {sl : Addr} {t : Tok} {n : Nat} {Q : Int × Int × Nat → Shared → Prop} (hs : s.heap.IsSliceOf sl .none .none (.int (-1) t))
    (h : Q ((n : Int) - 1, -1, n) s) : wpAny (model prog w) A (Builtin.Slice.sliceApplied (.ref sl) (pure (n : Int))) Q E s := by
  obtain ⟨os, hos, hcs, hds⟩ := id hs
  unfold Builtin.Slice.sliceApplied Builtin.Slice.sliceFields
  refine wpAny_bind (wpAny_bind (wpAny_field hos hds (x := .none) rfl (wpAny_bind (wpAny_field hos hds (x := .none) rfl (wpAny_bind (wpAny_field hos hds (x := .int (-1) t) rfl (wpAny_pure ?_)))))))
  refine wpAny_bind (slicePart_int ?_)
  show wpAny _ _ (if ((-1 : Int) == 0) = true then _ else _) _ _ s
  rw [if_neg (by decide)]
  refine wpAny_bind (slicePart_none (wpAny_bind (slicePart_none (wpAny_bind (wpAny_pure ?_)))))
  show wpAny _ _ (match Builtin.Slice.sliceAdjust none none (-1) (n : Int) with | (lo, hi) => pure (lo, (-1 : Int), Builtin.Slice.slicePlaces lo hi (-1))) _ _ s
  rw [adjust_rev n]
  show wpAny _ _ (pure ((n : Int) - 1, (-1 : Int), Builtin.Slice.slicePlaces ((n : Int) - 1) (-1) (-1))) _ _ s
  rw [places_rev]
  exact wpAny_pure h
theorem pick_rev (xs : Array Value) : ((List.range xs.size).filterMap fun (m : Nat) => xs[(((xs.size : Int) - 1) + (m : Int) * (-1)).toNat]?) = xs.toList.reverse := by
  have e : ∀ m ∈ List.range xs.size, xs[(((xs.size : Int) - 1) + (m : Int) * (-1)).toNat]? = some (xs.toList.reverse[m]?.getD .none) := fun m hm => by
    have hm := List.mem_range.mp hm
    have e1 : (((xs.size : Int) - 1) + (m : Int) * (-1)).toNat = xs.size - 1 - m := by omega
    rw [e1, List.getElem?_reverse (by simpa using hm), ← Array.getElem?_toList, Array.length_toList]
    rw [List.getElem?_eq_getElem (by rw [Array.length_toList]; omega)]
    rfl
  have h1 : (List.range xs.size).filterMap (fun (m : Nat) => xs[(((xs.size : Int) - 1) + (m : Int) * (-1)).toNat]?) = (List.range xs.size).map (fun m => xs.toList.reverse[m]?.getD .none) := by
    rw [← List.filterMap_eq_map]
    exact fm_congr fun m hm => e m hm
  rw [h1]
  apply List.ext_getElem?
  intro i
  rw [List.getElem?_map]
  by_cases hi : i < xs.size
  · rw [List.getElem?_range hi]
    show some (xs.toList.reverse[i]?.getD .none) = _
    rw [List.getElem?_eq_getElem (by simpa using hi)]
    rfl
  · rw [List.getElem?_eq_none (by simpa using hi), List.getElem?_eq_none (by simpa using hi)]
    rfl
theorem getItem_tuple_rev {t sl : Addr} {items : Array Value} {tk : Tok} {Q : Value → Shared → Prop} (ht : IsTup s.heap t items) (hs : s.heap.IsSliceOf sl .none .none (.int (-1) tk))
    (h : Q (.ref s.heap.objs.size) { s with heap := s.heap.push { cls := .type "tuple", data := .seq items.toList.reverse.toArray } })
    (hsz : items.size ≤ sizeLine) : wpAny (model prog w) A (getItem (.ref t) (.ref sl)) Q E s := by
  have htake : sizeOk (.seq items.toList.reverse.toArray) := by
    show items.toList.reverse.toArray.size ≤ sizeLine
    rw [List.size_toArray, List.length_reverse, Array.length_toList]
    exact hsz
  obtain ⟨os, hos, hcs, hds⟩ := id hs
  have hTs : s.TypeIs (.ref sl) "slice" := ⟨os, hos, hcs⟩
  unfold getItem
  try with_reducible refine wpAny_holding ?_
  first | refine wpAny_bind (wpAny_pure ?_) | skip
  refine wpAny_bind (wpAny_sequenceKey ht.typeIs (by decide) ?_)
  refine wpAny_bind (wpAny_callSpecial?_slot (name := Str.ofString "__getitem__") ht.typeIs PyProof.Rows.slot_tuple_getitem
    (wpAny_call_entry PyProof.Rows.slot_tuple_getitem ht.typeIs entry_tuple_getitem ?_ (args_tuple_getitem _ _)))
  show wpAny _ _ (Builtin.Tuple.tupleItemsOf (.ref t) >>= _) _ _ s
  refine wpAny_bind (tupleItemsOf_ ht ?_)
  refine wpAny_bind (wpAny_typeOf hTs ?_)
  rw [if_pos (by decide)]
  refine wpAny_bind (sliceApplied_rev hs ?_)
  have hno : ¬ ((((items.size : Int) - 1) == 0 && (-1 : Int) == 1 && items.size == items.size) = true) := by
    intro q
    rw [Bool.and_eq_true, Bool.and_eq_true] at q
    exact absurd q.1.2 (by decide)
  show wpAny _ _ (if (((items.size : Int) - 1) == 0 && (-1 : Int) == 1 && items.size == items.size) = true then _ else _) _ _ s
  rw [if_neg hno, pick_rev]
  first
    | exact wpAny_bind (m := Builtin.Tuple.tupleExact _) (wpAny_newObj_type (wpAny_pure ⟨_, rfl, wpAny_pure h⟩) htake)
    | exact wpAny_bind (m := Builtin.Tuple.tupleExact _) (wpAny_newObj_type (wpAny_bind (wpAny_pure (wpAny_pure ⟨_, rfl, wpAny_pure h⟩))) htake)
    | exact wpAny_bind (wpAny_bind (m := Builtin.Tuple.tupleExact _) (wpAny_newObj_type (wpAny_pure (wpAny_pure ⟨_, rfl, wpAny_pure h⟩)) htake))
    | exact wpAny_bind (wpAny_bind (m := Builtin.Tuple.tupleExact _) (wpAny_newObj_type (wpAny_pure ⟨_, rfl, wpAny_pure h⟩) htake))
end
/-- a list's or a tuple's [::-1] -/
def tRev (r : V → Hp → VK → Prop) (te : TE) : TE := fun σ H Q => te σ H fun x H1 => r x H1 Q
def rRev (K : PySem.W.Frag) : V → Hp → VK → Prop := fun x H Q => ∃ a xs, x = .ref a ∧ ((SqL K H a xs ∧ ∀ p, H p = none → Q (.ref p) (upd H p (.lst xs.reverse))) ∨ (SqT K H a xs ∧ ∀ p, H p = none → Q (.ref p) (upd H p (.tup xs.reverse))))
theorem part_none {v : Value} (p : IsPart v none) : v = .none := by cases p; rfl
theorem part_int {v : Value} {i : Int} (p : IsPart v (some i)) : ∃ t, v = .int i t := by cases p; exact ⟨_, rfl⟩
theorem pe_rev {X : Cx} {e : Expr} {te : TE} {k : Nat} {p1 p2 p3 pos : Pos} (he : PE X e te) : PE X (.Subscript e (.Slice none none (some (.UnaryOp .USub (.Constant (.int 1) k p1) p2)) p3) pos) (tRev (rRev X.K) te) := by
  refine ⟨fun pins s σ H Q I h => ?_⟩
  refine Subscript_ (thn (he.run pins s σ H _ I h) fun v s1 ⟨x, H1, I1, r1, q1⟩ => ?_)
  obtain ⟨a, xs, ex, q⟩ := q1
  subst ex
  cases r1
  have hst : PO X (some (.UnaryOp .USub (.Constant (.int 1) k p1) p2)) (tPart (tUn (rU fun i => .int (-i)) (tC (.int 1)))) := po_some (pe_un un_neg pe_int)
  refine wpAny_Slice (thn (po_none.run pins s1 σ H1 (fun o H2 => o = none ∧ H2 = H1) I1 ⟨rfl, rfl⟩) fun vl s2 ⟨l, H2, I2, pl, el, e2⟩ => ?_)
  subst el e2
  refine thn (po_none.run pins s2 σ H2 (fun o H3 => o = none ∧ H3 = H2) I2 ⟨rfl, rfl⟩) fun vu s3 ⟨u, H3, I3, pu, eu, e3⟩ => ?_
  subst eu e3
  refine thn (hst.run pins s3 σ H3 (fun o H4 => o = some (-1) ∧ H4 = H3) I3 ⟨1, rfl, -1, rfl, rfl, rfl⟩) fun vs s4 ⟨o, H4, I4, ps, eo, e4⟩ => ?_
  subst eo e4
  have I5 : Inv X pins σ H4 { s4 with heap := s4.heap.push { cls := .type "slice", data := .fields #[vl, vu, vs] } } := I4.kept (t' := s4.toks) fun b ob q => Heap.get?_push_of_some _ q
  show wpAny (model X.prog X.w) X.A (subscriptTail e (.Slice none none (some (.UnaryOp .USub (.Constant (.int 1) k p1) p2)) p3) (.ref a) (.ref s4.heap.objs.size)) (EP X pins σ Q) X.xe { s4 with heap := s4.heap.push { cls := .type "slice", data := .fields #[vl, vu, vs] } }
  rcases q with ⟨hx, q⟩ | ⟨hx, q⟩
  · obtain ⟨its, r, ht, hz⟩ := I5.list hx
    have hlen := r.length
    refine tail_any (ops := [.ref a, .ref s4.heap.objs.size]) ht.isList.typeIs (PySem.slot_list_getitem.lookup) ?_ (by with_unfolding_all rfl)
    refine wpAny_getItem_list_slice ht.isList (Heap.IsSliceOf.new _ vl vu vs) pl pu ps (by decide) ?_ (by rw [List.size_toArray]; omega)
    rw [PySem.W.krv_pick]
    refine ⟨.ref _, _, I5.laid (t' := s4.toks) (o := .lst xs.reverse) (fun b ob q => Heap.get?_push_of_some _ q) (Nat.le_refl _) ?_, rfl, q _ (I5.hok.fresh (Nat.le_refl _))⟩
    exact ⟨by rw [List.length_reverse]; exact hz, _, 0, r.reverse, Heap.get?_push_size _ rfl⟩
  · obtain ⟨its, r, ht, hz⟩ := I5.tuple hx
    have hlen := r.length
    obtain rfl := part_none pl
    obtain rfl := part_none pu
    obtain ⟨t, rfl⟩ := part_int ps
    refine tail_any (ops := [.ref a, .ref s4.heap.objs.size]) ht.typeIs (PyProof.Rows.slot_tuple_getitem.lookup) ?_ (by with_unfolding_all rfl)
    refine getItem_tuple_rev ht (Heap.IsSliceOf.new _ _ _ _) ?_ (by rw [List.size_toArray]; omega)
    refine ⟨.ref _, _, I5.laid (t' := s4.toks) (o := .tup xs.reverse) (fun b ob q => Heap.get?_push_of_some _ q) (Nat.le_refl _) ?_, rfl, q _ (I5.hok.fresh (Nat.le_refl _))⟩
    exact ⟨by rw [List.length_reverse]; exact hz, its.reverse, r.reverse, ⟨_, Heap.get?_push_size _ rfl, rfl, 0, rfl⟩⟩
end RV

set_option Elab.async false
set_option linter.all false
set_option maxRecDepth 100000
/-! N5: isinstance, functions of values, a list's methods, attributes, iteration. -/
namespace M
open PySem PySem.Spec L2
/-- what a class of the text must have -/
structure ClF (g : Gm) (c : Str) (ci : CI) (C : Addr) : Prop where
  at_ : g.mg c = some (.ref C)
  cls : Cls g.K C
  flds : ∀ f, ci.flds.contains f = true → NoAttr g.K C f
  ha : PySem.W.findIn g.K (.ref C) "__class__" = some (some (.builtin "object.__class__"))
  hm : PySem.W.mroIn g.K C (.type "object") = some true
  bt : ∀ T : Bt, PySem.W.kitOne g.K (.ref C) (.type (btN T)) = some false
  to : ∀ T : Bt, PySem.W.kitOne g.K (.type (btN T)) (.ref C) = some false
structure ClsOk (g : Gm) (S : Ev) : Prop where
  cls : ∀ c ci, S.cls c = some ci → ∃ C, ClF g c ci C
  own : ∀ c c' ci ci' C C', S.cls c = some ci → S.cls c' = some ci' → g.mg c = some (.ref C) → g.mg c' = some (.ref C') → PySem.W.kitOne g.K (.ref C) (.ref C') = some (decide (c = c'))
  hn : PySem.W.specialIn g.K (.builtin "object.__class__") "__get__" = some (some (.builtin "getset_descriptor.__get__"))
  htk : PySem.W.takesIn g.K (.builtin "object.__class__") = some true
section
variable {g : Gm} {E : XK} {S : Ev} {w : Wd} {H : Hp}
theorem kit_bt (K : PySem.W.Frag) (a b : Bt) : PySem.W.kitOne K (.type (btN a)) (.type (btN b)) = some (isTy (.bt a) (.bt b)) := by
  refine kit_ty ?_
  cases a <;> cases b <;> decide +kernel
def TyV (g : Gm) : Ty → Value → Prop
  | .bt t, u => u = .type (btN t)
  | .own c, u => ∃ C, g.mg c = some (.ref C) ∧ u = .ref C
theorem kit_any (O : ClsOk g S) {t : Ty} {tv : Value} (ht : TyV g t tv) (kt : knownTy S t = true) : ∀ {ts : List Ty} {us : List Value}, Paired (TyV g) ts us → ts.all (knownTy S) = true → PySem.W.kitAny g.K tv us = some (ts.any (isTy t))
  | [], _, .nil, _ => rfl
  | c :: ts, u :: us, .cons h r, k => by
    rw [List.all_cons, Bool.and_eq_true] at k
    have one : PySem.W.kitOne g.K tv u = some (isTy t c) := by
      cases t with
      | bt a =>
        cases (show tv = _ from ht)
        cases c with
        | bt b => cases (show _ = _ from h); exact kit_bt g.K a b
        | own c =>
          obtain ⟨C, h1, rfl⟩ := h
          obtain ⟨ci, hc⟩ := Option.isSome_iff_exists.mp k.1
          obtain ⟨C', F⟩ := O.cls c ci hc
          have := F.at_
          rw [h1] at this; cases this
          exact F.to a
      | own c' =>
        obtain ⟨C, h1, rfl⟩ := ht
        obtain ⟨ci, hc⟩ := Option.isSome_iff_exists.mp kt
        cases c with
        | bt b =>
          cases (show _ = _ from h)
          obtain ⟨C', F⟩ := O.cls c' ci hc
          have := F.at_
          rw [h1] at this; cases this
          exact F.bt b
        | own c =>
          obtain ⟨D, h2, rfl⟩ := h
          obtain ⟨di, hd⟩ := Option.isSome_iff_exists.mp k.1
          exact O.own c' c ci di C D hc hd h1 h2
    have ih := kit_any O ht kt r k.2
    exact kitAny_cons one (fun e => by rw [ih, List.any_cons, e, Bool.false_or]) (fun e => by rw [List.any_cons, e, Bool.true_or])
theorem ty_is (O : ClsOk g S) (R : RepH g w H) {d : D} {v : V} {t : Ty} (h : Is g.K g.mg w H d v) (e : tyD d w.μ = some t) (k : knownTy S t = true) : ∃ tv, TyV g t tv ∧ TyX g.K H v tv := by
  have inst : ∀ {a : Addr} {c : Str} {C dx : Addr} {xs : List (Str × V)}, g.mg c = some (.ref C) → H a = some (.ins C dx xs) → knownTy S (.own c) = true → TyX g.K H (.ref a) (.ref C) := fun {a c C dx xs} h3 h4 kk => by
    obtain ⟨ci, hc⟩ := Option.isSome_iff_exists.mp kk
    obtain ⟨C', F⟩ := O.cls c ci hc
    have := F.at_
    rw [h3] at this; cases this
    exact .base (.ins h4 F.cls F.ha O.hn O.htk F.hm)
  cases d with
  | non => cases e; cases h; exact ⟨_, rfl, .base .non⟩
  | bl b => cases e; cases h; exact ⟨_, rfl, .base (.bl b)⟩
  | int b => cases e; cases h; exact ⟨_, rfl, .base (.int b)⟩
  | str b => cases e; cases h; exact ⟨_, rfl, .base (.str b)⟩
  | tup ds =>
    cases e
    obtain ⟨a, xs, rfl, h2, _⟩ := h
    refine ⟨_, rfl, ?_⟩
    rcases h2 with ⟨_, h2 | ⟨o, h2⟩⟩ | ⟨o, its, n, h2, h3, _⟩
    · exact .base (.tup h2)
    · exact .fTuple h2
    · exact .kTuple h2 h3
  | lst ds =>
    cases e
    obtain ⟨a, xs, rfl, h2, _⟩ := h
    exact ⟨_, rfl, .base (.lst h2.2)⟩
  | scr ns =>
    cases e
    obtain ⟨a, rfl, h2⟩ := h
    refine ⟨_, rfl, ?_⟩
    rcases h2 with ⟨_, h2 | ⟨o, h2⟩⟩ | ⟨o, its, n, h2, h3, _⟩
    · exact .base (.lst h2)
    · exact .base (.frz h2)
    · exact .kList h2 h3
  | obj c fs =>
    cases e
    obtain ⟨a, C, dx, xs, rfl, _, h3, h4, _⟩ := h
    exact ⟨_, ⟨C, h3, rfl⟩, inst h3 h4 k⟩
  | adr n =>
    obtain ⟨a, rfl, h2⟩ := h
    simp only [tyD] at e
    split at e
    · rename_i ds hc
      cases e
      obtain ⟨xs, h3, _⟩ := R.cell n a _ h2 hc
      exact ⟨_, rfl, .base (.lst h3)⟩
    · rename_i c fs hc
      cases e
      obtain ⟨C, dx, xs, h3, h4, _⟩ := R.cell n a _ h2 hc
      exact ⟨_, ⟨C, h3, rfl⟩, inst h3 h4 k⟩
    · cases e
end
section
variable {g : Gm} {E : XK} {S : Ev} {X : Cx}
theorem TyV.cls {t : Ty} {u : Value} (h : TyV g t u) : ∃ c, ClsV c u ∧ RelV c u := by
  cases t with
  | bt t => cases (show u = _ from h); exact ⟨_, .ty _, rfl⟩
  | own c => obtain ⟨C, _, rfl⟩ := h; exact ⟨_, .own C, rfl⟩
/-- isinstance(x, T) -/
def RTof (g : Gm) (S : Ev) (t : Ty) : List V → Hp → VK → Prop := fun xs H Q => ∃ w d x c u k, xs = [x, c] ∧ TyV g t u ∧ ClsV c u ∧ RepH g w H ∧ Is g.K g.mg w H d x ∧ dIsi S d [t] w.μ = some k ∧ Q (.bl k) H
theorem isi_ok (O : ClsOk g S) (hK : X.K = g.K) {t : Ty} : CallR X (.builtin "isinstance") (RTof g S t) := by
  intro pins s σ H xs us Q I r h
  obtain ⟨w, d, x, c, u, k, rfl, hu, hc, R, hd, e, q⟩ := h
  refine call_isi pins s σ H _ us Q I r ?_
  rw [hK]
  unfold dIsi at e
  split at e
  · rename_i t' ht
    split at e
    · rename_i hk
      cases e
      rw [Bool.and_eq_true] at hk
      obtain ⟨tv, h1, h2⟩ := ty_is O R hd ht hk.1
      have h3 := kit_any O h1 hk.1 (.cons hu .nil : Paired (TyV g) [t] [u]) hk.2
      refine ⟨x, c, tv, u, _, rfl, hc, h2, ?_, q⟩
      unfold PySem.W.kitAny at h3
      cases e1 : PySem.W.kitOne g.K tv u with
      | none => rw [e1] at h3; cases h3
      | some b =>
        rw [e1] at h3
        cases b with
        | true => exact h3
        | false => exact h3
    · cases e
  · cases e
def RTsof (g : Gm) (S : Ev) (ts : List Ty) : List V → Hp → VK → Prop := fun xs H Q => ∃ w d x tp cs us k, xs = [x, .ref tp] ∧ Paired (TyV g) ts us ∧ Paired ClsV cs us ∧ H tp = some (.tup cs) ∧ RepH g w H ∧ Is g.K g.mg w H d x ∧ dIsi S d ts w.μ = some k ∧ Q (.bl k) H
theorem isiT_ok (O : ClsOk g S) (hK : X.K = g.K) {ts : List Ty} : CallR X (.builtin "isinstance") (RTsof g S ts) := by
  intro pins s σ H xs us Q I r h
  obtain ⟨w, d, x, tp, cs, us', k, rfl, hu, hc, htp, R, hd, e, q⟩ := h
  refine call_isiT pins s σ H _ us Q I r ?_
  rw [hK]
  unfold dIsi at e
  split at e
  · rename_i t' ht
    split at e
    · rename_i hk
      cases e
      rw [Bool.and_eq_true] at hk
      obtain ⟨tv, h1, h2⟩ := ty_is O R hd ht hk.1
      exact ⟨x, tp, cs, tv, us', _, rfl, htp, hc, h2, kit_any O h1 hk.1 hu hk.2, q⟩
    · cases e
  · cases e

/-! ### functions of values -/
theorem isL1 {w : Wd} {H : Hp} {d : D} {xs : List V} (h : IsL g.K g.mg w H [d] xs) : ∃ v, xs = [v] ∧ Is g.K g.mg w H d v := by
  obtain ⟨v, r, rfl, h1, h2⟩ := h.of_cons
  rw [h2.of_nil]
  exact ⟨v, rfl, h1⟩
theorem isL2 {w : Wd} {H : Hp} {d e : D} {xs : List V} (h : IsL g.K g.mg w H [d, e] xs) : ∃ v u, xs = [v, u] ∧ Is g.K g.mg w H d v ∧ Is g.K g.mg w H e u := by
  obtain ⟨v, r, rfl, h1, h2⟩ := h.of_cons
  obtain ⟨u, rfl, h3⟩ := isL1 h2
  exact ⟨v, u, rfl, h1, h3⟩
def nmOf : Bi → Str × Value
  | .len => ("len", .builtin "len")
  | .abs => ("abs", .builtin "abs")
  | .min2 => ("min", .builtin "min")
  | .max2 => ("max", .builtin "max")
  | .int => ("int", .type "int")
  | .list _ => ("list", .type "list")
  | .tuple => ("tuple", .type "tuple")
  | .sum => ("sum", .builtin "sum")
theorem intsD_is {w : Wd} {H : Hp} : ∀ {ds : List D} {l : List Int} {vs : List V}, intsD ds = some l → IsL g.K g.mg w H ds vs → vs = l.map V.int
  | [], l, vs, e, h => by cases e; rw [h.of_nil]; rfl
  | .int j :: r, l, vs, e, h => by
    unfold intsD at e
    obtain ⟨l', e1, rfl⟩ := Option.map_eq_some_iff.mp e
    obtain ⟨v, r', rfl, h1, h2⟩ := h.of_cons
    cases (show v = _ from h1)
    rw [List.map_cons, intsD_is e1 h2]
  | .non :: _, _, _, e, _ => by simp [intsD] at e
  | .bl _ :: _, _, _, e, _ => by simp [intsD] at e
  | .str _ :: _, _, _, e, _ => by simp [intsD] at e
  | .tup _ :: _, _, _, e, _ => by simp [intsD] at e
  | .lst _ :: _, _, _, e, _ => by simp [intsD] at e
  | .scr _ :: _, _, _, e, _ => by simp [intsD] at e
  | .obj _ _ :: _, _, _, e, _ => by simp [intsD] at e
  | .adr _ :: _, _, _, e, _ => by simp [intsD] at e

theorem ins_not {w : Wd} {H : Hp} {d : D} {xs : List D} (R : RepH g w H) {μ : Mu} (e : rdS d μ = some xs) : rdI d μ = none := rdS_live μ e
theorem len_is {w : Wd} {H : Hp} (R : RepH g w H) {d : D} {v : V} {n : Nat} (h : Is g.K g.mg w H d v) (e : lenD d w.μ = some n) : LenV g.K v H n := by
  have seq : ∀ xs, rdS d w.μ = some xs → xs.length = n → LenV g.K v H n := fun xs h1 h2 => by
    obtain ⟨p, vs, rfl, h3, h4⟩ := rdS_is R h h1
    have := h4.length
    rcases h3 with h3 | h3
    · exact .inl ⟨vs, h3, by omega⟩
    · exact .inr ⟨vs, h3, by omega⟩
  unfold lenD at e
  split at e
  · rename_i x
    split at e
    · rename_i hx
      cases e
      cases (show v = _ from h)
      exact ⟨Nat.le_trans hx big_le, rfl⟩
    · cases e
  · cases e
    exact seq _ rfl (by simp)
  · obtain ⟨xs, h1, h2⟩ := Option.map_eq_some_iff.mp e
    exact seq xs h1 h2
/-- a function of values that are no instances -/
def plainB (b : Bi) (d : List D) (μ : Mu) : Prop := match b, d with
  | .len, [d] => rdI d μ = none
  | _, _ => True
def RBof (g : Gm) (E : XK) (S : Ev) (b : Bi) : List V → Hp → VK → Prop := fun xs H Q => ∃ w ds, RepH g w H ∧ IsL g.K g.mg w H ds xs ∧ plainB b ds w.μ ∧ Post g w H E (dBi S b ds w.μ) (IsV g) Q
theorem bi_ok (hK : X.K = g.K) (hc : X.calm = true) (b : Bi) : CallR X (nmOf b).2 (RBof g E S b) := by
  intro pins s σ H xs us Q I r h
  obtain ⟨w, ds, R, hds, hp, P⟩ := h
  unfold dBi at P
  split at P
  · obtain ⟨v, rfl, hv⟩ := isL1 hds
    rename_i d
    have hp : rdI d w.μ = none := hp
    rw [hp] at P
    obtain ⟨z, hz, P⟩ := P.opt
    obtain ⟨n, hn, rfl⟩ := Option.map_eq_some_iff.mp hz
    have := len_is R hv hn
    rw [← hK] at this
    exact call_len pins s σ H _ us Q I r ⟨v, n, rfl, this, P.here R rfl⟩
  · rename_i i
    obtain ⟨v, rfl, hv⟩ := isL1 hds
    cases (show v = _ from hv)
    exact call_abs pins s σ H _ us Q I r ⟨i, rfl, P.here R rfl⟩
  · rename_i i j
    obtain ⟨v, u, rfl, hv, hu⟩ := isL2 hds
    cases (show v = _ from hv)
    cases (show u = _ from hu)
    exact call_min2 hc pins s σ H _ us Q I r ⟨i, j, rfl, P.here R rfl⟩
  · rename_i i j
    obtain ⟨v, u, rfl, hv, hu⟩ := isL2 hds
    cases (show v = _ from hv)
    cases (show u = _ from hu)
    exact call_max2 hc pins s σ H _ us Q I r ⟨i, j, rfl, P.here R rfl⟩
  · rename_i i
    obtain ⟨v, rfl, hv⟩ := isL1 hds
    cases (show v = _ from hv)
    exact call_int1 pins s σ H _ us Q I r (.inl ⟨i, rfl, P.here R rfl⟩)
  · rename_i k
    obtain ⟨v, rfl, hv⟩ := isL1 hds
    cases (show v = _ from hv)
    exact call_int1 pins s σ H _ us Q I r (.inr ⟨k, rfl, P.here R rfl⟩)
  · rename_i m d
    obtain ⟨v, rfl, hv⟩ := isL1 hds
    split at P
    · rename_i ys hy
      obtain ⟨p, vs, rfl, h3, h4⟩ := rdS_is R hv hy
      rw [← hK] at h3
      exact call_list_of pins s σ H _ us Q I r ⟨p, vs, rfl, h3, (post_new R h4 P).2⟩
    · exact P.none.elim
  · rename_i d
    obtain ⟨v, rfl, hv⟩ := isL1 hds
    by_cases ht : ∃ ys, d = .tup ys
    · obtain ⟨ys, rfl⟩ := ht
      have P : Post g w H E (mOk (.tup ys) w.μ) (IsV g) Q := P
      obtain ⟨p, vs, rfl, h3, h4⟩ := id hv
      have h5 := h3.sq
      rw [← hK] at h5
      exact call_tuple_of pins s σ H _ us Q I r ⟨p, vs, rfl, .inr ⟨h5, P.here R hv⟩⟩
    · split at P
      · rename_i ys hy
        have : ∃ p vs, v = .ref p ∧ SqL g.K H p vs ∧ IsL g.K g.mg w H ys vs := by
          by_cases hs : ∃ ns, d = .scr ns
          · obtain ⟨ns, rfl⟩ := hs
            cases hy
            obtain ⟨a, h1, h2⟩ := hv
            exact ⟨a, _, h1, h2.sq, isL_ints ns⟩
          · have e' : rdL d w.μ = some ys := by
              cases d <;> first | exact hy | exact absurd ⟨_, rfl⟩ ht | exact absurd ⟨_, rfl⟩ hs
            obtain ⟨a, vs, h1, h2, h3⟩ := rdL_is R hv e'
            exact ⟨a, vs, h1, .of h2, h3⟩
        obtain ⟨p, vs, rfl, h3, h4⟩ := this
        rw [← hK] at h3
        exact call_tuple_of pins s σ H _ us Q I r ⟨p, vs, rfl, .inl ⟨h3, post_tup R h4 P⟩⟩
      · exact P.none.elim
  · rename_i d
    obtain ⟨v, rfl, hv⟩ := isL1 hds
    split at P
    · rename_i ys hy
      obtain ⟨z, hz, P⟩ := P.opt
      obtain ⟨l, hl, rfl⟩ := Option.map_eq_some_iff.mp hz
      obtain ⟨p, vs, rfl, h3, h4⟩ := rdL_is R hv hy
      have e := intsD_is hl h4
      subst e
      exact cr_sum hc pins s σ H _ us Q I r ⟨p, l, rfl, .of h3, P.here R rfl⟩
    · exact P.none.elim
  · exact P.none.elim

/-! ### a list's methods -/
def mtOf : Mt → String
  | .append => "list.append" | .extend => "list.extend" | .pop => "list.pop"
theorem ext_put {w : Wd} {H : Hp} {n : Nat} {a : Addr} {c : Cell} {xs : List V} {ds' : List D} {vs' : List V} {d : D} {v : V} {Q : VK} {E : XK} (R : RepH g w H) (hn : w.A[n]? = some a) (hc : w.μ[n]? = some c) (hf : c ≠ .froz) (ha : H a = some (.lst xs)) (i : IsL g.K g.mg w H ds' vs') (hd : Is g.K g.mg w H d v)
    (P : Post g w H E (some (.ok d, w.μ.set n (.lst ds'))) (IsV g) Q) : Q v (upd H a (.lst vs')) := by
  obtain ⟨e, R1⟩ := put_lst R hn hc hf ha i
  exact Post.ok (a := d) (μ := w.μ.set n (.lst ds')) (A' := w.A) P e R1 (hd.ext e)
theorem mt_ok (b : Mt) : MtM X (mtOf b) (RMof g E (dMt b)) := by
  intro pins s σ H x xs v us Q I rx rxs h
  obtain ⟨w, d, ds, R, hd, hds, P⟩ := h
  unfold dMt at P
  split at P
  · rename_i n
    split at P
    · rename_i ys hy
      obtain ⟨a, rfl, hA⟩ := hd
      obtain ⟨vs, h1, h2⟩ := R.cell n a _ hA hy
      have nf : (Cell.lst ys) ≠ .froz := by intro z; cases z
      split at P
      · rename_i y
        obtain ⟨u, rfl, hu⟩ := isL1 hds
        split at P
        · rename_i hl
          refine mt_append pins s σ H _ _ v us Q I rx rxs ⟨a, vs, u, rfl, rfl, h1, by rw [h2.length]; exact Nat.lt_of_lt_of_le hl big_le, ?_⟩
          exact ext_put (d := .non) R hA hy nf h1 (h2.append (IsL.cons hu IsL.nil)) rfl P
        · exact P.none.elim
      · rename_i y
        obtain ⟨u, rfl, hu⟩ := isL1 hds
        split at P
        · rename_i zs hz
          split at P
          · rename_i hl
            obtain ⟨b, us', rfl, h3, h4⟩ := rdL_is R hu hz
            refine mt_extend pins s σ H _ _ v us Q I rx rxs ⟨a, b, vs, us', rfl, rfl, h1, h3, by rw [h2.length, h4.length]; exact Nat.le_trans hl big_le, ?_⟩
            exact ext_put (d := .non) R hA hy nf h1 (h2.append h4) rfl P
          · exact P.none.elim
        · exact P.none.elim
      · obtain rfl := hds.of_nil
        split at P
        · rename_i y hl
          rw [List.getLast?_eq_getElem?] at hl
          obtain ⟨z, h3, h4⟩ := h2.get hl
          refine mt_pop pins s σ H _ _ v us Q I rx rxs ⟨a, vs, z, rfl, rfl, h1, by rw [h2.length]; exact h3, ?_⟩
          have h5 : IsL g.K g.mg w H ys.dropLast vs.dropLast := by
            rw [List.dropLast_eq_take, List.dropLast_eq_take, h2.length]
            exact h2.take _
          exact ext_put R hA hy nf h1 h5 h4 P
        · exact P.none.elim
      · exact P.none.elim
    · exact P.none.elim
  · exact P.none.elim
end
end M

set_option Elab.async false
set_option linter.all false
set_option maxRecDepth 100000
set_option maxHeartbeats 1000000
/-! EN: enumerate(tuple). -/
namespace PySem
open Sem (wp)
open AutoSeq1 (wpAny_loadPart')
theorem en_newT (l : Addr) (items : Array Value) (n : Nat) (dct : Option Addr) (sl : Array (Option Value)) :
    Meets (Builtin.«enumerate.__new__» ⟨[.type "enumerate", .ref l], []⟩) (fun _ R s => s.heap.get? l = some { cls := .type "tuple", dict := dct, data := .seq items n, slots := sl } ∧
      R (.ok (.ret (.ref (s.heap.push { cls := .type "tuple_iterator", data := .fields #[.ref l, .int 0 0] }).objs.size)))
        { s with heap := (s.heap.push { cls := .type "tuple_iterator", data := .fields #[.ref l, .int 0 0] }).push { cls := .type "enumerate", data := .fields #[.none, .bool false, .ref s.heap.objs.size, rawInt 0, .none, .none] } }) :=
  .of_wp fun prog w A R s h => by
    obtain ⟨hp, g, d, tk, os⟩ := s; obtain ⟨hl, h⟩ := h
    have hsub := sub_enumerate
    have hL : Heap.IsTuple (Shared.heap ⟨hp, g, d, tk, os⟩) l items := ⟨_, hl, rfl, n, rfl⟩
    wp_walk using wpAny_loadPart' hl
    refine wpAny_stack_any fun st => wpAny_pure ?_
    split
    · rename_i c _ _ _ _ _
      cases (c == Value.type "enumerate")
      · wp_walk using wpAny_loadPart' hl, wpAny_pyIter_tuple hL
        exact ⟨_, rfl, h⟩
      · wp_walk using wpAny_loadPart' hl, wpAny_pyIter_tuple hL
        exact ⟨_, rfl, h⟩
    · wp_walk using wpAny_loadPart' hl, wpAny_pyIter_tuple hL
      exact ⟨_, rfl, h⟩
section
variable {prog : Program} {w : World} {A : Around} {E : Value → Shared → Prop} {s : Shared}
theorem call_enumerate_tup {l : Addr} {items : Array Value} {Q : Value → Shared → Prop} (hL : s.heap.IsTuple l items)
    (h : ∀ h', IsEnum h' (s.heap.objs.size + 1) s.heap.objs.size 0 .none → h'.IsTupleIter s.heap.objs.size l 0 → h'.objs.size = s.heap.objs.size + 2 →
      (∀ b o, s.heap.get? b = some o → h'.get? b = some o) → Q (.ref (s.heap.objs.size + 1)) { s with heap := h' }) :
    wpAny (model prog w) A (call (.type "enumerate") [.ref l]) Q E s := by
  obtain ⟨⟨c, dct, dt, sl⟩, hl, hc, n, hd⟩ := hL
  replace hc : c = .type "tuple" := hc
  replace hd : dt = .seq items n := hd
  subst hc hd
  refine callType_new F.called_enumerate (by decide) (F.typeCall_enumerate_1 _) (F.newCall_enumerate_1 _) (fun obj => F.args_object_init_2 obj _) F.entry_enumerate_new
    (en_newT l items n dct sl) ⟨hl, ?_⟩
  have hz : (s.heap.push { cls := .type "tuple_iterator", data := .fields #[.ref l, .int 0 0] }).objs.size = s.heap.objs.size + 1 := Heap.size_push ..
  show _ ∧ _
  rw [hz]
  have he : IsEnum ((s.heap.push { cls := .type "tuple_iterator", data := .fields #[.ref l, .int 0 0] }).push
      { cls := .type "enumerate", data := .fields #[.none, .bool false, .ref s.heap.objs.size, rawInt 0, .none, .none] }) (s.heap.objs.size + 1) s.heap.objs.size 0 .none := by
    have := Heap.get?_push_size (s.heap.push { cls := .type "tuple_iterator", data := .fields #[.ref l, .int 0 0] })
      (o := { cls := .type "enumerate", data := .fields #[.none, .bool false, .ref s.heap.objs.size, rawInt 0, .none, .none] }) rfl
    rw [hz] at this; exact this
  refine ⟨⟨_, he, rfl⟩, h _ he ⟨_, Heap.get?_push_of_some _ (Heap.get?_push_size _ rfl), rfl, rfl⟩ (by rw [Heap.size_push, hz]) fun b o x => Heap.get?_push_of_some _ (Heap.get?_push_of_some _ x)⟩
end
end PySem
namespace M
open PySem PySem.Spec L2
/-- the tuple at a, each item in a new pair -/
def IteT (K : PySem.W.Frag) (a : Addr) : It :=
  ⟨fun i H => ∃ (xs : List V) (x : V), SqT K H a xs ∧ xs[i]? = some x, fun i H v H' => ∃ T x, v = .ref T ∧ H T = none ∧ H' = upd H T (.tup [.int (i : Nat), x]) ∧ ∀ xs, SqT K H a xs → xs[i]? = some x, fun i H => ∃ xs : List V, SqT K H a xs ∧ xs.length ≤ i⟩
theorem turn_enumT {P : Program} {w : World} {K : PySem.W.Frag} {elts : List Expr} {kk : Nat} {tpos : Pos} (a e it : Addr) :
    Turn P w K (.Tuple elts kk tpos) (IteT K a) [e, it] e (fun i h => (∃ old, IsEnum h e it ((i : Nat) : Int) old) ∧ h.IsTupleIter it a i ∧ e ≠ it) where
  mem := by simp
  obj := fun i h st b hb => by
    obtain ⟨⟨old, he⟩, ⟨o, ho, hc, hd⟩, _⟩ := st
    have e' : b = e ∨ b = it := by simpa using hb
    rcases e' with z | z
    · rw [z]; exact ⟨_, he, fun v q => nomatch q⟩
    · rw [z]; exact ⟨o, ho, fun v q => by rw [hd] at q; cases q⟩
  keep := fun i h h' st k => let ⟨⟨old, he⟩, hi, hne⟩ := st; ⟨⟨old, k e (by simp) _ he⟩, hi.at fun o q => k it (by simp) o q, hne⟩
  item := by
    intro X hP hw hK hc i pins s σ H E I hf st hg
    subst hP hw hK
    obtain ⟨⟨old, he⟩, hit, hne⟩ := st
    obtain ⟨xs, x, hq, hx⟩ := hg
    obtain ⟨its, rv, p, hz⟩ := I.tuple hq
    obtain ⟨u, hu, ru⟩ := rv.get hx
    have hel : e < s.heap.objs.size := Heap.lt_size he
    have hil : it < s.heap.objs.size := by obtain ⟨_, q, _⟩ := hit; exact Heap.lt_size q
    obtain ⟨oa, ha, hca, _⟩ := id p
    have hae : a ≠ e := fun z => by rw [z, he] at ha; cases ha; exact absurd (show Value.type "enumerate" = Value.type "tuple" from hca) (by decide)
    have hai : a ≠ it := fun z => by
      obtain ⟨oi, h1, h2, _⟩ := hit
      rw [z, h1] at ha; cases ha
      rw [h2] at hca; exact absurd hca (by decide)
    have hh : X.A.in1.handled = none := I.ok.hd hc
    have hlt : i < its.toArray.size := by
      have := (List.getElem?_eq_some_iff.mp hu).1
      simpa using this
    refine wpAny_pyNext_enum_itemC (Draws.tuple hh it a hai its.toArray) he ⟨hit, p⟩ hlt hne (by simp [hne, Ne.symm hae]) fun y h' tk hy ho hit' hT hsz hk => ?_
    have ey : y = u := by
      have : its.toArray[i]? = some y := hy
      rw [List.getElem?_toArray, hu] at this
      exact (Option.some.inj this).symm
    subst ey
    refine ⟨_, rfl, wpAny_letOwnedTupleGo_enum (s := { s with heap := h', toks := tk + 1 }) ho fun h'' he' sb => ?_⟩
    have hT2 : h''.get? s.heap.objs.size = some { cls := .type "tuple", data := .seq #[.int i tk, y] } := (sb.2 _ (Nat.ne_of_gt hel)).trans hT
    have new : ObjOk X.prog X.w (upd H s.heap.objs.size (.tup [.int (i : Nat), x])) h'' s.heap.objs.size (.tup [.int (i : Nat), x]) :=
      ⟨by show 2 ≤ sizeLine; decide, [.int i tk, y], .cons ⟨_, rfl⟩ (.cons ru .nil), ⟨_, hT2, rfl, _, rfl⟩⟩
    have I1 : Inv X pins σ (upd H s.heap.objs.size (.tup [.int (i : Nat), x])) { s with heap := h'', toks := tk + 1 } :=
      I.turnedNew (ch := [e, it]) (fun b ob hb q => (sb.2 b (fun z => hb (by simp [z]))).trans (hk b ob (fun z => hb (by simp [z])) (fun z => hb (by simp [z])) q)) hf (Nat.le_refl _) new
    refine ⟨.ref s.heap.objs.size, _, I1, rfl, ⟨_, x, rfl, I.hok.fresh (Nat.le_refl _), rfl, fun ys hy => by rw [I.tuple_inj hy hq]; exact hx⟩, ⟨⟨y, ?_⟩, hit'.1.at fun o q => (sb.2 it (Ne.symm hne)).trans q, hne⟩, fun b hb => ?_⟩
    · have e1 : ((i + 1 : Nat) : Int) = (i : Int) + 1 := by omega
      rw [e1]; exact he'
    · have hb' : b < s.heap.objs.size := by
        have e' : b = e ∨ b = it := by simpa using hb
        rcases e' with z | z
        · rw [z]; exact hel
        · rw [z]; exact hil
      rw [upd_ne (Nat.ne_of_lt hb')]
      exact (hf b hb).1
  done := by
    intro X hP hw hK hc i pins s σ H E I hf st hg
    subst hP hw hK
    obtain ⟨⟨old, he⟩, hit, hne⟩ := st
    obtain ⟨xs, hq, hx⟩ := hg
    obtain ⟨its, rv, p, hz⟩ := I.tuple hq
    obtain ⟨f0, f1, f2, f3, f4, f5⟩ := hf it (by simp)
    have hl := rv.length
    obtain ⟨oa, ha, hca, _⟩ := id p
    have hae : a ≠ e := fun z => by rw [z, he] at ha; cases ha; exact absurd (show Value.type "enumerate" = Value.type "tuple" from hca) (by decide)
    have hai : a ≠ it := fun z => by
      obtain ⟨oi, h1, h2, _⟩ := hit
      rw [z, h1] at ha; cases ha
      rw [h2] at hca; exact absurd hca (by decide)
    have hh : X.A.in1.handled = none := I.ok.hd hc
    have hT : s.TypeIs (.ref e) "enumerate" := ⟨_, he, rfl⟩
    unfold pyNext
    refine wpAny_bind (wpAny_attempt (wpAny_callSpecial?_slot (name := Str.ofString "__next__") hT F.slot_enumerate_next
      (wpAny_call_entry F.slot_enumerate_next hT F.entry_enumerate_next ?_ (F.args_enumerate_next_1 _))))
    show wpAny _ _ (field (.ref e) 2 >>= _) _ _ _
    refine wpAny_bind (wpAny_field he rfl (x := .ref it) rfl ?_)
    refine wpAny_bind (wpAny_nextOf_tuple_end hh hit p (by simp; omega) fun h' x he' hx' => ?_)
    obtain ⟨o, ho, hc⟩ := hx'
    refine wpAny_bind (wpAny_isInstance (T := "StopIteration") (b := true) ⟨o, ho, hc⟩ isSubtype_stop ?_)
    exact wpAny_pure ⟨rfl, I.turned (t' := s.toks) (fun b o hb q => he' b o hb q) f0 f1 f3 f4 f5⟩
  self := fun A i s Q E st h => let ⟨⟨_, he⟩, _⟩ := st; wpAny_pyIter_enum he h
def iEnumT (K : PySem.W.Frag) (ta : TA) : TI := fun σ H R => ta σ H fun vs H1 => ∃ a xs, vs = [.ref a] ∧ ((SqL K H1 a xs ∧ R (Ite K a) H1) ∨ (SqT K H1 a xs ∧ R (IteT K a) H1))
theorem pi_enumT {X : Cx} {e : Expr} {ta : TA} {p pos tpos : Pos} {elts : List Expr} {kk : Nat} (hg : Gl X "enumerate") (hm : X.mg "enumerate" = none) (ha : PA X [e] ta) (hs : starEach [e] X.env = [(false, eval e X.env)]) :
    PI X (.Tuple elts kk tpos) (.Call (.Name "enumerate" p) [e] [] pos) (iEnumT X.K ta) := by
  refine ⟨fun pins s σ H R I h => ?_⟩
  refine PyProof.Rows.Call_ (ld_blt I hg hm PyProof.Rows.boot_enumerate (PyProof.Rows.callWith_type1 (thn (ha.run pos pins s σ H _ I h) fun us s1 ⟨vs, H1, I1, r1, q1⟩ => ?_) hs rfl))
  obtain ⟨a, xs, ex, q⟩ := q1
  subst ex
  cases r1 with
  | cons r rr =>
    cases rr
    cases r
    have fp : ∀ b ∈ [s1.heap.objs.size + 1, s1.heap.objs.size], FpOk X pins H1 b := fun b hb => by
      have e' : b = s1.heap.objs.size + 1 ∨ b = s1.heap.objs.size := by simpa using hb
      have hle : s1.heap.objs.size ≤ b := by
        rcases e' with z | z
        · rw [z]; exact Nat.le_add_right _ _
        · rw [z]; exact Nat.le_refl _
      exact I1.fpOk hle (I1.hok.fresh hle)
    rcases q with ⟨hq, q⟩ | ⟨hq, q⟩
    · obtain ⟨its, rv, p', hz⟩ := I1.list hq
      refine call_enumerate_list p'.isList fun h' he hit hsz hk => wpAny_pyIter_enum he ?_
      have I2 : Inv X pins σ H1 { s1 with heap := h' } := I1.kept (t' := s1.toks) hk
      exact ⟨s1.heap.objs.size + 1, [s1.heap.objs.size + 1, s1.heap.objs.size], _, _, H1, rfl, I2, turn_enum a (s1.heap.objs.size + 1) s1.heap.objs.size, ⟨⟨.none, he⟩, hit, Nat.succ_ne_self _⟩, fp, q⟩
    · obtain ⟨its, rv, p', hz⟩ := I1.tuple hq
      refine call_enumerate_tup (show s1.heap.IsTuple a its.toArray from p') fun h' he hit hsz hk => wpAny_pyIter_enum he ?_
      have I2 : Inv X pins σ H1 { s1 with heap := h' } := I1.kept (t' := s1.toks) hk
      exact ⟨s1.heap.objs.size + 1, [s1.heap.objs.size + 1, s1.heap.objs.size], _, _, H1, rfl, I2, turn_enumT a (s1.heap.objs.size + 1) s1.heap.objs.size, ⟨⟨.none, he⟩, hit, Nat.succ_ne_self _⟩, fp, q⟩
end M

set_option Elab.async false
set_option linter.all false
set_option maxRecDepth 100000
/-! N6: the rules, one for each form. -/
namespace M
open PySem PySem.Spec L2
section
variable {g : Gm} {E : XK} {S : Ev} {X : Cx} {pos : Pos}
theorem tE_on {m : DE} {w : Wd} {H : Hp} {Δ : Dl} {σ : St} {Q : VK} (R : Rep g w H Δ σ) (P : Post g w H E (m Δ w.μ) (IsV g) Q) : tE g E m σ H Q := ⟨w, Δ, R, P⟩
/-- one operand, then on -/
theorem tE_bind {m : DE} {α β : Type} {f : D → Mu → Mo α} {rel : Wd → Hp → α → β → Prop} {Q : β → Hp → Prop} {w : Wd} {H : Hp} {Δ : Dl} {σ : St} {Q' : VK} (R : Rep g w H Δ σ) (P : Post g w H E (mBind (m Δ w.μ) f) rel Q)
    (k : ∀ w1 H1 a v, Ext w H w1 H1 → Rep g w1 H1 Δ σ → w1.L = w.L → Is g.K g.mg w1 H1 a v → Post g w1 H1 E (f a w1.μ) rel Q → Q' v H1) : tE g E m σ H Q' :=
  ⟨w, Δ, R, Post.bind P fun w1 H1 a v e R1 hL i P1 => k w1 H1 a v e ⟨R1, R.s.ext e⟩ hL i P1⟩
theorem tT_bind {m : DT} {α β : Type} {f : Bool → Mu → Mo α} {rel : Wd → Hp → α → β → Prop} {Q : β → Hp → Prop} {w : Wd} {H : Hp} {Δ : Dl} {σ : St} {Q' : Bool → Hp → Prop} (R : Rep g w H Δ σ) (P : Post g w H E (mBind (m Δ w.μ) f) rel Q)
    (k : ∀ w1 H1 a, Ext w H w1 H1 → Rep g w1 H1 Δ σ → w1.L = w.L → Post g w1 H1 E (f a w1.μ) rel Q → Q' a H1) : tT g E m σ H Q' :=
  ⟨w, Δ, R, Post.bind P fun w1 H1 a v e R1 hL i P1 => by cases (show a = v from i); exact k w1 H1 a e ⟨R1, R.s.ext e⟩ hL P1⟩
theorem tA_bind {m : DA} {α β : Type} {f : List D → Mu → Mo α} {rel : Wd → Hp → α → β → Prop} {Q : β → Hp → Prop} {w : Wd} {H : Hp} {Δ : Dl} {σ : St} {Q' : List V → Hp → Prop} (R : Rep g w H Δ σ) (P : Post g w H E (mBind (m Δ w.μ) f) rel Q)
    (k : ∀ w1 H1 a v, Ext w H w1 H1 → Rep g w1 H1 Δ σ → w1.L = w.L → IsL g.K g.mg w1 H1 a v → Post g w1 H1 E (f a w1.μ) rel Q → Q' v H1) : tA g E m σ H Q' :=
  ⟨w, Δ, R, Post.bind P fun w1 H1 a v e R1 hL i P1 => k w1 H1 a v e ⟨R1, R.s.ext e⟩ hL i P1⟩

theorem mBind_assoc {α β γ : Type} (x : Mo α) (f : α → Mu → Mo β) (h : β → Mu → Mo γ) : mBind (mBind x f) h = mBind x fun a μ => mBind (f a μ) h := by
  cases x with
  | none => rfl
  | some p => obtain ⟨p, μ⟩ := p; cases p <;> rfl
theorem tru_bl (o : Option Bool) (μ : Mu) : (mBind (mOpt (o.map .bl) μ) fun x μ1 => mOpt (truD x μ1) μ1) = mOpt o μ := by cases o <;> rfl
theorem tru_bl1 (k : Bool) (μ : Mu) : (mBind (mOk (.bl k) μ) fun x μ1 => mOpt (truD x μ1) μ1) = mOk k μ := rfl
theorem mBind_opt {α β : Type} (o : Option α) (μ : Mu) (f : α → Mu → Mo β) : mBind (mOpt o μ) f = match o with | some a => f a μ | none => none := by cases o <;> rfl
theorem mBind_ok {α β : Type} (a : α) (μ : Mu) (f : α → Mu → Mo β) : mBind (mOk a μ) f = f a μ := rfl
theorem mBind_ite {α β : Type} (c : Bool) (x y : Mo α) (f : α → Mu → Mo β) : mBind (if c = true then x else y) f = if c = true then mBind x f else mBind y f := by cases c <;> rfl
/-! ### names, constants -/
theorem me_var {i : Nat} {x : Str} (hN : X.N[i]? = some x) (hv : Vis X.env.scope x) (hd : (x == ("__debug__" : Str)) = false) (hc : (x == ("__classdict__" : Str)) = false) : PE X (.Name x pos) (tE g E (evE S (.var i))) := by
  refine pe_mono (pe_var hN hv hd hc) fun σ H Q ⟨w, Δ, R, P⟩ => ?_
  unfold evE at P
  split at P
  · rename_i d hd
    obtain ⟨v, h1, h2⟩ := R.s.2 i d hd
    exact ⟨v, h1, P.here R.h h2⟩
  · exact P.none.elim
theorem me_cst {e : Expr} {d : D} {v : V} (h : PE X e (tC v)) (i : ∀ w H, RepH g w H → Is g.K g.mg w H d v) : PE X e (tE g E (evE S (.cst d))) :=
  pe_mono h fun σ H Q ⟨w, Δ, R, P⟩ => by
    unfold evE at P
    exact P.here R.h (i w H R.h)
/-! ### operations -/
variable {a b c : Expr} {ia ib ic : IE}
theorem me_bin (hK : X.K = g.K) (o : Ob) (m : Bool) (ha : PE X a (tE g E (evE S ia))) (hb : PE X b (tE g E (evE S ib))) : PE X (.BinOp a (opOf o) b pos) (tE g E (evE S (.bin o m ia ib))) := by
  refine pe_mono (pe_op (bin_ok (E := E) hK o m) ha hb) fun σ H Q ⟨w, Δ, R, P⟩ => ?_
  unfold evE at P
  refine tE_bind R P fun w1 H1 x v e1 R1 _ i1 P1 => ?_
  refine tE_bind R1 P1 fun w2 H2 y u e2 R2 _ i2 P2 => ?_
  exact ⟨w2, x, y, R2.h, i1.ext e2, i2, P2⟩
theorem me_neg (ha : PE X a (tE g E (evE S ia))) : PE X (.UnaryOp .USub a pos) (tE g E (evE S (.neg ia))) := by
  refine pe_mono (pe_un un_neg ha) fun σ H Q ⟨w, Δ, R, P⟩ => ?_
  unfold evE at P
  refine tE_bind R P fun w1 H1 x v e1 R1 _ i1 P1 => ?_
  split at P1
  · rename_i i
    exact ⟨i, i1, P1.here R1.h rfl⟩
  · exact P1.none.elim
theorem me_cmp (hK : X.K = g.K) (hu : X.A.units + 64 < cLine) (o : Oc) (ha : PE X a (tE g E (evE S ia))) (hb : PE X b (tE g E (evE S ib))) (hm : behindInMarks (ocOf o) b = false) : PE X (.Compare a [ocOf o] [b] pos) (tE g E (evE S (.cmp o ia ib))) := by
  refine pe_mono (pe_cmpR (cmp_ok hK hu o) ha hb hm) fun σ H Q ⟨w, Δ, R, P⟩ => ?_
  unfold evE at P
  refine tE_bind R P fun w1 H1 x v e1 R1 _ i1 P1 => ?_
  refine tE_bind R1 P1 fun w2 H2 y u e2 R2 _ i2 P2 => ?_
  obtain ⟨z, hz, P3⟩ := P2.opt
  obtain ⟨k, hk, rfl⟩ := Option.map_eq_some_iff.mp hz
  exact ⟨w2, x, y, k, R2.h, i1.ext e2, i2, hk, P3.here R2.h rfl⟩
theorem mt_cmp (hK : X.K = g.K) (hu : X.A.units + 64 < cLine) (o : Oc) (ha : PE X a (tE g E (evE S ia))) (hb : PE X b (tE g E (evE S ib))) (hm : behindInMarks (ocOf o) b = false) : PT X (.Compare a [ocOf o] [b] pos) (tT g E (evC S (.tru (.cmp o ia ib)))) := by
  refine pt_mono (pt_cmpR (cmp_ok hK hu o) ha hb hm) fun σ H Q ⟨w, Δ, R, P⟩ => ?_
  have P : Post g w H E (mBind (evE S ia Δ w.μ) fun x μ1 => mBind (evE S ib Δ μ1) fun y μ2 => mOpt (dCmp o x y μ2) μ2) IsB Q := by
    unfold evC evE at P
    simp only [mBind_assoc, tru_bl] at P
    exact P
  show tOp (RKof g o) (tE g E (evE S ia)) (tE g E (evE S ib)) σ H _
  refine tE_bind R P fun w1 H1 x v e1 R1 _ i1 P1 => ?_
  refine tE_bind R1 P1 fun w2 H2 y u e2 R2 _ i2 P2 => ?_
  obtain ⟨k, hk, P3⟩ := P2.opt
  exact ⟨w2, x, y, k, R2.h, i1.ext e2, i2, hk, k, rfl, P3.here R2.h rfl⟩
theorem me_chain (hK : X.K = g.K) (hu : X.A.units + 64 < cLine) (o p : Oc) (ha : PE X a (tE g E (evE S ia))) (hb : PE X b (tE g E (evE S ib))) (hc : PE X c (tE g E (evE S ic))) (hm : lastMarks [ocOf o, ocOf p] [b, c] = false) :
    PE X (.Compare a [ocOf o, ocOf p] [b, c] pos) (tE g E (evE S (.chain o p ia ib ic))) := by
  refine pe_mono (pe_chain (cmp_ok hK hu o) (cmp_ok hK hu p) ha hb hc hm) fun σ H Q ⟨w, Δ, R, P⟩ => ?_
  unfold evE at P
  refine tE_bind R P fun w1 H1 x v e1 R1 _ i1 P1 => ?_
  refine tE_bind R1 P1 fun w2 H2 y u e2 R2 _ i2 P2 => ?_
  rw [mBind_opt] at P2
  split at P2
  · rename_i k hk
    refine ⟨w2, x, y, k, R2.h, i1.ext e2, i2, hk, k, rfl, ?_⟩
    cases k with
    | false => exact P2.here R2.h rfl
    | true =>
      refine tE_bind R2 P2 fun w3 H3 z u3 e3 R3 _ i3 P3 => ?_
      obtain ⟨z', hz, P4⟩ := P3.opt
      obtain ⟨k, hk, rfl⟩ := Option.map_eq_some_iff.mp hz
      exact ⟨w3, y, z, k, R3.h, i2.ext e3, i3, hk, P4.here R3.h rfl⟩
  · exact P2.none.elim
theorem mt_chain (hK : X.K = g.K) (hu : X.A.units + 64 < cLine) (o p : Oc) (ha : PE X a (tE g E (evE S ia))) (hb : PE X b (tE g E (evE S ib))) (hc : PE X c (tE g E (evE S ic))) (hm : lastMarks [ocOf o, ocOf p] [b, c] = false) :
    PT X (.Compare a [ocOf o, ocOf p] [b, c] pos) (tT g E (evC S (.tru (.chain o p ia ib ic)))) := by
  refine pt_mono (pt_chain (cmp_ok hK hu o) (cmp_ok hK hu p) ha hb hc hm) fun σ H Q ⟨w, Δ, R, P⟩ => ?_
  unfold evC evE at P
  simp only [mBind_assoc, mBind_ite, tru_bl, tru_bl1] at P
  show tChain (RKof g o) (RKof g p) (tE g E (evE S ia)) (tE g E (evE S ib)) (tE g E (evE S ic)) σ H _
  refine tE_bind R P fun w1 H1 x v e1 R1 _ i1 P1 => ?_
  refine tE_bind R1 P1 fun w2 H2 y u e2 R2 _ i2 P2 => ?_
  rw [mBind_opt] at P2
  split at P2
  · rename_i k hk
    refine ⟨w2, x, y, k, R2.h, i1.ext e2, i2, hk, k, rfl, ?_⟩
    cases k with
    | false => exact ⟨false, rfl, P2.here R2.h rfl⟩
    | true =>
      refine tE_bind R2 P2 fun w3 H3 z u3 e3 R3 _ i3 P3 => ?_
      obtain ⟨k, hk, P4⟩ := P3.opt
      exact ⟨w3, y, z, k, R3.h, i2.ext e3, i3, hk, k, rfl, P4.here R3.h rfl⟩
  · exact P2.none.elim
/-! ### not, and, or, if -/
variable {ja jb : IC} {rest : List Expr}
theorem me_not (ha : PE X a (tE g E (evE S ia))) : PE X (.UnaryOp .Not a pos) (tE g E (evE S (.not_ ia))) := by
  refine pe_mono (pe_not ha) fun σ H Q ⟨w, Δ, R, P⟩ => ?_
  unfold evE at P
  refine tE_bind R P fun w1 H1 x v e1 R1 _ i1 P1 => ?_
  split at P1
  · rename_i k
    exact ⟨k, i1, P1.here R1.h rfl⟩
  · exact P1.none.elim
theorem me_and (ha : PE X a (tE g E (evE S ia))) (hb : PE X (.BoolOp .And (b :: rest) pos) (tE g E (evE S ib))) : PE X (.BoolOp .And (a :: b :: rest) pos) (tE g E (evE S (.and_ ia ib))) := by
  refine pe_mono (pe_and ha hb) fun σ H Q ⟨w, Δ, R, P⟩ => ?_
  unfold evE at P
  refine tE_bind R P fun w1 H1 x v e1 R1 _ i1 P1 => ?_
  split at P1
  · rename_i k
    refine ⟨k, i1, ?_⟩
    cases k with
    | true => exact ⟨w1, Δ, R1, P1⟩
    | false => exact P1.here R1.h rfl
  · exact P1.none.elim
theorem me_or (ha : PE X a (tE g E (evE S ia))) (hb : PE X (.BoolOp .Or (b :: rest) pos) (tE g E (evE S ib))) : PE X (.BoolOp .Or (a :: b :: rest) pos) (tE g E (evE S (.or_ ia ib))) := by
  refine pe_mono (pe_or ha hb) fun σ H Q ⟨w, Δ, R, P⟩ => ?_
  unfold evE at P
  refine tE_bind R P fun w1 H1 x v e1 R1 _ i1 P1 => ?_
  split at P1
  · rename_i k
    refine ⟨k, i1, ?_⟩
    cases k with
    | false => exact ⟨w1, Δ, R1, P1⟩
    | true => exact P1.here R1.h rfl
  · exact P1.none.elim
theorem me_ite (hc : PT X c (tT g E (evC S ja))) (ha : PE X a (tE g E (evE S ia))) (hb : PE X b (tE g E (evE S ib))) : PE X (.IfExp c a b pos) (tE g E (evE S (.ite ja ia ib))) := by
  refine pe_mono (pe_ifExp hc ha hb) fun σ H Q ⟨w, Δ, R, P⟩ => ?_
  unfold evE at P
  refine tT_bind R P fun w1 H1 k e1 R1 _ P1 => ?_
  cases k with
  | true => exact ⟨w1, Δ, R1, P1⟩
  | false => exact ⟨w1, Δ, R1, P1⟩
theorem mt_not (ha : PT X a (tT g E (evC S ja))) : PT X (.UnaryOp .Not a pos) (tT g E (evC S (.not ja))) := by
  refine pt_mono (pt_not ha) fun σ H Q ⟨w, Δ, R, P⟩ => ?_
  unfold evC at P
  refine tT_bind R P fun w1 H1 k e1 R1 _ P1 => ?_
  exact P1.here R1.h rfl
theorem mw_and (ha : PT X a (tT g E (evC S ja))) (hb : PW X (.BoolOp .And (b :: rest) pos) (tT g E (evC S jb))) : PW X (.BoolOp .And (a :: b :: rest) pos) (tT g E (evC S (.and ja jb))) := by
  refine pw_mono (pw_and ha hb) fun σ H Q ⟨w, Δ, R, P⟩ => ?_
  unfold evC at P
  refine tT_bind R P fun w1 H1 k e1 R1 _ P1 => ?_
  cases k with
  | true => exact ⟨w1, Δ, R1, P1⟩
  | false => exact P1.here R1.h rfl
theorem mw_or (ha : PT X a (tT g E (evC S ja))) (hb : PW X (.BoolOp .Or (b :: rest) pos) (tT g E (evC S jb))) : PW X (.BoolOp .Or (a :: b :: rest) pos) (tT g E (evC S (.or ja jb))) := by
  refine pw_mono (pw_or ha hb) fun σ H Q ⟨w, Δ, R, P⟩ => ?_
  unfold evC at P
  refine tT_bind R P fun w1 H1 k e1 R1 _ P1 => ?_
  cases k with
  | false => exact ⟨w1, Δ, R1, P1⟩
  | true => exact P1.here R1.h rfl
/-- a value's truth -/
theorem tru_is {w : Wd} {H : Hp} {d : D} {v : V} {k : Bool} (R : RepH g w H) (h : Is g.K g.mg w H d v) (e : truD d w.μ = some k) : TruV g.K v H k := by
  have seq : ∀ xs, rdS d w.μ = some xs → (!xs.isEmpty) = k → TruV g.K v H k := fun xs h1 h2 => by
    obtain ⟨p, vs, rfl, h3, h4⟩ := rdS_is R h h1
    have hl := h4.length
    have he : vs.isEmpty = xs.isEmpty := by cases vs <;> cases xs <;> first | rfl | simp at hl
    rw [← he] at h2
    rcases h3 with h3 | h3
    · exact .inl ⟨vs, h3, h2.symm⟩
    · exact .inr (.inl ⟨vs, h3, h2.symm⟩)
  unfold truD at e
  split at e
  · cases e; cases (show v = _ from h); rfl
  · cases e; cases (show v = _ from h); rfl
  · cases e; cases (show v = _ from h)
    show _ = (_ != _)
    rename_i i
    by_cases hi : i = 0 <;> simp [hi]
  · rename_i x
    split at e
    · rename_i hx
      cases e; cases (show v = _ from h)
      refine ⟨Nat.le_trans hx big_le, ?_⟩
      by_cases hi : x.length = 0 <;> simp [hi] <;> omega
    · cases e
  · obtain ⟨xs, h1, h2⟩ := Option.map_eq_some_iff.mp e
    exact seq xs h1 h2
theorem mt_tru (hK : X.K = g.K) (ha : PE X a (tE g E (evE S ia))) (he : ∀ whole, isTrue a X.env whole = (do let v ← whole; standAt a.pos; holding [v] (truthy v))) : PT X a (tT g E (evC S (.tru ia))) := by
  refine pt_mono (pt_truth ha he) fun σ H Q ⟨w, Δ, R, P⟩ => ?_
  unfold evC at P
  refine tE_bind R P fun w1 H1 x v e1 R1 _ i1 P1 => ?_
  obtain ⟨k, hk, P2⟩ := P1.opt
  refine ⟨k, ?_, P2.here R1.h rfl⟩
  rw [hK]
  exact tru_is R1.h i1 hk
end
end M

set_option Elab.async false
set_option linter.all false
set_option maxRecDepth 100000
set_option maxHeartbeats 4000000
/-! TM: a try with several named except clauses (the name the same in all, in slot i). -/
namespace M
open PySem PySem.Spec PyProof.Rows L2
/-- what the clauses wish of an exception of the body -/
def wManyA (K : PySem.W.Frag) (i : Nat) (Wout : WX) (D : Ends) : List (Value × (Addr → Value → Option Addr → TS)) → WX
  | [] => Wout
  | (c, ts) :: r => fun cls d σ H => ∃ b, PySem.W.exmOne K cls c = some b ∧
      (b = true → ∀ a, H a = none → ts a cls d { nx := fun σ' H' => D.nx (σ'.set i none) H', rt := D.rt, bk := fun σ' H' => D.bk (σ'.set i none) H', ct := fun σ' H' => D.ct (σ'.set i none) H' } (σ.set i (some (.ref a))) H) ∧ (b = false → wManyA K i Wout D r cls d σ H)
inductive HdsA (X : Cx) (n : Str) : List ExceptHandler → List (Value × (Addr → Value → Option Addr → TS)) → Prop
  | nil : HdsA X n [] []
  | cons {x : Str} {c : Value} {ts : Addr → Value → Option Addr → TS} {b₀ : Stmt} {suite : List Stmt} {np pos' : Pos} {hds : List ExceptHandler} {l : List (Value × (Addr → Value → Option Addr → TS))} (hc : Names X x c)
      (hsu : ∀ (a : Addr) (oe : Obj) (cls : Value) (d : Option Addr) (pn : List (Addr × Obj)), PySem.W.exmOne X.K cls c = some true → Zc cls d oe → (∃ vs, oe.data = .fields vs) → PSs (X.suite a ((a, oe) :: pn)) (b₀ :: suite) (ts a cls d)) (r : HdsA X n hds l) :
      HdsA X n (.ExceptHandler (some (.Name x np)) (some n) (b₀ :: suite) pos' :: hds) ((c, ts) :: l)
section
variable {X : Cx} {body : List Stmt} {h₀ : ExceptHandler} {hds : List ExceptHandler} {l : List (Value × (Addr → Value → Option Addr → TS))} {pos : Pos} {tb : WX → TS} {Wout : WX}
theorem ps_try_manyA {n : Str} {i : Nat} (hN : X.N.Nodup) (hi : X.N[i]? = some n) (hln : X.env.kindOf n = some .local) (hs : X.stack = X.env :: X.outer) (hf : X.env.frame = some X.env.locals) (tk : Takes X Wout)
    (hb : ∀ (W : WX) (pn : List (Addr × Obj)) (xe : Value → Shared → Prop), Takes (X.tr pn xe) W → PassesOwn (model X.prog X.w) X.A X.env xe → PSs (X.tr pn xe) body (tb W))
    (hh : HdsA X n (h₀ :: hds) l) : PS X (.Try body (h₀ :: hds) [] [] pos) (fun D σ H => tb (wManyA X.K i Wout D l) D σ H) := by
  refine ⟨fun pins s σ H D I h => ?_⟩
  have ok := I.ok
  have hfr : X.A.frames = some (X.env :: X.outer) := by rw [ok.frames, hs]
  have hloc : Loc X.env.scope n := .inl hln
  refine wpAny_Try_except ?_
  refine wpAny_mono ((hb (wManyA X.K i Wout D l) (X.pn ++ pins) (fun e s₁ => wpAny (model X.prog X.w) X.A (noteFrame e X.env) (fun _ s₂ => wpAny (model X.prog X.w) X.A (setFlight e none) (fun _ s₃ =>
    wpAny (model X.prog X.w) X.A (handleBy e X.env (h₀ :: hds)) (SP X pins D) X.xe s₃) X.xe s₂) X.xe s₁) (fun u s' xx => ?_) PassesOwn.looking).run [] s σ H D (I.toTry _) h) (fun f s1 hsp => ?_) (fun e s1 he => he)
  · -- the catch
    obtain ⟨a, B, sI, pins', σ', H', cls, d, rfl, J', nb, up, sky, na, os, ag, w⟩ := xx
    have J : Inv X pins σ' H' sI := J'.ofTry ok
    have sky' : Sky B (X.env :: X.outer) a (Zc cls d) X.env.locals s'.heap := by rw [← hs]; exact sky
    show wpAny (model X.prog X.w) X.A (noteFrame (.ref a) X.env) _ _ _
    refine Sky.land Zc.steady hfr hf sky' fun h3 fl3 up3 => ?_
    have J3 : Inv X pins σ' H' { s' with heap := h3 } := J.landed nb fl3.1 (up.trans up3) os ag
    obtain ⟨oe3, vs3, he3, hz3, hd3⟩ := fl3.there
    have notFr : ∀ {h : Heap} {o : Obj} {vs : Array Value}, h.FunFrames B (X.env :: X.outer) → h.get? a = some o → o.data = .fields vs → a ∉ frs (X.env :: X.outer) := fun {h o vs} ff e dd hm => by
      obtain ⟨_, o', e', hnf⟩ := ff.mem hm
      rw [e] at e'; cases e'
      exact hnf _ dd
    have nfr := notFr fl3.2.2.1 he3 hd3
    have nL : a ≠ X.env.locals := fun z => nfr (List.mem_filterMap.mpr ⟨X.env, List.mem_cons_self, by rw [hf, z]⟩)
    have nF : a ∉ X.fs := fun hm => by
      obtain ⟨e, he, q⟩ := List.mem_filterMap.mp hm
      exact nfr (List.mem_filterMap.mpr ⟨e, List.mem_cons_of_mem _ he, q⟩)
    have S3 := J3.suite he3 hd3 na nL nF
    have go : ∀ {hds' : List ExceptHandler} {l' : List (Value × (Addr → Value → Option Addr → TS))}, HdsA X n hds' l' → wManyA X.K i Wout D l' cls d σ' H' →
        wpAny (model X.prog X.w) X.A (handleBy (.ref a) X.env hds') (SP X pins D) X.xe { s' with heap := h3 } := by
      intro hds' l' hk
      induction hk with
      | nil =>
        intro w
        refine wpAny_handleBy_nil ?_
        obtain ⟨k1, k2, k3, oe, vs, T, oT, ts', he, hz, hd, h1, hr⟩ := id fl3
        unfold PySem.passOn
        refine wpAny_bind (wpAny_field he hd h1 ?_)
        rw [if_neg (show ¬ ((Value.ref T == Value.none) = true) from by simp)]
        have fin : wpAny (model X.prog X.w) X.A (setFlight (.ref a) X.env.frame) (fun _ s4 => wpAny (model X.prog X.w) X.A (throw (.ref a) : Sem Flow) (SP X pins D) X.xe s4) X.xe { s' with heap := h3 } := by
          rw [hf]
          refine HandSPX.setFlight_upZ fl3 fun h4 hh4 up4 => wpAny_throw (tk _ _ ?_)
          exact ⟨a, B, sI, pins, σ', H', cls, d, rfl, J, nb, (up.trans up3).trans up4, .inr (.inr (by rw [hs]; exact hh4)), na, os, ag, w⟩
        first
          | exact wpAny_bind (wpAny_pure (wpAny_bind fin))
          | exact wpAny_bind fin
      | @cons x c ts b₀ suite np pos' hds2 l2 hc hsu r ih =>
        intro w
        obtain ⟨b, hb1, hyes, hno⟩ := w
        refine wpAny_handleBy_cons (codeAny_handlers_test ?_) (by intro q; cases q)
        have LT : PySem.W.Looks (model X.prog X.w) h3 (typeOf (.ref a)) cls := fun A Q E s k q => wpAny_typeOf_ref (k _ _ he3) (by rw [hz3.1]; exact q)
        have LM := PySem.W.exm_one (M := model X.prog X.w) (J3.kIn) LT hb1
        have test : ∀ {Q : Value → Shared → Prop} {E : Value → Shared → Prop}, Q c { s' with heap := h3 } → wpAny (model X.prog X.w) (X.A.mark (some (.ref a))) (eval (.Name x np) X.env) Q E { s' with heap := h3 } := fun {Q E} q => by
          obtain ⟨hg, hdbg, hm | ⟨hm, hv, hnn⟩⟩ := hc
          · exact ld_glob (X := X.suite a ((a, oe3) :: (X.pn ++ pins))) S3 hg hm q hdbg
          · exact ld_blt (X := X.suite a ((a, oe3) :: (X.pn ++ pins))) S3 hg hm hv q hnn hdbg
        refine test (LM.here ?_)
        cases b with
        | true =>
          refine codeAny_handlers_suite_as ?_
          refine HandSPX.lands_againZ fl3 fun h4 fl4 up4 => ?_
          have J4 : Inv X pins σ' H' { s' with heap := h4 } := J.landed nb fl4.1 ((up.trans up3).trans up4) os ag
          obtain ⟨oe4, vs4, he4, hz4, hd4⟩ := fl4.there
          have S4 := J4.suite he4 hd4 na nL nF
          refine store_ok (X := X.suite a ((a, oe4) :: (X.pn ++ pins))) (v := .ref a) S4 hN hi hloc rfl (fun s5 S5 => ?_) (.inr hln)
          refine wpAny_mono ((hsu a oe4 cls d (X.pn ++ pins) hb1 hz4 ⟨_, hd4⟩).run [] s5 _ H' _ S5 (hyes rfl a na)) (fun f s6 hsp => ?_) (fun _ _ z => False.elim z)
          have end_ : ∀ {σ6 : L2.St} {H6 : Hp} {Q : Shared → Prop}, Inv (X.suite a ((a, oe4) :: (X.pn ++ pins))) [] σ6 H6 s6 → (∀ s7, Inv X pins (σ6.set i none) H6 s7 → Q s7) →
              wpAny (model X.prog X.w) X.A (do bindName X.env n .none; unbindBehindTheSuite X.env n pos') (fun _ s7 => Q s7) X.xe s6 := fun {σ6 H6 Q} S6 hq => gone_ok (S6.unsuite ok) hN hi hln hq
          cases f with
          | next =>
            obtain ⟨σ6, H6, S6, q6⟩ := hsp
            exact end_ S6 fun s7 J7 => ⟨_, _, J7, q6⟩
          | brk =>
            obtain ⟨σ6, H6, S6, q6⟩ := hsp
            exact end_ S6 fun s7 J7 => ⟨_, _, J7, q6⟩
          | cont =>
            obtain ⟨σ6, H6, S6, q6⟩ := hsp
            exact end_ S6 fun s7 J7 => ⟨_, _, J7, q6⟩
          | ret u =>
            obtain ⟨v6, σ6, H6, S6, r6, q6⟩ := hsp
            exact end_ S6 fun s7 J7 => ⟨_, _, _, J7, r6, q6⟩
        | false =>
          show wpAny _ X.A (handleBy (.ref a) X.env hds2) _ _ _
          exact ih (hno rfl)
    exact go hh w
  · cases f with
    | next =>
      obtain ⟨σ', H', J', q⟩ := hsp
      exact wpAny_execs_nil ⟨σ', H', J'.ofTry ok, q⟩
    | brk =>
      obtain ⟨σ', H', J', q⟩ := hsp
      exact ⟨σ', H', J'.ofTry ok, q⟩
    | cont =>
      obtain ⟨σ', H', J', q⟩ := hsp
      exact ⟨σ', H', J'.ofTry ok, q⟩
    | ret u =>
      obtain ⟨v, σ', H', J', r, q⟩ := hsp
      exact ⟨v, σ', H', J'.ofTry ok, r, q⟩
end
theorem takes_none5 {X : Cx} : Takes X (fun _ _ _ _ => False) := fun _ _ ⟨_, _, _, _, _, _, _, _, _, _, _, _, _, _, _, _, w⟩ => w.elim
end M

set_option Elab.async false
set_option linter.all false
set_option maxRecDepth 100000
set_option maxHeartbeats 4000000
/-! XI: isinstance of a caught exception of an own class, with fields. -/
namespace M
open PySem PySem.Spec PySem.Calls PyProof.Rows PySem.W
section
variable {prog : Program} {w : World} {A : Around} {E : Value → Shared → Prop} {s : Shared} {K : Frag} {x D : Addr} {ox : Obj} {od : Option Obj}
theorem findObj_dataX {C : Addr} {od : Option Obj} {name : Str} {a g : Value} (hc : (clsIn K C).isSome = true) (ha : findIn K (.ref C) name = some (some a)) (hg : specialIn K a "__get__" = some (some g)) (ht : takesIn K a = some true) : findObj K C od name = some (.bind g a) := by
  obtain ⟨cd, hc⟩ := Option.isSome_iff_exists.mp hc
  unfold findObj
  rw [hc, Option.bind_some, ha, Option.bind_some]
  simp [hg, ht]
theorem kin_classX {Q : Option Value → Shared → Prop} (hga : findIn K (.ref D) "__getattribute__" = some (some (.builtin "BaseException.__getattribute__"))) (hgt : findIn K (.ref D) "__getattr__" = some none) (hsub : subIn K (.ref D) (.type "BaseException") = some true)
    (hdct : hasDictIn K D = true) (ha : findIn K (.ref D) "__class__" = some (some (.builtin "object.__class__")))
    (hn : specialIn K (.builtin "object.__class__") "__get__" = some (some (.builtin "getset_descriptor.__get__"))) (htk : takesIn K (.builtin "object.__class__") = some true) (hm : mroIn K D (.type "object") = some true)
    (X : K.In s.heap) (I : InstAt s.heap x ox D od) (h : Q (some (.ref D)) { s with toks := s.toks + 1 }) : wpAny (model prog w) A (getAttr? (.ref x) "__class__") Q E s := by
  have hf : findObj K D od "__class__" = some (.bind (.builtin "getset_descriptor.__get__") (.builtin "object.__class__")) := findObj_dataX (by obtain ⟨cd, hc, _⟩ := any_some hdct; rw [hc]; rfl) ha hn htk
  obtain ⟨hp, g, d, t, os⟩ := s
  have L0 := I.type (M := model prog w)
  have L1 := looks_findIn (M := model prog w) X hga
  have L2 := looks_findIn (M := model prog w) X hgt
  have L3 := looks_find (M := model prog w) X I hf
  have sub : Looks (model prog w) hp (isInstance (.ref x) (.type "BaseException")) true := L0.andThen (looks_subIn X hsub)
  have hx0 : (false && onTheHeap (Value.builtin "BaseException.__getattribute__")) = false := rfl
  have hx2 : (Value.builtin "BaseException.__getattribute__" == Value.builtin "object.__getattribute__") = false := by decide +kernel
  have hx1 : (onTheHeap (Value.ref D) && Value.builtin "BaseException.__getattribute__" == Value.builtin "object.__getattribute__") = false := by rw [hx2]; rfl
  unfold getAttr? getAttrBy? getAttrBy
  refine wpAny_bind (wpAny_mkText (wpAny_bind (wpAny_attempt (wpAny_holding (wpAny_bind (L0.at (wpAny_bind (L1.at ?_))))))))
  show wpAny _ _ (if (onTheHeap (Value.ref D) && Value.builtin "BaseException.__getattribute__" == Value.builtin "object.__getattribute__") = true then _ else _) _ _ _
  rw [hx1, if_neg Bool.false_ne_true]
  unfold getAttrByItsOwn hookBefore
  refine wpAny_bind ?_
  rw [if_pos (show onTheHeap (Value.ref D) = true from rfl)]
  refine L2.at ?_
  refine wpAny_bind (wpAny_attempt (wpAny_holding ?_))
  unfold callGetattribute
  rw [hx0, if_neg Bool.false_ne_true]
  unfold boundAndCalled
  rw [PySem.F.excAttr_ValueError.ga.bind (.ref x)]
  refine wpAny_bind (wpAny_pure ?_)
  show wpAny _ _ (call (.builtin "BaseException.__getattribute__") [.ref x, .str "__class__" t]) _ _ _
  refine wpAny_call (codeAny_call_builtin PySem.F.excAttr_ValueError.ga.plain PySem.F.entry_bexc_ga ?_)
  refine @check_slot (model prog w) _ _ ⟨hp, g, d, t + 1, os⟩ "BaseException.__getattribute__" "BaseException" "__getattribute__" (.ref x) [.str "__class__" t] [] _ (by decide +kernel) (by decide +kernel) sub (PySem.F.args_bexc_ga (.ref x) (.str "__class__" t)) ?_
  unfold Builtin.«object.__getattribute__»
  refine wpAny_bind (wpAny_of_eq (a := ((Value.ref x : Value), [Value.str "__class__" t])) (by first | rfl | (simp only [slotArgs]; rfl)) ?_)
  refine wpAny_bind (wpAny_pure (wpAny_bind (L0.at (wpAny_bind (L3.at ?_)))))
  show wpAny _ _ (holding [Value.builtin "object.__class__"] (call (.builtin "getset_descriptor.__get__") [.builtin "object.__class__", .ref x, .ref D]) >>= ret) _ _ _
  refine wpAny_bind (wpAny_holding (wpAny_call (class_get (s := ⟨hp, g, d, t + 1, os⟩) (ox := ox) (od := od) X I hm ?_)))
  refine wpAny_pure ?_
  show wpAny _ _ (handedOut (.ref D)) _ _ _
  rw [handedOut_of (v := .ref D) rfl]
  first
    | exact wpAny_pure (wpAny_pure h)
    | exact wpAny_pure h
    | exact wpAny_pure (wpAny_bind (wpAny_pure (wpAny_pure h)))
theorem kitx_excX (hga : findIn K (.ref D) "__getattribute__" = some (some (.builtin "BaseException.__getattribute__"))) (hgt : findIn K (.ref D) "__getattr__" = some none) (hsub : subIn K (.ref D) (.type "BaseException") = some true) (hdct : hasDictIn K D = true) (ha : findIn K (.ref D) "__class__" = some (some (.builtin "object.__class__")))
    (hn : specialIn K (.builtin "object.__class__") "__get__" = some (some (.builtin "getset_descriptor.__get__"))) (htk : takesIn K (.builtin "object.__class__") = some true) (hm : mroIn K D (.type "object") = some true) :
    KitX K (.ref x) (.ref D) (fun h => InstAt h x ox D od) where
  ty := fun _ _ _ I => I.type
  it := fun _ _ X _ => by
    obtain ⟨cdD, hcD, _⟩ := any_some hdct
    unfold clsIn at hcD
    split at hcD
    · rename_i c' d' cd' sl' ho
      intro A' Q' E' s' k q
      unfold isType loadHead
      exact wpAny_bind (wpAny_loadPart (k _ _ (X _ _ ho)) (wpAny_pure q))
    · cases hcD
  ne := fun h tp dd its n sl X htp => by
    obtain ⟨cdD, hcD, _⟩ := any_some hdct
    refine Bool.eq_false_iff.mpr fun q => ?_
    have e : D = tp := Value.ref.inj (beq_iff_eq.mp q)
    subst e
    unfold clsIn at hcD
    split at hcD
    · rename_i c' d' cd' sl' ho
      have z := (X _ _ ho).symm.trans htp
      cases z
    · cases hcD
  ca := fun X I k => kin_classX hga hgt hsub hdct ha hn htk hm X I k
end
open L2
/-- isinstance(e, c), e the exception that the suite holds, with its dict at dd -/
def rIsX (K : Frag) (D a dd : Addr) : List V → Hp → VK → Prop := fun xs H Q => ∃ (c : V) (cv : Value) (b : Bool) (fs : List (Str × V)), xs = [.ref a, c] ∧ (∀ u, RelV c u → u = cv) ∧ kitOne K (.ref D) cv = some b ∧ H dd = some (.xd fs) ∧ Q (.bl b) H
theorem call_isX {X : Cx} {a D dd : Addr} {oe : Obj} {pn : List (Addr × Obj)} (C : ExcC X.K D) (hz : Zc (.ref D) (some dd) oe) (hf : ∃ vs, oe.data = .fields vs) : CallR (X.suite a ((a, oe) :: pn)) (.builtin "isinstance") (rIsX X.K D a dd) := by
  intro pins s σ H xs us Q I r h
  obtain ⟨c, cv, b, fs, rfl, hcv, e, hdd, q⟩ := h
  cases r with
  | cons rx rr =>
    cases rr with
    | cons rt rr =>
      cases rr
      cases rx
      have ec := hcv _ rt
      subst ec
      obtain ⟨hget, _⟩ := I.pin (a, oe) (List.mem_append.mpr (.inl List.mem_cons_self))
      obtain ⟨vs, hv⟩ := hf
      have hx : ObjOk X.prog X.w H s.heap dd (.xd fs) := I.hok dd _ hdd
      obtain ⟨mA, hns, hr⟩ := hx
      obtain ⟨od, ho, hl⟩ := lookIn_ns hns
      have J : InstAt s.heap a oe D (some od) := by
        obtain ⟨oc, od', oda, osl⟩ := oe
        obtain ⟨h1, h2⟩ := hz
        dsimp only at h1 h2 hv
        subst h1 h2 hv
        exact ⟨hget, rfl, rfl, ho⟩
      exact kia_one (kitx_excX C.hg C.hk C.hs C.hd C.ha C.hn C.ht C.hm) I.kIn J e (fun z => nomatch z) fun tk => ⟨.bl b, H, I.kept (t' := tk) fun _ _ z => z, rfl, q⟩
end M

set_option Elab.async false
set_option linter.all false
set_option maxRecDepth 100000
set_option maxHeartbeats 2000000
/-! LM: a lambda made; all but its own table stays. -/
namespace M
open PySem PySem.Spec PyProof.Rows L2 LamX
def ExtP (P : Addr) (H H' : Hp) : Prop := ∀ b o, H b = some o → b ≠ P → H' b = some o
theorem ExtP.refl {P : Addr} (H : Hp) : ExtP P H H := fun _ _ h _ => h
def tLam3 (P : Addr) (T : List (Addr × Str)) (TT : (XK → Hp → VK → Prop) → Hp → VK → Prop) (t : XK → TE) : TE := fun σ H Q => Tabs T H ∧ ∀ H1, ExtP P H H1 → Tabs T H1 → TT (fun E H' Q' => t E σ H' Q') H1 Q
section
variable {X : Cx} {pins : List (Addr × Obj)} {σ : L2.St} {H : Hp} {s : Shared}
theorem lam_make3 {T : List (Addr × Str)} {c P : Addr} {params : Arguments} {body : Expr} {scope : Scope} {pos : Pos} {E : Value → Shared → Prop} {Q : Value → Shared → Prop} (I : Inv X pins σ H s) (TB : TabB X.base X.mg c P) (hcode : X.env.code = .ref c)
    (hm : (P, X.env.qual ++ "<lambda>") ∈ T) (hu : ∀ p ∈ T, p.1 = P → p.2 = X.env.qual ++ "<lambda>") (hT : Tabs T H) (hdef : defaultsOf params X.env = ([], [])) (hfree : ∀ y ∈ scope.names, y.2 = .free → ∃ c, X.env.cells.lookup y.1 = some c)
    (h : ∀ (f c' : Addr) (pm ctv : Value) (H1 : Hp) (s' : Shared), Inv X pins σ H1 s' → ExtP P H H1 → Tabs T H1 →
      s'.heap.get? f = some (PySem.W.kla_obj "<lambda>" (X.env.qual ++ "<lambda>") params body scope (cloFrom X.env.cells scope.names []) pm c' ctv) → H1 f = none → f ∉ frs X.stack → H1 c' = some (CodeO c' (X.env.qual ++ "<lambda>")) → Q (.ref f) s') :
    wpAny (model X.prog X.w) X.A (eval (.Lambda params body scope pos) X.env) Q E s := by
  obtain ⟨ps, hP, ht, ha⟩ := hT _ hm
  refine PySem.W.kla_eval hdef ?_
  have bP : s.heap.BuiltinsAt X.mg P := TB.bm.keeps I.bk
  have hP' : s.heap.get? P = some { cls := .none, data := .fields ps } := I.hok P _ hP
  have nofr : ∀ f, s.heap.objs.size ≤ f → f ∉ frs X.stack := fun f hf z => by
    rcases List.mem_cons.mp (I.stkSub _ z) with e | e
    · have h1 := I.lt
      rw [← e] at h1
      exact Nat.lt_irrefl _ (Nat.lt_of_lt_of_le h1 hf)
    · exact I.nofs hf e
  cases hc : codeAmong pos ps.toList with
  | none =>
    refine PySem.W.kla_makeFunction (mg := X.mg) (c := c) (P := P) (ps := ps) (closure_ok hfree) I.ok.glob (I.mod.glob.keeps I.bk) hcode (TB.code.keeps I.bk) hP' ht hc TB.gP bP fun c' ctv h' tk hx hge hlt hrec htb => ?_
    obtain ⟨c2, oc, vs, t, e2, hoc, hd, hv⟩ := hrec
    cases e2
    have hsz : s.heap.objs.size ≤ h'.objs.size := Nat.le_trans hge (Nat.le_of_lt hlt)
    have nC : H c' = none := I.hok.fresh hge
    have I1 := inv_table (t' := tk) (more := #[rawInt pos.line, rawInt pos.col, .ref c']) (h' := h'.push (PySem.W.kla_obj "<lambda>" (X.env.qual ++ "<lambda>") params body scope (cloFrom X.env.cells scope.names []) ((X.mg "__name__").getD .none) c' ctv)) I hP
      (fun b o hb e => Heap.get?_push_of_some _ (hx b o hb e)) (Heap.get?_push_of_some _ htb) hge ⟨oc, vs, t, Heap.get?_push_of_some _ hoc, hd, hv⟩
    have hE : ExtN H (upd (upd H P (.tbl (ps ++ #[rawInt pos.line, rawInt pos.col, .ref c']))) c' (CodeO c' (X.env.qual ++ "<lambda>"))) := fun b o e n => by
      rw [upd_ne (ne_of_none e nC), upd_ne (fun z => n ps (Option.some.inj (e.symm.trans (by rw [z]; exact hP))))]
      exact e
    have hX : ExtP P H (upd (upd H P (.tbl (ps ++ #[rawInt pos.line, rawInt pos.col, .ref c']))) c' (CodeO c' (X.env.qual ++ "<lambda>"))) := fun b o e n => by
      rw [upd_ne (ne_of_none e nC), upd_ne n]
      exact e
    have eL : (ps ++ #[rawInt pos.line, rawInt pos.col, .ref c']).toList = ps.toList ++ [rawInt pos.line, rawInt pos.col, .ref c'] := by simp
    refine h h'.objs.size c' ((X.mg "__name__").getD .none) ctv _ _ I1 hX (fun p hp => ?_) (Heap.get?_push_size _ rfl) ?_ (nofr _ hsz) upd_same
    · by_cases hb : p.1 = P
      · rw [hu p hp hb, hb]
        refine ⟨_, by rw [upd_ne (ne_of_none hP nC), upd_same], by rw [eL]; exact PySem.TriplesOk_snoc _ _ _ _ ht, fun p' cv hcv => ?_⟩
        rw [eL] at hcv
        rcases among_app _ ht hcv with z | z
        · obtain ⟨c0, e1, e2⟩ := ha p' cv z
          exact ⟨c0, e1, hE _ _ e2 codeO_ne⟩
        · exact ⟨c', z, upd_same⟩
      · obtain ⟨ps', a1, a2, a3⟩ := hT p hp
        refine ⟨ps', by rw [upd_ne (ne_of_none a1 nC), upd_ne hb]; exact a1, a2, fun p' cv hcv => ?_⟩
        obtain ⟨c0, e1, e2⟩ := a3 p' cv hcv
        exact ⟨c0, e1, hE _ _ e2 codeO_ne⟩
    · have n1 : h'.objs.size ≠ c' := Nat.ne_of_gt hlt
      have n2 : h'.objs.size ≠ P := Nat.ne_of_gt (Nat.lt_of_lt_of_le (Heap.lt_size hP') hsz)
      rw [upd_ne n1, upd_ne n2]
      exact I.hok.fresh hsz
  | some cv =>
    obtain ⟨c', e, hco⟩ := ha pos cv hc
    subst e
    refine PySem.W.kla_makeFunctionHit (mg := X.mg) (c := c) (P := P) (ps := ps) (closure_ok hfree) I.ok.glob (I.mod.glob.keeps I.bk) hcode (TB.code.keeps I.bk) hP' ht hc bP fun ctv h' tk hx hsz => ?_
    have I1 : Inv X pins σ H { s with heap := h'.push (PySem.W.kla_obj "<lambda>" (X.env.qual ++ "<lambda>") params body scope (cloFrom X.env.cells scope.names []) ((X.mg "__name__").getD .none) c' ctv), toks := tk } := I.kept fun b o e => Heap.get?_push_of_some _ (hx b o e)
    exact h h'.objs.size c' ((X.mg "__name__").getD .none) ctv H _ I1 (ExtP.refl H) hT (Heap.get?_push_size _ rfl) (I.hok.fresh hsz) (nofr _ hsz) hco
end
section
variable {X : Cx}
/-- x(lambda: body) -/
theorem pe_lamcall3 {T : List (Addr × Str)} {TT : (XK → Hp → VK → Prop) → Hp → VK → Prop} {x a : Str} {g c P : Addr} {k : Nat} {pg : Arguments} {bg : List Stmt} {sg : Scope} {dV kV doc pm cdv ct oc : Value} {an od : Option Addr} {osl : Array (Option Value)} {Ng : List Str}
    {params : Arguments} {body : Expr} {scope : Scope} {t : XK → TE} {p lpos pos : Pos} (hg : Gl X x) (hm : X.mg x = some (.ref g)) (hk : PySem.W.keepIn X.K (.ref g) = true)
    (lk : X.K.lookup g = some ⟨oc, od, .func (PySem.W.fnOf x x pg bg sg dV kV doc pm an cdv ct), osl⟩) (hcg : PySem.W.codeIn X.K cdv x = true) (hb : L2.Binds X.K (PySem.W.fnOf x x pg bg sg dV kV doc pm an cdv ct) [a] []) (Sg : FnScope Ng [a] sg) (hNg : Ng[0]? = some a) (hva : Vis sg a)
    (hG : GivesTo X Ng x sg g cdv bg a (X.env.qual ++ "<lambda>") TT)
    (TB : TabB X.base X.mg c P) (hcode : X.env.code = .ref c) (hmT : (P, X.env.qual ++ "<lambda>") ∈ T) (hu : ∀ p ∈ T, p.1 = P → p.2 = X.env.qual ++ "<lambda>") (hr : Room (k + 2) X.A) (L : LamS X.env.scope scope) (hdef : defaultsOf params X.env = ([], []))
    (hbind : ∀ (q : Str) (cl : List (Str × Addr)) (pm cv ctv : Value), bindArgs (PySem.W.kla_fn "<lambda>" q params body scope cl pm cv ctv) ⟨[], []⟩ = pure [])
    (hbody : ∀ (A : Around) (outer : List Env) (s : Shared) (H : Hp) (E : XK) (f c' : Addr), Room k (A.deeper (lamEnv X scope s.heap.objs.size f c')) → PE (lamCx X A outer s H E scope f c') body (t E))
    (hdb : (x == ("__debug__" : Str)) = false := by decide) (hd : (a == ("__debug__" : Str)) = false := by decide) (hcd : (a == ("__classdict__" : Str)) = false := by decide) :
    PE X (.Call (.Name x p) [.Lambda params body scope lpos] [] pos) (tLam3 P T TT t) := by
  refine ⟨fun pins s σ H Q I h => ?_⟩
  obtain ⟨hT, h⟩ := h
  refine wpAny_Call_Name_kw (ld_glob I hg hm ?_ hdb)
  refine PySem.W.callWith_K (h₀ := X.base) I.ok.mod.kin hk ?_ (by rfl) (by rfl)
  show wpAny _ _ (spliced ((false, eval (.Lambda params body scope lpos) X.env) :: backTo pos (starEach [] X.env))) _ _ s
  refine Calls.spliced_cons (lam_make3 I TB hcode hmT hu hT hdef (L.has I.ok) fun f c' pm' ctv H1 s' I1 eN T1 hf hfn hfr hco => ?_)
  refine Calls.spliced_nil ⟨I1.kIn, ?_⟩
  have rc : codeAny (model X.prog X.w) X.A (.call (.ref g) ⟨[.ref f], []⟩) (CR C8.CX0 X.stack X.prog X.w H1 s' Q C8.E0) s' := by
    refine run_ofS (N := Ng) (ps := [a]) (us := [.ref f]) (vs := [.ref f]) lk hcg Sg hr I1.env0 (hb s' [.ref f] I1.kIn rfl) (.cons rfl .nil) rfl fun hr' => ?_
    obtain ⟨t', ht', hq'⟩ := hG f c' s' H1 Q (fun E H' Q' => t E σ H' Q') (fun W pn xe E p1 p2 tk hW => pe_act (i := 0) I1 L hf hfn hfr (hbind _ _ _ _ _) tk hW hr' (fun A outer s H hr2 => hbody A outer s H E f c' hr2) hNg hva hd hcd) hco (h H1 eN T1)
    exact ⟨t', ht'.nox, hq'⟩
  refine wpAny_call (codeAny_mono rc fun r s2 hq => ?_)
  cases r with
  | error e => exact (show False from hq).elim
  | ok fl =>
    cases fl with
    | ret u => exact I1.after hq
    | next => exact False.elim hq
    | brk => exact False.elim hq
    | cont => exact False.elim hq
end
end M

set_option Elab.async false
set_option linter.all false
set_option maxRecDepth 100000
set_option maxHeartbeats 2000000
/-! HD: the law's helper that calls what it got and tells what it heard. -/
namespace M
open PySem PySem.Spec PyProof.Rows L2 LamX PySem.W
def ins (P : Nat → Pos) (i : Nat) (c : Str) : Expr := .Call (.Name "isinstance" (P i)) [.Name "e" (P (i + 1)), .Name c (P (i + 2))] [] (P (i + 3))
def tell (P : Nat → Pos) (i : Nat) (t f : Str) : Stmt :=
  .Return (some (.Tuple [.Constant (.str t) 0 (P i), .Attribute (.Name "e" (P (i + 1))) f (P (i + 2)), .BoolOp .And [ins P (i + 3) "CaveError", ins P (i + 7) "ValueError"] (P (i + 11))] 0 (P (i + 12)))) (P (i + 13))
def heardB (P : Nat → Pos) : List Stmt :=
  [.Try [.Expr (.Call (.Name "ask" (P 0)) [] [] (P 1)) (P 2)]
    [.ExceptHandler (some (.Name "BadArgument" (P 3))) (some "e")
      [.If (ins P 4 "NoPlan") [.Return (some (.Tuple [.Constant (.str "two") 0 (P 8)] 0 (P 9))) (P 10)] [] (P 11), tell P 12 "bad" "name"] (P 26),
     .ExceptHandler (some (.Name "NoPlan" (P 27))) (some "e") [tell P 28 "no plan" "ring"] (P 42)] [] [] (P 43),
   .Return (some (.Tuple [] 0 (P 44))) (P 45)]
/-- the variable, where the slots are as many as the names -/
theorem pe_varL {X : Cx} {i : Nat} {x : Str} {pos : Pos} (hN : X.N[i]? = some x) (hv : Vis X.env.scope x) (hd : (x == ("__debug__" : Str)) = false := by decide) (hcd : (x == ("__classdict__" : Str)) = false := by decide) : PE X (.Name x pos) (fun σ H Q => σ.length = X.N.length → tVar i σ H Q) :=
  ⟨fun pins s σ H Q I h => (pe_var hN hv hd hcd).run pins s σ H Q I (h I.len)⟩
/-- what must hold of the classes -/
structure HX (K : Frag) (mg : Str → Option Value) (CB CN CE : Addr) : Prop where
  gB : mg "BadArgument" = some (.ref CB)
  gN : mg "NoPlan" = some (.ref CN)
  gE : mg "CaveError" = some (.ref CE)
  gV : mg "ValueError" = none
  gI : mg "isinstance" = none
  bb : exmOne K (.ref CB) (.ref CB) = some true
  nb : exmOne K (.ref CN) (.ref CB) = some false
  nn : exmOne K (.ref CN) (.ref CN) = some true
  eB : ExcC K CB
  eN : ExcC K CN
  xB : XfC K CB
  xN : XfC K CN
  fB : findIn K (.ref CB) "name" = some none
  fN : findIn K (.ref CN) "ring" = some none
  kBN : kitOne K (.ref CB) (.ref CN) = some false
  kBE : kitOne K (.ref CB) (.ref CE) = some true
  kBV : kitOne K (.ref CB) (.type "ValueError") = some true
  kNE : kitOne K (.ref CN) (.ref CE) = some true
  kNV : kitOne K (.ref CN) (.type "ValueError") = some true
structure HScope (sg : Scope) : Prop where
  ask : sg.names.lookup ("ask" : Str) = some .local
  e : sg.names.lookup ("e" : Str) = some .local
  b : sg.names.lookup ("BadArgument" : Str) = some .globalImplicit
  i : sg.names.lookup ("isinstance" : Str) = some .globalImplicit
  n : sg.names.lookup ("NoPlan" : Str) = some .globalImplicit
  c : sg.names.lookup ("CaveError" : Str) = some .globalImplicit
  v : sg.names.lookup ("ValueError" : Str) = some .globalImplicit
section
variable {X : Cx} {CB CN CE D a dd : Addr} {oe : Obj} {pn : List (Addr × Obj)} {P : Nat → Pos}
/-- isinstance(e, c) -/
theorem pe_ins {i : Nat} {c : Str} {v : V} {u : Value} {b : Bool} (C : ExcC X.K D) (hz : Zc (.ref D) (some dd) oe) (hf : ∃ vs, oe.data = .fields vs) (hN : X.N[1]? = some ("e" : Str)) (hv : Vis X.env.scope "e") (gi : Gl X "isinstance") (hI : X.mg "isinstance" = none)
    (hc : PE (X.suite a ((a, oe) :: pn)) (.Name c (P (i + 2))) (tC v)) (hu : ∀ u', RelV v u' → u' = u) (hk : kitOne X.K (.ref D) u = some b) :
    PE (X.suite a ((a, oe) :: pn)) (ins P i c) (fun σ H Q => σ.length = X.N.length → σ[1]? = some (some (.ref a)) ∧ ∃ fs, H dd = some (.xd fs) ∧ Q (.bl b) H) := by
  refine pe_mono (pe_callB (call_isX C hz hf) gi hI (by decide +kernel) (pa_cons (pe_varL (X := X.suite a ((a, oe) :: pn)) (i := 1) hN hv) (pa_cons hc pa_nil rfl) rfl) (by decide) (by decide) rfl rfl) fun σ H Q h => ?_
  intro hl
  obtain ⟨h1, fs, h2, h3⟩ := h hl
  exact ⟨_, h1, v, u, b, fs, rfl, hu, hk, h2, h3⟩
/-- (t, e.f, isinstance(e, CaveError) and isinstance(e, ValueError)) -/
def tTell (a dd : Addr) (n : Nat) (t f : Str) : TS := fun D σ H => σ.length = n → σ[1]? = some (some (.ref a)) ∧ ∃ fs v, H dd = some (.xd fs) ∧ fs.lookup f = some v ∧ ∀ p, H p = none → D.rt (.ref p) (upd H p (.tup [.str t, v, .bl true]))
theorem ps_tell {i : Nat} {t f : Str} (C : ExcC X.K D) (T : XfC X.K D) (hno : findIn X.K (.ref D) f = some none) (hz : Zc (.ref D) (some dd) oe) (hf : ∃ vs, oe.data = .fields vs) (hN : X.N[1]? = some ("e" : Str)) (hv : Vis X.env.scope "e") (gi : Gl X "isinstance") (hI : X.mg "isinstance" = none)
    (gE : Gl X "CaveError") (mE : X.mg "CaveError" = some (.ref CE)) (gV : Gl X "ValueError") (mV : X.mg "ValueError" = none) (kE : kitOne X.K (.ref D) (.ref CE) = some true) (kV : kitOne X.K (.ref D) (.type "ValueError") = some true) :
    PS (X.suite a ((a, oe) :: pn)) (tell P i t f) (tTell a dd X.N.length t f) := by
  have i1 := pe_ins (P := P) (pn := pn) (a := a) (i := i + 3) (c := "CaveError") (v := .ref CE) (u := .ref CE) C hz hf hN hv gi hI (pe_glob (X := X.suite a ((a, oe) :: pn)) gE mE rfl) (fun u' h => h) kE
  have i2 := pe_ins (P := P) (pn := pn) (a := a) (i := i + 7) (c := "ValueError") (v := .ty "ValueError") (u := .type "ValueError") C hz hf hN hv gi hI (pe_bltn (X := X.suite a ((a, oe) :: pn)) gV mV rfl rfl) (fun u' h => h) kV
  have fa := pe_xf (X := X) (pn := pn) (a := a) (d := some dd) (cls := .ref D) (pos := P (i + 2)) (n := f) T hno hz hf (pe_varL (X := X.suite a ((a, oe) :: pn)) (pos := P (i + 1)) (i := 1) hN hv) (by rfl)
  refine ps_mono (ps_ret (pe_tup (pa_cons pe_str (pa_cons fa (pa_cons (pe_and i1 (pe_one i2)) pa_nil rfl) rfl) rfl))) fun Dd σ H h hl => ?_
  obtain ⟨h1, fs, v, h2, h3, h4⟩ := h hl
  exact ⟨.ref a, h1, rfl, rfl, dd, fs, v, rfl, h2, h3, fun _ => ⟨h1, fs, h2, true, rfl, fun _ => ⟨h1, fs, h2, by show 3 ≤ sizeLine; decide, h4⟩⟩⟩
/-- an exception heard -/
def EchH (CB CN : Addr) (Q : VK) : XK := fun cls d H' => ∃ dd fs v, d = some dd ∧ H' dd = some (.xd fs) ∧
  ((cls = .ref CB ∧ fs.lookup ("name" : Str) = some v ∧ ∀ p, H' p = none → Q (.ref p) (upd H' p (.tup [.str "bad", v, .bl true]))) ∨
   (cls = .ref CN ∧ fs.lookup ("ring" : Str) = some v ∧ ∀ p, H' p = none → Q (.ref p) (upd H' p (.tup [.str "no plan", v, .bl true]))))
def TTh (CB CN : Addr) : (XK → Hp → VK → Prop) → Hp → VK → Prop := fun tl H Q => tl (EchH CB CN Q) H (fun _ H' => ([] : List V).length ≤ sizeLine ∧ ∀ p, H' p = none → Q (.ref p) (upd H' p (.tup [])))
end
theorem heard_gives {X : Cx} {x q : Str} {sg : Scope} {g : Addr} {cdg : Value} {CB CN CE : Addr} {P : Nat → Pos} (HH : HX X.K X.mg CB CN CE) (S : HScope sg) (hk : sg.kind = .function) : GivesTo X ["ask", "e"] x sg g cdg (heardB P) "ask" q (TTh CB CN) := by
  intro f c' s H Q tl act hc h
  have Ng : (["ask", "e"] : List Str).Nodup := by decide +kernel
  refine ⟨_, pss_cons (ps_try_manyA (X := (cxOf C8.CX0 X.prog X.w X.K X.mg X.base ["ask", "e"] x sg g cdg X.A X.stack s H C8.E0).nox) (n := "e") (i := 1) Ng rfl S.e rfl rfl
      (tb := fun W D σ H => ∃ Ech : XK, (∀ cls d σ' H', Ech cls d H' → W cls d σ' H') ∧ σ[0]? = some (some (.ref f)) ∧ H c' = some (CodeO c' q) ∧ tl Ech H (fun _ H' => D.nx σ H'))
      (Wout := fun _ _ _ _ => False)
      (l := [(.ref CB, fun a cls d D σ H => ∃ dd, cls = .ref CB ∧ d = some dd ∧ tTell a dd 2 "bad" "name" D σ H), (.ref CN, fun a cls d D σ H => ∃ dd, cls = .ref CN ∧ d = some dd ∧ tTell a dd 2 "no plan" "ring" D σ H)])
      L2.takes0 (fun W pn xe tk _ => ?_) (.cons ⟨S.b, by decide, .inl HH.gB⟩ (fun a oe cls d pn hex hz hf => ⟨fun pins s9 σ9 H9 D9 I h9 => ?_⟩) (.cons ⟨S.n, by decide, .inl HH.gN⟩ (fun a oe cls d pn hex hz hf => ⟨fun pins s9 σ9 H9 D9 I h9 => ?_⟩) .nil)))
      (pss_one (ps_ret (pe_tup pa_nil))), ?_⟩
  · refine ⟨fun pins s' σ H' D I h' => ?_⟩
    obtain ⟨Ech, hW, h1, h2, h3⟩ := h'
    have hp := act W pn xe Ech (P 0) (P 1) tk hW
    exact (pss_one (ps_expr (pos := P 2) hp)).run pins s' σ H' D I ⟨h1, h2, h3⟩
  · obtain ⟨dd, rfl, rfl, h9⟩ := h9
    have ii := pe_ins (X := (cxOf C8.CX0 X.prog X.w X.K X.mg X.base ["ask", "e"] x sg g cdg X.A X.stack s H C8.E0).nox) (P := P) (pn := pn) (a := a) (i := 4) (c := "NoPlan") (v := .ref CN) (u := .ref CN) HH.eB hz hf rfl (.inl S.e) S.i HH.gI (pe_glob S.n HH.gN rfl) (fun u' h => h) HH.kBN
    have tt := ps_tell (X := (cxOf C8.CX0 X.prog X.w X.K X.mg X.base ["ask", "e"] x sg g cdg X.A X.stack s H C8.E0).nox) (P := P) (pn := pn) (a := a) (i := 12) (t := "bad") (f := "name") HH.eB HH.xB HH.fB hz hf rfl (.inl S.e) S.i HH.gI S.c HH.gE S.v HH.gV HH.kBE HH.kBV
    refine (pss_cons (ps_if (pt_val ii) (pss_one (ps_ret (pe_tup (pa_cons pe_str pa_nil rfl)))) pss_nil) (pss_one tt)).run pins s9 σ9 H9 D9 I ?_
    intro hl
    obtain ⟨h1, fs, v, h2, h3, h4⟩ := h9 hl
    exact ⟨h1, fs, h2, false, rfl, fun hl2 => ⟨h1, fs, v, h2, h3, h4⟩⟩
  · obtain ⟨dd, rfl, rfl, h9⟩ := h9
    exact (pss_one (ps_tell (X := (cxOf C8.CX0 X.prog X.w X.K X.mg X.base ["ask", "e"] x sg g cdg X.A X.stack s H C8.E0).nox) (P := P) HH.eN HH.xN HH.fN hz hf rfl (.inl S.e) S.i HH.gI S.c HH.gE S.v HH.gV HH.kNE HH.kNV)).run pins s9 σ9 H9 D9 I h9
  · refine ⟨EchH CB CN Q, fun cls d σ' H' hE => ?_, rfl, hc, ?_⟩
    · obtain ⟨dd, fs, v, rfl, h2, hh⟩ := hE
      rcases hh with ⟨rfl, h3, h4⟩ | ⟨rfl, h3, h4⟩
      · refine ⟨true, HH.bb, fun _ a na => ⟨dd, rfl, rfl, fun hl => ⟨?_, fs, v, h2, h3, h4⟩⟩, fun z => by cases z⟩
        have : 1 < (σ'.set 1 (some (V.ref a))).length := by omega
        rw [List.getElem?_set_self (by simpa using this)]
      · refine ⟨false, HH.nb, fun z => (by cases z), fun _ => ⟨true, HH.nn, fun _ a na => ⟨dd, rfl, rfl, fun hl => ⟨?_, fs, v, h2, h3, h4⟩⟩, fun z => (by cases z)⟩⟩
        have : 1 < (σ'.set 1 (some (V.ref a))).length := by omega
        rw [List.getElem?_set_self (by simpa using this)]
    · exact h
/-- the helper stands there, as it is written -/
def HeardF (K : Frag) (mg : Str → Option Value) : Prop := ∃ (ga : Addr) (params : Arguments) (sg : Scope) (P : Nat → Pos) (CB CN CE : Addr) (fd : FuncData), mg "_law_heard" = some (.ref ga) ∧ FunD K "_law_heard" "_law_heard" params (heardB P) sg [] [] ga fd ∧
  L2.Binds K fd ["ask"] [] ∧ FnScope ["ask", "e"] ["ask"] sg ∧ HX K mg CB CN CE ∧ HScope sg
/-- the places of a text, the parts ahead of the whole -/
def posE : Nat → Expr → List Pos
  | 0, _ => []
  | n + 1, e => match e with
    | .Name _ p => [p]
    | .Constant _ _ p => [p]
    | .Call f as _ p => posE n f ++ as.flatMap (posE n) ++ [p]
    | .Attribute o _ p => posE n o ++ [p]
    | .BoolOp _ es p => es.flatMap (posE n) ++ [p]
    | .Tuple es _ p => es.flatMap (posE n) ++ [p]
    | _ => []
def posS : Nat → Stmt → List Pos
  | 0, _ => []
  | n + 1, s => match s with
    | .Expr e p => posE n e ++ [p]
    | .Return (some e) p => posE n e ++ [p]
    | .If c a b p => posE n c ++ a.flatMap (posS n) ++ b.flatMap (posS n) ++ [p]
    | .Try b hs _ _ p => b.flatMap (posS n) ++ hs.flatMap (fun h => match h with
      | .ExceptHandler (some t) _ b p => posE n t ++ b.flatMap (posS n) ++ [p]
      | .ExceptHandler none _ b p => b.flatMap (posS n) ++ [p]) ++ [p]
    | _ => []
def posSs (n : Nat) (ss : List Stmt) : List Pos := ss.flatMap (posS n)
end M

set_option Elab.async false
set_option linter.all false
set_option maxRecDepth 100000
/-! N7: what stands around a text; calls, attributes, tuples, lists, subscripts. -/
namespace M
open PySem PySem.Spec L2
/-- the promise of a def -/
def spM (g : Gm) (S : Ev) (c f : Str) : Sp := fun vs H Q E => ∃ w ds, RepH g w H ∧ IsL g.K g.mg w H ds vs ∧ Post g w H E (S.call c f ds w.μ) (IsV g) Q
structure FnF (P : Program) (W : World) (base : Heap) (g : Gm) (S : Ev) (k : Nat) (c f : Str) (fa : Addr) : Prop where
  ex : ∃ fd ps, FnOk P W g.K g.mg base (CX P W) k fa fd ps (spM g S c f) ∧ Binds g.K fd ps []
/-- a raise of the class c -/
def RaiseF (g : Gm) (c : Str) (ns : List Str) (X : Cx) : Prop := ∃ C, g.mg c = some (.ref C) ∧ ∀ (e : Expr) (es : List Expr) (p pos : Pos) (t : TA), Gl X c → (c == ("__debug__" : Str)) = false → starEach (e :: es) X.env = (false, eval e X.env) :: starEach es X.env → (backTo pos (starEach es X.env)).any (·.1) = false → PA X (e :: es) t →
  PMk X (.Call (.Name c p) (e :: es) [] pos) (fun σ H Q => t σ H fun vs H1 => vs.length = ns.length ∧ (∃ w ds, IsL g.K g.mg w H1 ds vs ∧ ds.all fmtD = true) ∧ ∀ dd, H1 dd = none → Q (.ref C) (some dd) (upd H1 dd (.xd (ns.zip vs))))
/-- what stands around -/
structure Bd (P : Program) (W : World) (base : Heap) (g : Gm) (S : Ev) (k : Nat) : Prop where
  cls : ClsOk g S
  fn : ∀ f, S.P.fns.contains f = true → ∃ fa, g.mg f = some (.ref fa) ∧ PySem.W.keepIn g.K (.ref fa) = true ∧ FnF P W base g S k "" f fa
  meth : ∀ c ci m, S.cls c = some ci → ci.meths.contains m = true → ∃ C fa, g.mg c = some (.ref C) ∧ Meth g.K C m fa ∧ FnF P W base g S k c m fa
  prop : ∀ c ci f, S.cls c = some ci → ci.props.contains f = true → ∃ C p fa, g.mg c = some (.ref C) ∧ PropOf g.K C f p fa ∧ FnF P W base g S k c f fa
  ini : ∀ c ci, S.cls c = some ci → ci.ini = true → ∃ C fa, g.mg c = some (.ref C) ∧ Mk g.K C fa ∧ FnF P W base g S k c "__init__" fa
/-- the names: their slots; the generator expressions still allowed; whether statements stand here -/
structure Gam where
  N : List Str
  sc : Scope
  gx : Nat
  top : Bool
  gen : Bool
  lam : Bool
  fnb : Str → Bool
structure Gd (Γ : Gam) (g : Gm) (S : Ev) (E : XK) (k : Nat) (X : Cx) : Prop where
  K : X.K = g.K
  mg : X.mg = g.mg
  calm : X.calm = true
  bd : Bd X.prog X.w X.base g S k
  room : Room (k + 1 + 3 * Γ.gx) X.A
  pass : Passes (CX X.prog X.w) X E
  N : X.N = Γ.N
  nd : X.N.Nodup
  sc : X.env.scope = Γ.sc
  kind : X.env.scope.kind = .function
  fnb : ∀ x, Γ.fnb x = true → X.fn x = true
  cons : ∀ x d, S.P.cons.lookup x = some d → ∃ u v, g.mg x = some u ∧ RelV v u ∧ ∀ w H, RepH g w H → Is g.K g.mg w H d v
  blt : ∀ x ∈ (["len", "abs", "min", "max", "int", "list", "tuple", "sum", "isinstance", "range", "enumerate", "zip", "all", "any", "bool", "str", "dict", "sorted", "set"] : List Str), g.mg x = none
  code : Γ.gen = true → ∃ c P, X.env.code = .ref c ∧ GxR.TabB X.base X.mg c P ∧ P ∈ g.G
  nT : ∀ P ∈ g.G, ∀ q ∈ g.T, q.1 ≠ P
  lam : Γ.lam = true → ∃ c P, X.env.code = .ref c ∧ LamX.TabB X.base X.mg c P ∧ (P, X.env.qual ++ "<lambda>") ∈ g.T ∧ ∀ p ∈ g.T, p.1 = P → p.2 = X.env.qual ++ "<lambda>"
  hrd : S.P.hrd = true → HeardF g.K g.mg
  stm : Γ.top = true → PassesOwn (model X.prog X.w) X.A X.env X.xe ∧ Takes X (fun cls d _ H => E cls d H) ∧ (∀ c ns, S.exc c = some ns → RaiseF g c ns X)
section
variable {Γ : Gam} {g : Gm} {E : XK} {S : Ev} {k : Nat} {X : Cx} {pos : Pos}
theorem Gd.units (G : Gd Γ g S E k X) : X.A.units + 64 < cLine := G.room.units
theorem Gd.r0 (G : Gd Γ g S E k X) : Room k X.A := G.room.mono (by omega)
theorem Gd.r1 (G : Gd Γ g S E k X) : Room (k + 1) X.A := G.room.mono (by omega)
theorem Gd.gl (G : Gd Γ g S E k X) {x : Str} (h : Γ.sc.names.lookup x = some .globalImplicit) : Gl X x := by
  show X.env.scope.names.lookup x = _
  rw [G.sc]; exact h
/-! ### argument lists -/
variable {a b c e : Expr} {es : List Expr} {ia ib ic : IE} {ja : IA} {t : TA}
theorem ma_nil : PA X [] (tA g E (evA S .nil)) := pa_mono pa_nil fun σ H Q ⟨w, Δ, R, P⟩ => by
  unfold evA at P
  exact P.here R.h IsL.nil
theorem ma_cons (ha : PE X e (tE g E (evE S ia))) (hr : PA X es (tA g E (evA S ja))) (hs : starEach (e :: es) X.env = (false, eval e X.env) :: starEach es X.env) : PA X (e :: es) (tA g E (evA S (.cons ia ja))) := by
  refine pa_mono (pa_cons ha hr hs) fun σ H Q ⟨w, Δ, R, P⟩ => ?_
  unfold evA at P
  refine tE_bind R P fun w1 H1 x v e1 R1 _ i1 P1 => ?_
  refine tA_bind R1 P1 fun w2 H2 xs vs e2 R2 _ i2 P2 => ?_
  exact P2.here R2.h (IsL.cons (i1.ext e2) i2)
theorem me_tup {x1 : Nat} (h : PA X es (tA g E (evA S ja))) : PE X (.Tuple es x1 pos) (tE g E (evE S (.tup ja))) := by
  refine pe_mono (pe_tup h) fun σ H Q ⟨w, Δ, R, P⟩ => ?_
  unfold evE at P
  refine tA_bind R P fun w1 H1 xs vs e1 R1 _ i1 P1 => ?_
  split at P1
  · rename_i hl
    exact ⟨by rw [i1.length]; exact Nat.le_trans hl big_le, post_tup R1.h i1 P1⟩
  · exact P1.none.elim
theorem me_lst (m : Bool) (h : PA X es (tA g E (evA S ja))) : PE X (.List es pos) (tE g E (evE S (.lst m ja))) := by
  refine pe_mono (pe_lst h) fun σ H Q ⟨w, Δ, R, P⟩ => ?_
  unfold evE at P
  refine tA_bind R P fun w1 H1 xs vs e1 R1 _ i1 P1 => ?_
  obtain ⟨hl, P2⟩ := post_new R1.h i1 P1
  exact ⟨Nat.le_trans hl big_le, P2⟩
/-! ### subscripts -/
theorem me_ix (hK : X.K = g.K) (ha : PE X a (tE g E (evE S ia))) (hb : PE X b (tE g E (evE S ib))) (hs : PlainIx b) : PE X (.Subscript a b pos) (tE g E (evE S (.ix ia ib))) := by
  refine pe_mono (pe_ix (ix_ok hK) ha hb hs) fun σ H Q ⟨w, Δ, R, P⟩ => ?_
  unfold evE at P
  refine tE_bind R P fun w1 H1 x v e1 R1 _ i1 P1 => ?_
  refine tE_bind R1 P1 fun w2 H2 y u e2 R2 _ i2 P2 => ?_
  obtain ⟨d, hd, P3⟩ := P2.opt
  exact ⟨w2, x, y, d, R2.h, i1.ext e2, i2, hd, fun v hv => P3.here R2.h hv⟩
def tO (g : Gm) (E : XK) (m : Dl → Mu → Mo (Option Int)) : TO := fun σ H Q => ∃ w Δ, Rep g w H Δ σ ∧ Post g w H E (m Δ w.μ) (fun _ _ a b => a = b) Q
theorem po_mono {e : Option Expr} {t t' : TO} (h : PO X e t) (i : ∀ σ H Q, t' σ H Q → t σ H Q) : PO X e t' := ⟨fun pins s σ H Q I q => h.run pins s σ H Q I (i σ H Q q)⟩
theorem mo_none : PO X none (tO g E (evO S .no)) := po_mono po_none fun σ H Q ⟨w, Δ, R, P⟩ => by
  unfold evO at P
  exact P.here R.h rfl
theorem mo_some (ha : PE X a (tE g E (evE S ia))) : PO X (some a) (tO g E (evO S (.some ia))) := by
  refine po_mono (po_some ha) fun σ H Q ⟨w, Δ, R, P⟩ => ?_
  unfold evO at P
  refine tE_bind R P fun w1 H1 x v e1 R1 _ i1 P1 => ?_
  split at P1
  · exact ⟨_, i1, P1.here R1.h rfl⟩
  · exact P1.none.elim
theorem tO_bind {m : Dl → Mu → Mo (Option Int)} {α β : Type} {f : Option Int → Mu → Mo α} {rel : Wd → Hp → α → β → Prop} {Q : β → Hp → Prop} {w : Wd} {H : Hp} {Δ : Dl} {σ : St} {Q' : Option Int → Hp → Prop} (R : Rep g w H Δ σ) (P : Post g w H E (mBind (m Δ w.μ) f) rel Q)
    (k : ∀ w1 H1 a, Ext w H w1 H1 → Rep g w1 H1 Δ σ → w1.L = w.L → Post g w1 H1 E (f a w1.μ) rel Q → Q' a H1) : tO g E m σ H Q' :=
  ⟨w, Δ, R, Post.bind P fun w1 H1 a v e R1 hL i P1 => by cases (show a = v from i); exact k w1 H1 a e ⟨R1, R.s.ext e⟩ hL P1⟩
theorem me_sl (hK : X.K = g.K) (m : Bool) {lo hi : Option Expr} {il ih : IO} {p2 : Pos} (ha : PE X a (tE g E (evE S ia))) (hl : PO X lo (tO g E (evO S il))) (hh : PO X hi (tO g E (evO S ih))) : PE X (.Subscript a (.Slice lo hi none p2) pos) (tE g E (evE S (.sl m ia il ih))) := by
  refine pe_mono (pe_slice (sl_ok (E := E) hK m) ha hl hh) fun σ H Q ⟨w, Δ, R, P⟩ => ?_
  unfold evE at P
  refine tE_bind R P fun w1 H1 x v e1 R1 _ i1 P1 => ?_
  refine tO_bind R1 P1 fun w2 H2 l e2 R2 _ P2 => ?_
  refine tO_bind R2 P2 fun w3 H3 h e3 R3 _ P3 => ?_
  exact ⟨w3, x, R3.h, (i1.ext e2).ext e3, P3⟩
theorem me_rev (hK : X.K = g.K) (m : Bool) {kk : Nat} {p1 p2 p3 : Pos} (ha : PE X a (tE g E (evE S ia))) : PE X (.Subscript a (.Slice none none (some (.UnaryOp .USub (.Constant (.int 1) kk p1) p2)) p3) pos) (tE g E (evE S (.rev m ia))) := by
  refine pe_mono (RV.pe_rev ha) fun σ H Q ⟨w, Δ, R, P⟩ => ?_
  unfold evE at P
  refine tE_bind R P fun w1 H1 x v e1 R1 _ i1 P1 => ?_
  rw [hK]
  unfold dRev at P1
  split at P1
  · obtain ⟨p, vs, rfl, h1, h2⟩ := i1
    exact ⟨p, vs, rfl, .inr ⟨h1.sq, post_tup R1.h h2.reverse P1⟩⟩
  · split at P1
    · rename_i xs hx
      obtain ⟨p, vs, rfl, h1, h2⟩ := rdL_is R1.h i1 hx
      exact ⟨p, vs, rfl, .inl ⟨.of h1, (post_new R1.h h2.reverse P1).2⟩⟩
    · exact P1.none.elim
/-! ### calls -/
theorem me_call (G : Gd Γ g S E k X) {f : Str} {p : Pos} (hf : S.P.fns.contains f = true) (hg : Gl X f) (ha : PA X (e :: es) (tA g E (evA S ja))) (hd : (f == ("__debug__" : Str)) = false) (hs : starEach (e :: es) X.env = (false, eval e X.env) :: starEach es X.env)
    (hp : (backTo pos (starEach es X.env)).any (·.1) = false) : PE X (.Call (.Name f p) (e :: es) [] pos) (tE g E (evE S (.call f ja))) := by
  obtain ⟨fa, h1, h2, fd, ps, F, B⟩ := G.bd.fn f hf
  rw [← G.K] at F B h2
  rw [← G.mg] at F h1
  refine pe_mono (pe_call F G.r0 hg h1 h2 B .nil G.pass ha hd hs hp) fun σ H Q ⟨w, Δ, R, P⟩ => ?_
  unfold evE at P
  refine tA_bind R P fun w1 H1 xs vs e1 R1 _ i1 P1 => ?_
  rw [List.append_nil]
  exact ⟨w1, xs, R1.h, i1, P1⟩
theorem me_call0 (G : Gd Γ g S E k X) {f : Str} {p : Pos} (hf : S.P.fns.contains f = true) (hg : Gl X f) (hd : (f == ("__debug__" : Str)) = false) : PE X (.Call (.Name f p) [] [] pos) (tE g E (evE S (.call f .nil))) := by
  obtain ⟨fa, h1, h2, fd, ps, F, B⟩ := G.bd.fn f hf
  rw [← G.K] at F B h2
  rw [← G.mg] at F h1
  refine pe_mono (pe_call0 F G.r0 hg h1 h2 B .nil G.pass hd) fun σ H Q ⟨w, Δ, R, P⟩ => ?_
  unfold evE evA at P
  exact ⟨w, [], R.h, IsL.nil, P⟩
end
end M

set_option Elab.async false
set_option linter.all false
set_option maxRecDepth 100000
/-! N8: the end of a def that hands nothing changing out. -/
namespace M
open PySem PySem.Spec L2
section
variable {g : Gm} {w w' : Wd} {H H' : Hp} {E : XK}
mutual
theorem below_is : ∀ {d : D} {v : V}, Is g.K g.mg w H d v → D.und w.A.length d = true
  | .non, _, _ => by simp [D.und]
  | .bl _, _, _ => by simp [D.und]
  | .int _, _, _ => by simp [D.und]
  | .str _, _, _ => by simp [D.und]
  | .scr _, _, _ => by simp [D.und]
  | .tup ds, _, h => by
    obtain ⟨a, xs, _, _, h3⟩ := h
    simp only [D.und]; exact belowL_is h3
  | .lst ds, _, h => by
    obtain ⟨a, xs, _, _, h3⟩ := h
    simp only [D.und]; exact belowL_is h3
  | .obj c fs, _, h => by
    obtain ⟨a, C, dx, xs, _, _, _, _, h3⟩ := h
    simp only [D.und]; exact belowF_is h3
  | .adr m, _, h => by
    obtain ⟨a, _, h2⟩ := h
    simp only [D.und, decide_eq_true_eq]
    exact (List.getElem?_eq_some_iff.mp h2).1
theorem belowL_is : ∀ {ds : List D} {vs : List V}, IsL g.K g.mg w H ds vs → D.undL w.A.length ds = true
  | [], _, _ => by simp [D.undL]
  | d :: ds, _, h => by
    obtain ⟨v, r, _, h1, h2⟩ := h.of_cons
    simp only [D.undL, Bool.and_eq_true]
    exact ⟨below_is h1, belowL_is h2⟩
theorem belowF_is : ∀ {ds : List (Str × D)} {vs : List (Str × V)}, IsF g.K g.mg w H ds vs → D.undF w.A.length ds = true
  | [], _, _ => by simp [D.undF]
  | (f, d) :: ds, _, h => by
    obtain ⟨v, r, _, h1, h2⟩ := h.of_cons
    simp only [D.undF, Bool.and_eq_true]
    exact ⟨below_is h1, belowF_is h2⟩
end
/-- from w' back to a world with fewer things -/
structure Sub (w' wt : Wd) : Prop where
  A : ∃ B, w'.A = wt.A ++ B
  live : ∀ a, wt.live a → w'.live a
  L : ∀ a, wt.L a → w'.L a
theorem Sub.at {wt : Wd} (s : Sub w' wt) {m : Nat} {a : Addr} (h : w'.A[m]? = some a) (hm : m < wt.A.length) : wt.A[m]? = some a := by
  obtain ⟨B, hB⟩ := s.A
  rw [hB, List.getElem?_append_left hm] at h
  exact h
mutual
theorem sub_is {wt : Wd} (s : Sub w' wt) : ∀ {d : D} {v : V}, D.und wt.A.length d = true → Is g.K g.mg w' H' d v → Is g.K g.mg wt H' d v
  | .non, _, _, h => h
  | .bl _, _, _, h => h
  | .int _, _, _, h => h
  | .str _, _, _, h => h
  | .scr _, _, _, h => by
    obtain ⟨a, h1, h2⟩ := h
    exact ⟨a, h1, h2.elim (fun z => .inl ⟨fun l => z.1 (s.live a l), z.2⟩) .inr⟩
  | .tup ds, _, b, h => by
    obtain ⟨a, xs, h1, h2, h3⟩ := h
    simp only [D.und] at b
    exact ⟨a, xs, h1, h2.elim (fun z => .inl ⟨fun l => z.1 (s.live a l), z.2⟩) .inr, subL_is s b h3⟩
  | .lst ds, _, b, h => by
    obtain ⟨a, xs, h1, h2, h3⟩ := h
    simp only [D.und] at b
    exact ⟨a, xs, h1, ⟨fun l => h2.1 (s.live a l), h2.2⟩, subL_is s b h3⟩
  | .obj c fs, _, b, h => by
    obtain ⟨a, C, dx, xs, h1, h2, h3, h4, h5⟩ := h
    simp only [D.und] at b
    exact ⟨a, C, dx, xs, h1, fun l => h2 (s.live a l), h3, h4, subF_is s b h5⟩
  | .adr m, _, b, h => by
    obtain ⟨a, h1, h2⟩ := h
    simp only [D.und, decide_eq_true_eq] at b
    exact ⟨a, h1, s.at h2 b⟩
theorem subL_is {wt : Wd} (s : Sub w' wt) : ∀ {ds : List D} {vs : List V}, D.undL wt.A.length ds = true → IsL g.K g.mg w' H' ds vs → IsL g.K g.mg wt H' ds vs
  | [], _, _, h => by rw [h.of_nil]; exact IsL.nil
  | d :: ds, _, b, h => by
    obtain ⟨v, r, rfl, h1, h2⟩ := h.of_cons
    simp only [D.undL, Bool.and_eq_true] at b
    exact IsL.cons (sub_is s b.1 h1) (subL_is s b.2 h2)
theorem subF_is {wt : Wd} (s : Sub w' wt) : ∀ {ds : List (Str × D)} {vs : List (Str × V)}, D.undF wt.A.length ds = true → IsF g.K g.mg w' H' ds vs → IsF g.K g.mg wt H' ds vs
  | [], _, _, h => by rw [h.of_nil]; exact IsF.nil
  | (f, d) :: ds, _, b, h => by
    obtain ⟨v, r, rfl, h1, h2⟩ := h.of_cons
    simp only [D.undF, Bool.and_eq_true] at b
    exact IsF.cons (sub_is s b.1 h1) (subF_is s b.2 h2)
end
theorem optMap_is {wt : Wd} {f : D → Option D} (ih : ∀ (d d' : D) (v : V), f d = some d' → Is g.K g.mg w' H' d v → Is g.K g.mg wt H' d' v) : ∀ {ds ds' : List D} {vs : List V}, optMap f ds = some ds' → IsL g.K g.mg w' H' ds vs → IsL g.K g.mg wt H' ds' vs
  | [], _, _, e, h => by cases e; rw [h.of_nil]; exact IsL.nil
  | d :: ds, ds', _, e, h => by
    obtain ⟨v, r, rfl, h1, h2⟩ := h.of_cons
    unfold optMap at e
    split at e
    · rename_i p q e1 e2
      cases e
      exact IsL.cons (ih d p v e1 h1) (optMap_is ih e2 h2)
    · cases e
theorem optMapF_is {wt : Wd} {f : D → Option D} (ih : ∀ (d d' : D) (v : V), f d = some d' → Is g.K g.mg w' H' d v → Is g.K g.mg wt H' d' v) : ∀ {ds ds' : List (Str × D)} {vs : List (Str × V)}, optMap (fun e => (f e.2).map fun v => (e.1, v)) ds = some ds' → IsF g.K g.mg w' H' ds vs → IsF g.K g.mg wt H' ds' vs
  | [], _, _, e, h => by cases e; rw [h.of_nil]; exact IsF.nil
  | (n, d) :: ds, ds', _, e, h => by
    obtain ⟨v, r, rfl, h1, h2⟩ := h.of_cons
    unfold optMap at e
    split at e
    · rename_i p q e1 e2
      cases e
      obtain ⟨d', e3, rfl⟩ := Option.map_eq_some_iff.mp e1
      exact IsF.cons (ih d d' v e3 h1) (optMapF_is ih e2 h2)
    · cases e
theorem fz_is {wt : Wd} (s : Sub w' wt) (R' : RepH g w' H') : ∀ (k : Nat) (d d' : D) (v : V), fzD wt.A.length w'.μ k d = some d' → Is g.K g.mg w' H' d v → Is g.K g.mg wt H' d' v
  | 0, _, _, _, e, _ => by simp [fzD] at e
  | k + 1, d, d', v, e, h => by
    have ih := fz_is s R' k
    unfold fzD at e
    split at e
    · obtain ⟨ds', e1, rfl⟩ := Option.map_eq_some_iff.mp e
      obtain ⟨a, xs, h1, h2, h3⟩ := h
      exact ⟨a, xs, h1, h2.elim (fun z => .inl ⟨fun l => z.1 (s.live a l), z.2⟩) .inr, optMap_is ih e1 h3⟩
    · obtain ⟨ds', e1, rfl⟩ := Option.map_eq_some_iff.mp e
      obtain ⟨a, xs, h1, h2, h3⟩ := h
      exact ⟨a, xs, h1, ⟨fun l => h2.1 (s.live a l), h2.2⟩, optMap_is ih e1 h3⟩
    · obtain ⟨ds', e1, rfl⟩ := Option.map_eq_some_iff.mp e
      obtain ⟨a, C, dx, xs, h1, h2, h3, h4, h5⟩ := h
      exact ⟨a, C, dx, xs, h1, fun l => h2 (s.live a l), h3, h4, optMapF_is ih e1 h5⟩
    · rename_i m
      obtain ⟨a, h1, h2⟩ := h
      split at e
      · rename_i hm
        cases e
        exact ⟨a, h1, s.at h2 hm⟩
      · rename_i hm
        have nl : ∀ c, w'.μ[m]? = some c → c ≠ .froz → ¬ wt.live a := fun c hc hf l => by
          rcases l with l | ⟨i, c', h3, _, _⟩
          · exact R'.nL a (List.mem_of_getElem? h2) (s.L a l)
          · obtain ⟨B, hB⟩ := s.A
            have hi : i < wt.A.length := (List.getElem?_eq_some_iff.mp h3).1
            have h4 : w'.A[i]? = some a := by rw [hB, List.getElem?_append_left hi]; exact h3
            have := nodup_get R'.nd h4 h2
            omega
        split at e
        · rename_i ds hc
          obtain ⟨ds', e1, rfl⟩ := Option.map_eq_some_iff.mp e
          obtain ⟨xs, h3, h4⟩ := R'.cell m a _ h2 hc
          exact ⟨a, xs, h1, ⟨nl _ hc (by intro z; cases z), h3⟩, optMap_is ih e1 h4⟩
        · rename_i c fs hc
          obtain ⟨ds', e1, rfl⟩ := Option.map_eq_some_iff.mp e
          obtain ⟨C, dx, xs, h3, h4, h5⟩ := R'.cell m a _ h2 hc
          exact ⟨a, C, dx, xs, h1, nl _ hc (by intro z; cases z), h3, h4, optMapF_is ih e1 h5⟩
        · cases e
    · rename_i n1 n2 n3 n4
      cases e
      cases d with
      | tup ds => exact absurd rfl (n1 ds)
      | lst ds => exact absurd rfl (n2 ds)
      | obj c fs => exact absurd rfl (n3 c fs)
      | adr m => exact absurd rfl (n4 m)
      | scr ns => exact sub_is s (by simp [D.und]) h
      | _ => exact h
theorem trimOk_at : ∀ {n : Nat} {μ μ' : Mu}, trimOk n μ μ' = true → ∀ (i : Nat) (c : Cell), μ[i]? = some c → ∃ c', μ'[i]? = some c' ∧ (Cell.beq c c' = true ∨ belowC n c' = true)
  | n, [], _, _, i, c, e => by simp at e
  | n, c :: μ, [], h, _, _, _ => by simp [trimOk] at h
  | n, c :: μ, c' :: μ', h, 0, d, e => by
    simp only [trimOk, Bool.and_eq_true, Bool.or_eq_true] at h
    simp at e; subst e
    exact ⟨c', rfl, h.1⟩
  | n, c :: μ, c' :: μ', h, i + 1, d, e => by
    simp only [trimOk, Bool.and_eq_true, Bool.or_eq_true] at h
    exact trimOk_at h.2 i d (by simpa using e)
theorem Cell.beq_eq {a b : Cell} (h : Cell.beq a b = true) : a = b := by
  cases a <;> cases b <;> simp [Cell.beq] at h ⊢
  · exact D.beqL_eq h
  · exact ⟨h.1, D.beqF_eq h.2⟩
theorem Cell.beq_self (a : Cell) : Cell.beq a a = true := by
  cases a <;> simp [Cell.beq, D.beqL_self, D.beqF_self]
/-- the world without the new things -/
def Wd.cut (w w' : Wd) : Wd := ⟨w.A, w'.μ.take w.A.length, w.L⟩
theorem trim (R : RepH g w H) (e : Ext w H w' H') (R' : RepH g w' H') (hL : w'.L = w.L) (ok : trimOk w.A.length w.μ w'.μ = true) : Sub w' (w.cut w') ∧ Ext w H (w.cut w') H' ∧ RepH g (w.cut w') H' := by
  have hsub : Sub w' (w.cut w') := by
    refine ⟨e.A, fun a l => ?_, fun a l => by rw [hL]; exact l⟩
    rcases l with l | ⟨i, c, h1, h2, h3⟩
    · exact .inl (by rw [hL]; exact l)
    · refine .inr ⟨i, c, e.at h1, ?_, h3⟩
      have h2 : (w'.μ.take w.A.length)[i]? = some c := h2
      rw [List.getElem?_take] at h2
      split at h2
      · exact h2
      · cases h2
  have hlen : w.A.length ≤ w'.μ.length := by
    obtain ⟨B, hB⟩ := e.A
    rw [← R'.len, hB, List.length_append]; omega
  refine ⟨hsub, ⟨⟨⟨[], by simp [Wd.cut]⟩, e.k, fun a o hl h l => e.l a o hl h (hsub.live a l), e.t⟩, fun a h => ⟨(e.p a h).1, h⟩⟩, ?_⟩
  refine ⟨?_, R.nd, fun a ha => ?_, fun a ha => ?_, R.nL, fun i a c h1 h2 => ?_, R'.tabs, R'.tabg⟩
  · show w.A.length = (w'.μ.take w.A.length).length
    rw [List.length_take]; omega
  · obtain ⟨B, hB⟩ := e.A
    exact R'.trk a (by rw [hB]; exact List.mem_append_left _ ha)
  · exact R'.trkL a (by rw [hL]; exact ha)
  · have h1 : w.A[i]? = some a := h1
    have h2 : (w'.μ.take w.A.length)[i]? = some c := h2
    have hi : i < w.A.length := (List.getElem?_eq_some_iff.mp h1).1
    rw [List.getElem?_take, if_pos hi] at h2
    have hc := R'.cell i a c (e.at h1) h2
    obtain ⟨c0, h0⟩ : ∃ c0, w.μ[i]? = some c0 := ⟨_, List.getElem?_eq_getElem (by rw [← R.len]; exact hi)⟩
    obtain ⟨c', h3, h4⟩ := trimOk_at ok i c0 h0
    rw [h2] at h3; cases h3
    have hb : belowC w.A.length c = true := by
      rcases h4 with h4 | h4
      · have := Cell.beq_eq h4
        subst this
        have hc0 := R.cell i a c0 h1 h0
        cases c0 with
        | lst ds => obtain ⟨xs, _, z⟩ := hc0; exact belowL_is z
        | ins cl fs => obtain ⟨C, dx, xs, _, _, z⟩ := hc0; exact belowF_is z
        | froz => rfl
      · exact h4
    cases c with
    | lst ds =>
      obtain ⟨xs, z1, z2⟩ := hc
      exact ⟨xs, z1, subL_is hsub hb z2⟩
    | ins cl fs =>
      obtain ⟨C, dx, xs, z1, z2, z3⟩ := hc
      exact ⟨C, dx, xs, z1, z2, subF_is hsub hb z3⟩
    | froz => trivial
/-- .. a call's end -/
theorem post_fz (R : RepH g w H) (e : Ext w H w' H') (hL : w'.L = w.L) {r : Mo D} {Q : VK} (P : Post g w H E (fzR w.μ r) (IsV g) Q) : Post g w' H' E r (IsV g) Q := by
  cases r with
  | none => exact P.none.elim
  | some p =>
    obtain ⟨o, μ'⟩ := p
    have hn : w.μ.length = w.A.length := R.len.symm
    cases o with
    | ok d =>
      refine ⟨.ok d, μ', rfl, fun A' H2 b e2 R2 i => ?_⟩
      unfold fzR at P
      simp only at P
      split at P
      · rename_i ok
        rw [hn] at ok P
        obtain ⟨d', hd, P⟩ := P.opt
        have e3 : Ext w H ⟨A', μ', w'.L⟩ H2 := e.trans e2
        obtain ⟨s, e4, R4⟩ := trim (w' := ⟨A', μ', w'.L⟩) R e3 R2 hL ok
        exact Post.ok (a := d') (μ := μ'.take w.A.length) (A' := w.A) P e4 R4 (fz_is (wt := w.cut ⟨A', μ', w'.L⟩) s R2 16 d d' b hd i)
      · exact P.none.elim
    | exc x =>
      refine ⟨.exc x, μ', rfl, fun A' H2 cls dd e2 R2 i => ?_⟩
      unfold fzR at P
      simp only at P
      split at P
      · rename_i ok
        split at P
        · rename_i fs hfs
          rw [hn] at ok hfs P
          have e3 : Ext w H ⟨A', μ', w'.L⟩ H2 := e.trans e2
          obtain ⟨s, e4, R4⟩ := trim (w' := ⟨A', μ', w'.L⟩) R e3 R2 hL ok
          obtain ⟨r', μ2, h1, h2⟩ := P
          cases h1
          refine h2 w.A H2 cls dd e4 R4 ?_
          obtain ⟨C, z1, z2, z3⟩ := i
          refine ⟨C, z1, z2, ?_⟩
          obtain ⟨xc, xf⟩ := x
          cases xf with
          | nil => cases hfs; exact z3
          | cons f fr =>
            obtain ⟨da, xs, y1, y2, y3, y4⟩ := z3
            have y5 := optMapF_is (wt := w.cut ⟨A', μ', w'.L⟩) (fz_is s R2 16) hfs y4
            cases fs with
            | nil =>
              obtain ⟨fn, fd⟩ := f
              unfold optMap at hfs
              split at hfs <;> cases hfs
            | cons q qr => exact ⟨da, xs, y1, fun l => y2 (s.live da l), y3, y5⟩
        · exact P.none.elim
      · exact P.none.elim
end
end M

set_option Elab.async false
set_option linter.all false
set_option maxRecDepth 100000
/-! N9: attributes, methods, instances, isinstance, functions of values. -/
namespace M
open PySem PySem.Spec L2
theorem Post.noX {α β : Type} {g : Gm} {w : Wd} {H : Hp} {E E' : XK} {o : Mo α} {rel : Wd → Hp → α → β → Prop} {Q : β → Hp → Prop} (P : Post g w H E (noX o) rel Q) : Post g w H E' o rel Q := by
  obtain ⟨r, μ', h1, h2⟩ := P
  cases o with
  | none => cases h1
  | some p =>
    obtain ⟨p, μ⟩ := p
    cases p with
    | exc e => cases h1
    | ok a => cases h1; exact ⟨.ok a, _, rfl, h2⟩
abbrev E0' : XK := fun _ _ _ => False
theorem pass0' {P : Program} {W : World} {X : Cx} (h1 : X.prog = P) (h2 : X.w = W) : Passes (CX P W) X E0' := fun _ _ _ _ _ _ _ ⟨_, _, _, _, _, _, _, _, _, _, _, _, z⟩ => z.elim
section
variable {Γ : Gam} {g : Gm} {E : XK} {S : Ev} {k : Nat} {X : Cx} {pos : Pos} {a b c e : Expr} {es : List Expr} {ia ib ic : IE} {ja : IA} {t : TA}
theorem mgC {c : Str} {C C' : Addr} (h : g.mg c = some (.ref C)) (h' : g.mg c = some (.ref C')) : C = C' := by rw [h] at h'; cases h'; rfl
/-- e.f -/
theorem me_att (G : Gd Γ g S E k X) {f : Str} (ha : PE X a (tE g E (evE S ia))) (hb : attributeBase a f X.env (eval a X.env) = eval a X.env) : PE X (.Attribute a f pos) (tE g E (evE S (.att ia f))) := by
  refine ⟨fun pins s σ H Q I q => ?_⟩
  obtain ⟨w, Δ, R, P⟩ := q
  unfold evE at P
  have q1 : tE g E (evE S ia) σ H fun v H1 => ∃ w1 x, RepH g w1 H1 ∧ Is g.K g.mg w1 H1 x v ∧ Post g w1 H1 E (dAtt S f x w1.μ) (IsV g) Q :=
    tE_bind R P fun w1 H1 x v e1 R1 _ i1 P1 => ⟨w1, x, R1.h, i1, P1⟩
  refine attr_of hb (thn (ha.run pins s σ H _ I q1) fun u s1 ⟨x, H1, I1, rx, w1, d, R1, i1, P1⟩ => ?_)
  unfold dAtt at P1
  split at P1
  · rename_i cn fs hd
    obtain ⟨p, C, dx, xs, rfl, h1, h2, h3⟩ := rdI_is R1 i1 hd
    obtain rfl : u = Value.ref p := rx
    split at P1
    · rename_i ci hc
      obtain ⟨C', F⟩ := G.bd.cls.cls cn ci hc
      obtain rfl := mgC h1 F.at_
      have hcl := F.cls
      rw [← G.K] at hcl
      split at P1
      · rename_i hp
        obtain ⟨C2, pp, fa, h4, h5, fd, ps, Fn, B⟩ := G.bd.prop cn ci f hc hp
        obtain rfl := mgC h1 h4
        rw [← G.K] at h5 Fn B
        rw [← G.mg] at Fn
        exact getprop_ok I1 h2 hcl h5 Fn G.r1 B .nil (pass0' rfl rfl) ⟨w1, [d], R1, IsL.cons i1 IsL.nil, P1.noX⟩
      · split at P1
        · rename_i hf
          obtain ⟨z, hz, P2⟩ := P1.opt
          obtain ⟨v, h6, h7⟩ := h3.look hz
          have hn := F.flds f hf
          rw [← G.K] at hn
          exact getattr_ok I1 h2 hcl hn h6 fun u' s2 I2 ru => ⟨v, H1, I2, ru, P2.here R1 h7⟩
        · exact P1.none.elim
    · exact P1.none.elim
  · exact P1.none.elim
/-- o.m(e, ..), a method of the text -/
theorem me_meth (G : Gd Γ g S E k X) {f : Str} {apos : Pos} {pl : Sem Bool} (ho : PE X a (tE g E (evE S ia))) (ha : PA X (e :: es) (tA g E (evA S ja)))
    (hst : starEach (e :: es) X.env = (false, eval e X.env) :: starEach es X.env) (hpl : (backTo pos (starEach es X.env)).any (·.1) = false)
    (ht : eval (.Call (.Attribute a f apos) (e :: es) [] pos) X.env = (do
      let ov ← eval a X.env
      standAt apos.atName
      let (f, first) ← holding [ov] (getMethod ov f pl)
      callWith pos f first (backTo pos (starEach (e :: es) X.env)) (backToKw pos (keywordEach [] X.env)))) :
    PE X (.Call (.Attribute a f apos) (e :: es) [] pos) (tE g E (evE S (.meth f ia ja))) := by
  refine ⟨fun pins s σ H Q I q => ?_⟩
  obtain ⟨w, Δ, R, P⟩ := q
  unfold evE at P
  refine methcall_of ho I (tE_bind R P fun w1 H1 x v e1 R1 _ i1 P1 => ?_) ht
  unfold dMeth at P1
  split at P1
  · rename_i cn fs hd
    obtain ⟨p, C, dx, xs, rfl, h1, h2, h3⟩ := rdI_is R1.h i1 hd
    split at P1
    · rename_i ci hc
      split at P1
      · rename_i hm
        obtain ⟨C', F⟩ := G.bd.cls.cls cn ci hc
        obtain rfl := mgC h1 F.at_
        have hcl := F.cls
        obtain ⟨C2, fa, h4, h5, fd, ps, Fn, B⟩ := G.bd.meth cn ci f hc hm.1
        obtain rfl := mgC h1 h4
        rw [← G.K] at hcl h5 Fn B
        rw [← G.mg] at Fn
        refine ⟨p, C, dx, xs, fa, rfl, h2, hcl, h5, h3.look_none (Option.isNone_iff_eq_none.mp hm.2), fun s1 I1 => ?_⟩
        have q2 : tA g E (evA S ja) σ H1 fun vs H2 => spM g S cn f (.ref p :: (vs ++ [])) H2 Q E :=
          tA_bind R1 P1 fun w2 H2 ds vs e2 R2 _ i2 P2 => by
            rw [List.append_nil]
            exact ⟨w2, x :: ds, R2.h, IsL.cons (i1.ext e2) i2, P2⟩
        refine PySem.W.callWith_K (first := [.ref p]) (h₀ := X.base) I1.ok.mod.kin h5.kp (thn (ha.run pos pins s1 σ H1 _ I1 q2) fun us s2 ⟨vs, H2, I2, r, q3⟩ => ⟨I2.kIn, ?_⟩) hst hpl
        exact run_fn (us := .ref p :: us) (vs := .ref p :: vs) Fn G.r0 B .nil G.pass I2 (.cons rfl r) q3
      · exact P1.none.elim
    · exact P1.none.elim
  · exact P1.none.elim
theorem me_meth0 (G : Gd Γ g S E k X) {f : Str} {apos : Pos} {pl : Sem Bool} (ho : PE X a (tE g E (evE S ia)))
    (ht : eval (.Call (.Attribute a f apos) [] [] pos) X.env = (do
      let ov ← eval a X.env
      standAt apos.atName
      let (f, first) ← holding [ov] (getMethod ov f pl)
      callWith pos f first (backTo pos (starEach [] X.env)) (backToKw pos (keywordEach [] X.env)))) :
    PE X (.Call (.Attribute a f apos) [] [] pos) (tE g E (evE S (.meth f ia .nil))) := by
  refine ⟨fun pins s σ H Q I q => ?_⟩
  obtain ⟨w, Δ, R, P⟩ := q
  unfold evE at P
  refine methcall_of ho I (tE_bind R P fun w1 H1 x v e1 R1 _ i1 P1 => ?_) ht
  unfold dMeth at P1
  split at P1
  · rename_i cn fs hd
    obtain ⟨p, C, dx, xs, rfl, h1, h2, h3⟩ := rdI_is R1.h i1 hd
    split at P1
    · rename_i ci hc
      split at P1
      · rename_i hm
        obtain ⟨C', F⟩ := G.bd.cls.cls cn ci hc
        obtain rfl := mgC h1 F.at_
        have hcl := F.cls
        obtain ⟨C2, fa, h4, h5, fd, ps, Fn, B⟩ := G.bd.meth cn ci f hc hm.1
        obtain rfl := mgC h1 h4
        rw [← G.K] at hcl h5 Fn B
        rw [← G.mg] at Fn
        refine ⟨p, C, dx, xs, fa, rfl, h2, hcl, h5, h3.look_none (Option.isNone_iff_eq_none.mp hm.2), fun s1 I1 => ?_⟩
        unfold evA at P1
        exact PySem.W.callWith_K0 (first := [.ref p]) I1.kIn h5.kp (run_fn (us := [.ref p]) (vs := [.ref p]) Fn G.r0 B .nil G.pass I1 (.cons rfl .nil) ⟨w1, [x], R1.h, IsL.cons i1 IsL.nil, P1⟩)
      · exact P1.none.elim
    · exact P1.none.elim
  · exact P1.none.elim
/-- C(e, ..) -/
theorem mk_post {w : Wd} {H : Hp} {c : Str} {fr : Bool} {ds : List D} {vs : List V} {C : Addr} {Q : VK} (R : RepH g w H) (hC : g.mg c = some (.ref C)) (h : IsL g.K g.mg w H ds vs) (P : Post g w H E (dMk S c fr ds w.μ) (IsV g) Q) :
    ∀ x dx, H x = none → H dx = none → dx ≠ x → spM g S c "__init__" (.ref x :: vs) (upd (upd H dx (.own x)) x (.ins C dx [])) (fun v H2 => v = .non ∧ Q (.ref x) H2) E := fun x dx hx hdx hne => by
  have e1 : Ext w H w (upd H dx (.own x)) := Ext.new R hdx
  have R1 : RepH g w (upd H dx (.own x)) := R.new hdx
  have hx1 : upd H dx (.own x) x = none := by rw [upd_ne (Ne.symm hne)]; exact hx
  have e2 : Ext w (upd H dx (.own x)) (w.push x (.ins c [])) (upd (upd H dx (.own x)) x (.ins C dx [])) := Ext.alloc R1 hx1
  have R2 : RepH g (w.push x (.ins c [])) (upd (upd H dx (.own x)) x (.ins C dx [])) := R1.alloc hx1 (fun ps z => by cases z) ⟨C, dx, [], hC, upd_same, IsF.nil⟩
  have e12 := e1.trans e2
  have i0 : Is g.K g.mg (w.push x (.ins c [])) (upd (upd H dx (.own x)) x (.ins C dx [])) (.adr w.μ.length) (.ref x) := ⟨x, rfl, push_at (c := .ins c []) R.len⟩
  refine ⟨w.push x (.ins c []), .adr w.μ.length :: ds, R2, IsL.cons i0 (h.ext e12), ?_⟩
  have fin : Post g (w.push x (.ins c [])) (upd (upd H dx (.own x)) x (.ins C dx [])) E (mBind (S.call c "__init__" (.adr w.μ.length :: ds) (w.μ ++ [.ins c []])) fun v μ1 => match v with
    | .non => mOk (.adr w.μ.length) μ1
    | _ => none) (IsV g) Q := by
    unfold dMk at P
    cases fr with
    | true => exact post_fz R e12 rfl P
    | false => exact P.on e12 rfl
  refine Post.bind fin fun w3 H3 d v e3 R3 hL3 i3 P3 => ?_
  split at P3
  · exact ⟨i3, P3.here R3 (i0.ext e3)⟩
  · exact P3.none.elim
theorem me_mk (G : Gd Γ g S E k X) {c : Str} {ci : CI} {fr : Bool} {p : Pos} (hc : S.cls c = some ci) (hi : ci.ini = true) (hg : Gl X c) (ha : PA X (e :: es) (tA g E (evA S ja))) (hd : (c == ("__debug__" : Str)) = false)
    (hs : starEach (e :: es) X.env = (false, eval e X.env) :: starEach es X.env) (hp : (backTo pos (starEach es X.env)).any (·.1) = false) : PE X (.Call (.Name c p) (e :: es) [] pos) (tE g E (evE S (.mk c fr ja))) := by
  obtain ⟨C, fa, h1, h2, fd, ps, F, B⟩ := G.bd.ini c ci hc hi
  have h1' := h1
  rw [← G.K] at F B h2
  rw [← G.mg] at F h1
  refine pe_mono (pe_make h2 F G.r1 hg h1 B .nil G.pass ha hd hs hp) fun σ H Q ⟨w, Δ, R, P⟩ => ?_
  unfold evE at P
  refine tA_bind R P fun w1 H1 xs vs e1 R1 _ i1 P1 => ?_
  rw [List.append_nil]
  exact mk_post R1.h h1' i1 P1
theorem me_mk0 (G : Gd Γ g S E k X) {c : Str} {ci : CI} {fr : Bool} {p : Pos} (hc : S.cls c = some ci) (hi : ci.ini = true) (hg : Gl X c) (hd : (c == ("__debug__" : Str)) = false) : PE X (.Call (.Name c p) [] [] pos) (tE g E (evE S (.mk c fr .nil))) := by
  obtain ⟨C, fa, h1, h2, fd, ps, F, B⟩ := G.bd.ini c ci hc hi
  have h1' := h1
  rw [← G.K] at F B h2
  rw [← G.mg] at F h1
  refine pe_mono (pe_make0 h2 F G.r1 hg h1 B .nil G.pass hd) fun σ H Q ⟨w, Δ, R, P⟩ => ?_
  unfold evE evA at P
  exact mk_post R.h h1' IsL.nil P
/-! ### isinstance -/
theorem me_isi (G : Gd Γ g S E k X) {t : Ty} {u : Value} {cv : V} {p : Pos} (hg : Gl X "isinstance") (ha : PE X a (tE g E (evE S ia))) (hb : PE X b (tC cv)) (hu : TyV g t u) (hc : ClsV cv u)
    (hs : starEach [a, b] X.env = (false, eval a X.env) :: starEach [b] X.env) (hs2 : starEach [b] X.env = (false, eval b X.env) :: starEach [] X.env) : PE X (.Call (.Name "isinstance" p) [a, b] [] pos) (tE g E (evE S (.isi ia [t]))) := by
  have hm : X.mg "isinstance" = none := by rw [G.mg]; exact G.blt _ (by simp)
  refine pe_mono (pe_callB (isi_ok (t := t) G.bd.cls G.K) hg hm (by decide +kernel) (pa_cons ha (pa_cons hb pa_nil hs2) hs) (by decide) (by decide) hs (by rw [hs2]; rfl)) fun σ H Q ⟨w, Δ, R, P⟩ => ?_
  unfold evE at P
  refine tE_bind R P fun w1 H1 x v e1 R1 _ i1 P1 => ?_
  obtain ⟨z, hz, P2⟩ := P1.opt
  obtain ⟨k, hk, rfl⟩ := Option.map_eq_some_iff.mp hz
  exact ⟨w1, x, v, cv, u, k, rfl, hu, hc, R1.h, i1, hk, P2.here R1.h rfl⟩
theorem me_isiT (G : Gd Γ g S E k X) {ts : List Ty} {us : List Value} {cs : List V} {ces : List Expr} {kk : Nat} {p p2 : Pos} (hg : Gl X "isinstance") (ha : PE X a (tE g E (evE S ia))) (hb : PA X ces (fun _ H Q => Q cs H)) (hu : Paired (TyV g) ts us) (hc : Paired ClsV cs us) (hl : cs.length ≤ sizeLine)
    (hs : starEach [a, .Tuple ces kk p2] X.env = (false, eval a X.env) :: starEach [.Tuple ces kk p2] X.env) : PE X (.Call (.Name "isinstance" p) [a, .Tuple ces kk p2] [] pos) (tE g E (evE S (.isi ia ts))) := by
  have hm : X.mg "isinstance" = none := by rw [G.mg]; exact G.blt _ (by simp)
  refine pe_mono (pe_callB (isiT_ok (ts := ts) G.bd.cls G.K) hg hm (by decide +kernel) (pa_cons ha (pa_cons (pe_tup hb) pa_nil rfl) hs) (by decide) (by decide) hs (by rfl)) fun σ H Q ⟨w, Δ, R, P⟩ => ?_
  unfold evE at P
  refine tE_bind R P fun w1 H1 x v e1 R1 _ i1 P1 => ?_
  obtain ⟨z, hz, P2⟩ := P1.opt
  obtain ⟨k, hk, rfl⟩ := Option.map_eq_some_iff.mp hz
  refine ⟨hl, fun tp htp => ?_⟩
  have e2 : Ext w1 H1 w1 (upd H1 tp (.tup cs)) := Ext.new R1.h htp
  have R2 : RepH g w1 (upd H1 tp (.tup cs)) := R1.h.new htp
  exact ⟨w1, x, v, tp, cs, us, k, rfl, hu, hc, upd_same, R2, i1.ext e2, hk, Post.ok (A' := w1.A) P2 e2 R2 rfl⟩
/-! ### functions of values -/
def bltNames : List Str := ["len", "abs", "min", "max", "int", "list", "tuple", "sum", "isinstance", "range", "enumerate", "zip", "all", "any", "bool", "str", "dict", "sorted", "set"]
theorem me_bi (G : Gd Γ g S E k X) {bb : Bi} (hb : bb ≠ .len) {p : Pos} (hg : Gl X (nmOf bb).1) (ha : PA X (e :: es) (tA g E (evA S ja))) (he : starEach (e :: es) X.env = (false, eval e X.env) :: starEach es X.env) (hpl : (backTo pos (starEach es X.env)).any (·.1) = false) :
    PE X (.Call (.Name (nmOf bb).1 p) (e :: es) [] pos) (tE g E (evE S (.bi bb ja))) := by
  have hc := bi_ok (g := g) (E := E) (S := S) G.K G.calm bb
  have hm : X.mg (nmOf bb).1 = none := by rw [G.mg]; exact G.blt _ (by cases bb <;> simp [nmOf])
  have hn : (nmOf bb).1 ≠ ("__name__" : Str) := by cases bb <;> first | decide | (show ("list" : Str) ≠ _; decide)
  have hdb : ((nmOf bb).1 == ("__debug__" : Str)) = false := by cases bb <;> first | decide | (show (("list" : Str) == _) = false; decide)
  have key : ∀ σ H Q, tE g E (evE S (.bi bb ja)) σ H Q → tCB (RBof g E S bb) (tA g E (evA S ja)) σ H Q := fun σ H Q ⟨w, Δ, R, P⟩ => by
    unfold evE at P
    refine tA_bind R P fun w1 H1 xs vs e1 R1 _ i1 P1 => ?_
    refine ⟨w1, xs, R1.h, i1, ?_, P1⟩
    unfold plainB
    split
    · exact absurd rfl hb
    · trivial
  cases bb with
  | len => exact absurd rfl hb
  | abs => exact pe_mono (pe_callB hc hg hm (by decide +kernel) ha hn hdb he hpl) key
  | min2 => exact pe_mono (pe_callB hc hg hm (by decide +kernel) ha hn hdb he hpl) key
  | max2 => exact pe_mono (pe_callB hc hg hm (by decide +kernel) ha hn hdb he hpl) key
  | sum => exact pe_mono (pe_callB hc hg hm (by decide +kernel) ha hn hdb he hpl) key
  | int => exact pe_mono (pe_callTy hc hg hm (by decide +kernel) ha hn hdb he hpl) key
  | list m => exact pe_mono (pe_callTy hc hg hm (show bootBuiltins ("list" : Str) = _ from by decide +kernel) ha hn hdb he hpl) key
  | tuple => exact pe_mono (pe_callTy hc hg hm (by decide +kernel) ha hn hdb he hpl) key
end
end M

set_option Elab.async false
set_option linter.all false
set_option maxRecDepth 100000
/-! N10: len; a list's methods; parts of statements. -/
namespace M
open PySem PySem.Spec L2
section
variable {Γ : Gam} {g : Gm} {E : XK} {S : Ev} {k : Nat} {X : Cx} {pos : Pos} {a b c e : Expr} {es : List Expr} {ia ib ic : IE} {ja : IA} {t : TA}
theorem lenO {pins : List (Addr × Obj)} {σ : St} {H : Hp} {s : Shared} {Q : VK} {C f p dx : Addr} {fs : List (Str × V)} {fd : FuncData} {ps : List Str} {sp : Sp} (I : Inv X pins σ H s) (ea : H p = some (.ins C dx fs)) (hm : Meth X.K C "__len__" f)
    (F : FnOk X.prog X.w X.K X.mg X.base (CX X.prog X.w) k f fd ps sp) (hr : Room (k + 1) X.A) (hb : Binds X.K fd ps []) (h : sp [.ref p] H (fun v H' => ∃ i : Int, v = .int i ∧ 0 ≤ i ∧ i < 2 ^ 63 ∧ Q v H') E0') :
    wpAny (model X.prog X.w) X.A (call (.builtin "len") [.ref p]) (EP X pins σ Q) X.xe s := by
  obtain ⟨mA, O, _, _, _, _⟩ := ins_get I.hok ea
  obtain ⟨od, J, _⟩ := O.look
  have hl : [Value.ref p].length = ps.length := by rw [← F.len _ _ _ _ h]; rfl
  refine PySem.Calls.call_function_entry kind_len plain_len entry_len (args_len1 _) ?_
  unfold Builtin.«len»
  refine wpAny_bind (m := oneArg "len" _) (wpAny_pure ?_)
  refine wpAny_bind (m := callSpecial? (.ref p) (Str.ofString "__len__")) (PySem.W.special_fn I.kIn J hm.at_ (beq_iff_eq.mp hm.fn) ?_)
  have hbb := hb s [.ref p] I.kIn (by simpa using hl)
  refine wpAny_call (codeAny_mono (F.run X.A.in1 X.stack s H ⟨[.ref p], []⟩ [.ref p] [.ref p] _ E0' hr.in1 I.env0.in1 (by simpa using hbb) (.cons rfl .nil) h) fun r s' hq => ?_)
  cases r with
  | error er => exact (pass0' (X := X.nox) rfl rfl pins σ H s er s' (I.wish _) hq).elim
  | ok fl =>
    cases fl with
    | ret u =>
      obtain ⟨v, H', I3, rv, i, rfl, h0, h1, q3⟩ := I.after hq
      obtain ⟨tk, rfl⟩ := (show ∃ tk, u = Value.int i tk from rv)
      refine wpAny_bind (wpAny_holding (wpAny_pure ?_))
      refine wpAny_bind (wpAny_letGo ?_)
      show wpAny _ _ (if i < 0 then _ else _) _ _ _
      rw [if_neg (by omega)]
      show wpAny _ _ (if i ≥ 2 ^ 63 then _ else _) _ _ _
      rw [if_neg (by omega)]
      exact wpAny_bind (wpAny_mkInt (wpAny_pure ⟨_, rfl, .int i, H', I3.tok _, ⟨_, rfl⟩, q3⟩))
    | next => exact False.elim hq
    | brk => exact False.elim hq
    | cont => exact False.elim hq
end
end M

set_option Elab.async false
set_option linter.all false
set_option maxRecDepth 100000
/-! N11: targets, iterators. -/
namespace M
open PySem PySem.Spec L2
/-! ### targets -/
mutual
def IT.ix : IT → List Nat
  | .nm i => [i]
  | .tup ts => IT.ixs ts
def IT.ixs : List IT → List Nat
  | [] => []
  | t :: r => IT.ix t ++ IT.ixs r
end
/-- σ' is σ but at the places vs -/
def But (vs : List Nat) (σ σ' : St) : Prop := σ'.length = σ.length ∧ ∀ j, j ∉ vs → σ'[j]? = σ[j]?
theorem But.refl {vs : List Nat} {σ : St} : But vs σ σ := ⟨rfl, fun _ _ => rfl⟩
theorem But.trans {a b : List Nat} {σ σ1 σ2 : St} (h : But a σ σ1) (k : But b σ1 σ2) : But (a ++ b) σ σ2 :=
  ⟨k.1.trans h.1, fun j hj => by
    rw [List.mem_append, not_or] at hj
    exact (k.2 j hj.2).trans (h.2 j hj.1)⟩
def gD (g : Gm) (t : IT) : TG := fun v σ H Q => ∃ w Δ d Δ', Rep g w H Δ σ ∧ Is g.K g.mg w H d v ∧ tgD t d Δ = some Δ' ∧ ∀ σ', Rep g w H Δ' σ' → But (IT.ix t) σ σ' → Q σ' H
def gDs (g : Gm) (ts : List IT) : TGs := fun vs σ H Q => ∃ w Δ ds Δ', Rep g w H Δ σ ∧ IsL g.K g.mg w H ds vs ∧ tgDs ts ds Δ = some Δ' ∧ ∀ σ', Rep g w H Δ' σ' → But (IT.ixs ts) σ σ' → Q σ' H
section
variable {Γ : Gam} {g : Gm} {E : XK} {S : Ev} {k : Nat} {X : Cx} {pos : Pos} {a b c e : Expr} {es : List Expr} {ia ib ic : IE} {ja : IA}
theorem pg_mono {e : Expr} {t t' : TG} (h : PG X e t) (i : ∀ v σ H Q, t' v σ H Q → t v σ H Q) : PG X e t' := ⟨fun pins s σ H v u Q I r q => h.run pins s σ H v u Q I r (i v σ H Q q)⟩
theorem pgs_mono {e : List Expr} {t t' : TGs} (h : PGs X e t) (i : ∀ v σ H Q, t' v σ H Q → t v σ H Q) : PGs X e t' := ⟨fun pins s σ H v u Q I r q => h.run pins s σ H v u Q I r (i v σ H Q q)⟩
theorem mg_name {i : Nat} {x : Str} (nd : X.N.Nodup) (hi : X.N[i]? = some x) (hx : Loc X.env.scope x) (hf : X.fn x = true ∨ X.env.scope.names.lookup x = some .local) : PG X (.Name x pos) (gD g (.nm i)) := by
  refine pg_mono (pg_name nd hi hx hf) fun v σ H Q ⟨w, Δ, d, Δ', R, hd, e, q⟩ => ?_
  simp only [tgD] at e
  cases e
  exact q _ ⟨R.h, R.s.set hd⟩ ⟨List.length_set, fun j hj => List.getElem?_set_ne (fun z => hj (by simp [IT.ix, z]))⟩
theorem mgs_nil : PGs X [] (gDs g []) := by
  refine pgs_mono pgs_nil fun v σ H Q ⟨w, Δ, ds, Δ', R, hd, e, q⟩ => ?_
  cases ds with
  | nil =>
    simp only [tgDs] at e
    cases e
    exact ⟨hd.of_nil, q σ R .refl⟩
  | cons d ds => simp [tgDs] at e
theorem mgs_cons {t : IT} {ts : List IT} (h1 : PG X e (gD g t)) (h2 : PGs X es (gDs g ts)) (hs : (assignEach (e :: es) X.env).map (·.2) = assign e X.env :: (assignEach es X.env).map (·.2)) : PGs X (e :: es) (gDs g (t :: ts)) := by
  refine pgs_mono (pgs_cons h1 h2 hs) fun vs σ H Q ⟨w, Δ, ds, Δ', R, hd, e, q⟩ => ?_
  cases ds with
  | nil => simp [tgDs] at e
  | cons d ds =>
    obtain ⟨v, r, rfl, i1, i2⟩ := hd.of_cons
    simp only [tgDs] at e
    split at e
    · rename_i Δ1 h1
      refine ⟨v, r, rfl, w, Δ, d, Δ1, R, i1, h1, fun σ1 R1 B1 => ⟨w, Δ1, ds, Δ', R1, i2, e, fun σ2 R2 B2 => q σ2 R2 (by unfold IT.ixs; exact B1.trans B2)⟩⟩
    · cases e
theorem tgDs_len : ∀ {ts : List IT} {ds : List D} {Δ Δ' : Dl}, tgDs ts ds Δ = some Δ' → ds.length = ts.length
  | [], [], _, _, _ => rfl
  | [], _ :: _, _, _, e => by simp [tgDs] at e
  | _ :: _, [], _, _, e => by simp [tgDs] at e
  | t :: ts, d :: ds, Δ, Δ', e => by
    simp only [tgDs] at e
    split at e
    · rw [List.length_cons, List.length_cons, tgDs_len e]
    · cases e
theorem mg_tup {ts : List IT} {kk : Nat} (hK : X.K = g.K) (hc : X.calm = true) (h : PGs X es (gDs g ts)) (hn : (assignEach es X.env).length = ts.length) (hst : (assignEach es X.env).findIdx? (·.1) = none) : PG X (.Tuple es kk pos) (gD g (.tup ts)) := by
  refine pg_mono (pg_tup hc h hn hst) fun v σ H Q ⟨w, Δ, d, Δ', R, hd, e, q⟩ => ?_
  simp only [tgD] at e
  split at e
  · rename_i ds
    obtain ⟨p, xs, rfl, h1, h2⟩ := hd
    rw [hK]
    exact ⟨p, xs, rfl, h1.sq, by rw [h2.length]; exact tgDs_len e, w, Δ, ds, Δ', R, h2, e, fun σ' R' B => q σ' R' (by unfold IT.ix; exact B)⟩
  · cases e

/-! ### iterators -/
structure ItIs (g : Gm) (w : Wd) (H : Hp) (p : ItD) (J : It) : Prop where
  go : ∀ i w' H', Ext w H w' H' → RepH g w' H' → lockOk p.2 w'.μ = true → i < p.1.length → J.go i H'
  stop : ∀ w' H', Ext w H w' H' → RepH g w' H' → lockOk p.2 w'.μ = true → J.stop p.1.length H'
  yld : ∀ i d w' H' x H2, Ext w H w' H' → RepH g w' H' → lockOk p.2 w'.μ = true → p.1[i]? = some d → J.yld i H' x H2 → Ext w' H' w' H2 ∧ RepH g w' H2 ∧ Is g.K g.mg w' H2 d x
def tI (g : Gm) (E : XK) (m : Dl → Mu → Mo ItD) : TI := fun σ H R => ∃ w Δ, Rep g w H Δ σ ∧ Post g w H E (m Δ w.μ) (ItIs g) R
theorem pi_mono {tg e : Expr} {t t' : TI} (h : PI X tg e t) (i : ∀ σ H Q, t' σ H Q → t σ H Q) : PI X tg e t' := ⟨fun pins s σ H Q I q => h.run pins s σ H Q I (i σ H Q q)⟩
theorem lockOk_app {a b : List (Nat × List D)} {μ : Mu} : lockOk (a ++ b) μ = true ↔ lockOk a μ = true ∧ lockOk b μ = true := by
  unfold lockOk
  rw [List.all_append, Bool.and_eq_true]
/-- a list or a tuple that is walked, as it stands later -/
theorem seq_later {w w' : Wd} {H H' : Hp} {x : D} {v : V} {ds : List D} (R : RepH g w H) (i : Is g.K g.mg w H x v) (e : rdS x w.μ = some ds) (ext : Ext w H w' H') (R' : RepH g w' H') (l : lockOk (lockL x ds) w'.μ = true) :
    ∃ a vs, v = .ref a ∧ (if isTup x then SqT g.K H' a vs else SqL g.K H' a vs) ∧ IsL g.K g.mg w' H' ds vs := by
  have i' := i.ext ext
  cases x with
  | tup ys =>
    cases e
    obtain ⟨a, vs, h1, h2, h3⟩ := i'
    exact ⟨a, vs, h1, h2.sq, h3⟩
  | lst ys =>
    cases e
    obtain ⟨a, vs, h1, h2, h3⟩ := i'
    exact ⟨a, vs, h1, h2.sq, h3⟩
  | scr ns =>
    cases e
    obtain ⟨a, h1, h2⟩ := i'
    exact ⟨a, _, h1, h2.sq, isL_ints ns⟩
  | adr n =>
    obtain ⟨a, h1, h2⟩ := i'
    simp only [lockL, lockOk, List.all_cons, List.all_nil, Bool.and_true] at l
    split at l
    · rename_i zs hz
      have := D.beqL_eq l
      subst this
      obtain ⟨vs, h3, h4⟩ := R'.cell n a _ h2 hz
      exact ⟨a, vs, h1, .of h3, h4⟩
    · cases l
  | _ => simp [rdS, rdL] at e
theorem sqT_inj' {K : PySem.W.Frag} {H : Hp} {a : Addr} {xs : List V} {i : Nat} {x : V} (h : ∀ ys, SqT K H a ys → ys[i]? = some x) (q : SqT K H a xs) : xs[i]? = some x := h xs q
theorem itis_seq {w : Wd} {H : Hp} {x : D} {a : Addr} {ds : List D} (R : RepH g w H) (i : Is g.K g.mg w H x (.ref a)) (e : rdS x w.μ = some ds) : ItIs g w H (ds, lockL x ds) (if isTup x then Itt g.K a else Itl g.K a) := by
  refine ⟨fun j w' H' ext R' l hj => ?_, fun w' H' ext R' l => ?_, fun j d w' H' y H2 ext R' l hj hy => ?_⟩
  · obtain ⟨a', vs, h1, h2, h3⟩ := seq_later R i e ext R' l
    cases h1
    have hj : j < vs.length := by rw [h3.length]; exact hj
    cases ht : isTup x with
    | true => simp only [ht, if_true] at h2 ⊢; exact ⟨vs, vs[j], h2, List.getElem?_eq_getElem hj⟩
    | false => simp only [ht, Bool.false_eq_true, if_false] at h2 ⊢; exact ⟨vs, vs[j], h2, List.getElem?_eq_getElem hj⟩
  · obtain ⟨a', vs, h1, h2, h3⟩ := seq_later R i e ext R' l
    cases h1
    have hl := h3.length
    cases ht : isTup x with
    | true => simp only [ht, if_true] at h2 ⊢; exact ⟨vs, h2, by omega⟩
    | false => simp only [ht, Bool.false_eq_true, if_false] at h2 ⊢; exact ⟨vs, h2, by omega⟩
  · obtain ⟨a', vs, h1, h2, h3⟩ := seq_later R i e ext R' l
    cases h1
    obtain ⟨v, h4, h5⟩ := h3.get hj
    cases ht : isTup x with
    | true =>
      simp only [ht, if_true] at h2 hy
      obtain ⟨rfl, hy⟩ := hy
      have := hy vs h2
      rw [h4] at this; cases this
      exact ⟨Ext.refl _ _, R', h5⟩
    | false =>
      simp only [ht, Bool.false_eq_true, if_false] at h2 hy
      obtain ⟨rfl, hy⟩ := hy
      have := hy vs h2
      rw [h4] at this; cases this
      exact ⟨Ext.refl _ _, R', h5⟩
theorem mi_seq {tg : Expr} (hK : X.K = g.K) (ha : PE X e (tE g E (evE S ia))) : PI X tg e (tI g E (evI S (.seq ia))) := by
  refine ⟨fun pins s σ H R I q => ?_⟩
  obtain ⟨w, Δ, Rp, P⟩ := q
  unfold evI at P
  have q1 : tE g E (evE S ia) σ H fun v H1 => ∃ w1 x ds a, v = .ref a ∧ RepH g w1 H1 ∧ Is g.K g.mg w1 H1 x (.ref a) ∧ rdS x w1.μ = some ds ∧ R (if isTup x then Itt g.K a else Itl g.K a) H1 :=
    tE_bind Rp P fun w1 H1 x v e1 R1 _ i1 P1 => by
      split at P1
      · rename_i ds hds
        obtain ⟨a, vs, rfl, _, _⟩ := rdS_is R1.h i1 hds
        exact ⟨w1, x, ds, a, rfl, R1.h, i1, hds, P1.here R1.h (itis_seq R1.h i1 hds)⟩
      · exact P1.none.elim
  refine thn (ha.run pins s σ H _ I q1) fun u s1 ⟨v, H1, I1, r1, w1, x, ds, a, e0, R1, i1, hds, q2⟩ => ?_
  subst e0
  cases r1
  obtain ⟨a', vs, h1, h2, h3⟩ := seq_later R1 i1 hds (Ext.refl _ _) R1 (by
    cases x <;> simp [lockL, lockOk]
    rename_i n
    simp only [rdS, rdL] at hds
    cases hc : w1.μ[n]? with
    | none => simp [hc] at hds
    | some c =>
      cases c with
      | lst zs => simp [hc] at hds; subst hds; exact D.beqL_self _
      | ins c fs => simp [hc] at hds
      | froz => simp [hc] at hds)
  cases h1
  rw [← hK] at h2
  have fr : ∀ b, b ∈ [s1.heap.objs.size] → FpOk X pins H1 b := fun b hb => by
    have e : b = s1.heap.objs.size := by simpa using hb
    subst e
    exact I1.fpOk (Nat.le_refl _) (I1.hok.fresh (Nat.le_refl _))
  cases ht : isTup x with
  | true =>
    simp only [ht, if_true] at h2 q2
    obtain ⟨its, rv, p, hz⟩ := I1.tuple h2
    refine wpAny_pyIter_tuple (show s1.heap.IsTuple a its.toArray from p) ?_
    rw [← hK] at q2
    exact ⟨s1.heap.objs.size, [s1.heap.objs.size], _, _, H1, rfl, I1.kept (t' := s1.toks) fun b o e => Heap.get?_push_of_some _ e, turn_tuple a _, ⟨_, Heap.get?_push_size _ rfl, rfl, rfl⟩, fr, q2⟩
  | false =>
    simp only [ht, Bool.false_eq_true, if_false] at h2 q2
    obtain ⟨its, rv, p, hz⟩ := I1.list h2
    refine wpAny_pyIter_list p.isList ?_
    rw [← hK] at q2
    exact ⟨s1.heap.objs.size, [s1.heap.objs.size], _, _, H1, rfl, I1.kept (t' := s1.toks) fun b o e => Heap.get?_push_of_some _ e, turn_list a _, ⟨_, Heap.get?_push_size _ rfl, rfl, rfl⟩, fr, q2⟩
theorem rngD_get : ∀ {n : Nat} {lo : Int} {i : Nat} {d : D}, (rngD lo n)[i]? = some d → d = .int (lo + i)
  | 0, _, _, _, h => by simp [rngD] at h
  | n + 1, lo, 0, d, h => by simp [rngD] at h; rw [← h]; simp
  | n + 1, lo, i + 1, d, h => by
    have := rngD_get (n := n) (lo := lo + 1) (i := i) (d := d) (by simpa [rngD] using h)
    rw [this]; congr 1; omega
theorem rngD_length : ∀ (n : Nat) (lo : Int), (rngD lo n).length = n
  | 0, _ => rfl
  | n + 1, lo => by simp [rngD, rngD_length n (lo + 1)]
theorem itis_rng {w : Wd} {H : Hp} (lo : Int) (n : Nat) : ItIs g w H (rngD lo n, []) (Itr lo n) := by
  refine ⟨fun j w' H' ext R' l hj => ?_, fun w' H' ext R' l => ?_, fun j d w' H' y H2 ext R' l hj hy => ?_⟩
  · show j < n
    rw [rngD_length] at hj; exact hj
  · show n ≤ (rngD lo n).length
    rw [rngD_length]; exact Nat.le_refl _
  · obtain ⟨rfl, rfl⟩ := hy
    rw [rngD_get hj]
    exact ⟨Ext.refl _ _, R', rfl⟩
theorem mi_rng1 (G : Gd Γ g S E k X) {tg : Expr} {p : Pos} (hg : Gl X "range") (ha : PE X a (tE g E (evE S ia))) (hs : starEach [a] X.env = [(false, eval a X.env)]) : PI X tg (.Call (.Name "range" p) [a] [] pos) (tI g E (evI S (.rng (.cons ia .nil)))) := by
  have hm : X.mg "range" = none := by rw [G.mg]; exact G.blt _ (by simp)
  refine pi_mono (pi_range1 hg hm (pa_cons ha pa_nil hs) hs) fun σ H R ⟨w, Δ, Rp, P⟩ => ?_
  unfold evI evA evA at P
  simp only [mBind_assoc, mBind_ok] at P
  show tE g E (evE S ia) σ H _
  refine tE_bind Rp P fun w1 H1 x v e1 R1 _ i1 P1 => ?_
  obtain ⟨z, hz, P2⟩ := P1.opt
  obtain ⟨l, hl, rfl⟩ := Option.map_eq_some_iff.mp hz
  cases x <;> simp only [dRng] at hl <;> first | cases hl | skip
  rename_i j
  split at hl
  · rename_i hj
    cases hl
    cases (show v = _ from i1)
    exact ⟨j, rfl, hj.1, hj.2, P2.here R1.h (itis_rng 0 j.toNat)⟩
  · cases hl
theorem mi_rng2 (G : Gd Γ g S E k X) {tg : Expr} {p : Pos} (hg : Gl X "range") (ha : PE X a (tE g E (evE S ia))) (hb : PE X b (tE g E (evE S ib))) (hs : starEach [a, b] X.env = [(false, eval a X.env), (false, eval b X.env)]) (hs2 : starEach [b] X.env = [(false, eval b X.env)]) :
    PI X tg (.Call (.Name "range" p) [a, b] [] pos) (tI g E (evI S (.rng (.cons ia (.cons ib .nil))))) := by
  have hm : X.mg "range" = none := by rw [G.mg]; exact G.blt _ (by simp)
  refine pi_mono (pi_range2 hg hm (pa_cons ha (pa_cons hb pa_nil hs2) (by rw [hs, hs2])) hs hs2) fun σ H R ⟨w, Δ, Rp, P⟩ => ?_
  unfold evI evA evA evA at P
  simp only [mBind_assoc, mBind_ok] at P
  show tE g E (evE S ia) σ H fun x H1 => tE g E (evE S ib) σ H1 _
  refine tE_bind Rp P fun w1 H1 x v e1 R1 _ i1 P1 => ?_
  refine tE_bind R1 P1 fun w2 H2 y u e2 R2 _ i2 P2 => ?_
  obtain ⟨z, hz, P3⟩ := P2.opt
  obtain ⟨l, hl, rfl⟩ := Option.map_eq_some_iff.mp hz
  cases x <;> cases y <;> simp only [dRng] at hl <;> first | cases hl | skip
  rename_i i j
  split at hl
  · rename_i hj
    cases hl
    cases (show v = _ from i1)
    cases (show u = _ from i2)
    exact ⟨i, j, rfl, hj, P3.here R2.h (itis_rng i (j - i).toNat)⟩
  · cases hl
/-! ### enumerate, zip -/
theorem enumD_get : ∀ {ds : List D} {k i : Nat} {d : D}, (enumD k ds)[i]? = some d → ∃ x, ds[i]? = some x ∧ d = .tup [.int ((k + i : Nat) : Int), x]
  | [], _, _, _, h => by simp [enumD] at h
  | x :: ds, k, 0, d, h => by simp [enumD] at h; exact ⟨x, rfl, by rw [← h]; simp⟩
  | x :: ds, k, i + 1, d, h => by
    obtain ⟨y, h1, h2⟩ := enumD_get (ds := ds) (k := k + 1) (i := i) (d := d) (by simpa [enumD] using h)
    exact ⟨y, by simpa using h1, by rw [h2]; congr 3; omega⟩
theorem enumD_length : ∀ (ds : List D) (k : Nat), (enumD k ds).length = ds.length
  | [], _ => rfl
  | _ :: ds, k => by simp [enumD, enumD_length ds (k + 1)]
theorem pair_is {w : Wd} {H : Hp} {T : Addr} {x y : D} {v u : V} (R : RepH g w H) (hT : H T = none) (hx : Is g.K g.mg w H x v) (hy : Is g.K g.mg w H y u) : Ext w H w (upd H T (.tup [v, u])) ∧ RepH g w (upd H T (.tup [v, u])) ∧ Is g.K g.mg w (upd H T (.tup [v, u])) (.tup [x, y]) (.ref T) :=
  ⟨Ext.new R hT, R.new hT, is_tup_new R hT (IsL.cons hx (IsL.cons hy IsL.nil))⟩
theorem itis_enm {w : Wd} {H : Hp} {x : D} {a : Addr} {ds : List D} (R : RepH g w H) (i : Is g.K g.mg w H x (.ref a)) (e : rdS x w.μ = some ds) : ItIs g w H (enumD 0 ds, lockL x ds) (if isTup x then IteT g.K a else Ite g.K a) := by
  refine ⟨fun j w' H' ext R' l hj => ?_, fun w' H' ext R' l => ?_, fun j d w' H' y H2 ext R' l hj hy => ?_⟩
  · obtain ⟨a', vs, h1, h2, h3⟩ := seq_later R i e ext R' l
    cases h1
    have hj : j < vs.length := by rw [h3.length]; rw [enumD_length] at hj; exact hj
    cases ht : isTup x with
    | true => simp only [ht, if_true] at h2 ⊢; exact ⟨vs, vs[j], h2, List.getElem?_eq_getElem hj⟩
    | false => simp only [ht, Bool.false_eq_true, if_false] at h2 ⊢; exact ⟨vs, vs[j], h2, List.getElem?_eq_getElem hj⟩
  · obtain ⟨a', vs, h1, h2, h3⟩ := seq_later R i e ext R' l
    cases h1
    have hl := h3.length
    have hz := enumD_length ds 0
    cases ht : isTup x with
    | true => simp only [ht, if_true] at h2 ⊢; exact ⟨vs, h2, by show _ ≤ List.length _; omega⟩
    | false => simp only [ht, Bool.false_eq_true, if_false] at h2 ⊢; exact ⟨vs, h2, by show _ ≤ List.length _; omega⟩
  · obtain ⟨a', vs, h1, h2, h3⟩ := seq_later R i e ext R' l
    cases h1
    obtain ⟨z, hz, rfl⟩ := enumD_get hj
    obtain ⟨v, h4, h5⟩ := h3.get hz
    have fin : ∀ {T : Addr} {u : V}, H' T = none → u = v → H2 = upd H' T (.tup [.int (j : Nat), u]) → y = .ref T → Ext w' H' w' H2 ∧ RepH g w' H2 ∧ Is g.K g.mg w' H2 (.tup [.int ((0 + j : Nat) : Int), z]) y := fun {T u} hT hu hH ez => by
      subst hu hH ez
      rw [Nat.zero_add]
      exact pair_is R' hT rfl h5
    cases ht : isTup x with
    | true =>
      simp only [ht, if_true] at h2 hy
      obtain ⟨T, u, ey, hT, hH, hu⟩ := hy
      have := hu vs h2
      rw [h4] at this
      exact fin hT (Option.some.inj this).symm hH ey
    | false =>
      simp only [ht, Bool.false_eq_true, if_false] at h2 hy
      obtain ⟨T, u, ey, hT, hH, hu⟩ := hy
      have := hu vs h2
      rw [h4] at this
      exact fin hT (Option.some.inj this).symm hH ey
theorem seq_now {w : Wd} {H : Hp} {x : D} {v : V} {ds : List D} (R : RepH g w H) (i : Is g.K g.mg w H x v) (e : rdS x w.μ = some ds) : lockOk (lockL x ds) w.μ = true ∧ ∃ a vs, v = .ref a ∧ (if isTup x then SqT g.K H a vs else SqL g.K H a vs) ∧ IsL g.K g.mg w H ds vs := by
  have hl : lockOk (lockL x ds) w.μ = true := by
    cases x <;> simp [lockL, lockOk]
    rename_i n
    simp only [rdS, rdL] at e
    cases hc : w.μ[n]? with
    | none => simp [hc] at e
    | some c =>
      cases c with
      | lst zs => simp [hc] at e; subst e; exact D.beqL_self _
      | ins c fs => simp [hc] at e
      | froz => simp [hc] at e
  exact ⟨hl, seq_later R i e (Ext.refl _ _) R hl⟩
theorem mi_enm (G : Gd Γ g S E k X) {elts : List Expr} {kk : Nat} {tpos p : Pos} (hg : Gl X "enumerate") (ha : PE X a (tE g E (evE S ia))) (hs : starEach [a] X.env = [(false, eval a X.env)]) : PI X (.Tuple elts kk tpos) (.Call (.Name "enumerate" p) [a] [] pos) (tI g E (evI S (.enm ia))) := by
  have hm : X.mg "enumerate" = none := by rw [G.mg]; exact G.blt _ (by simp)
  refine pi_mono (pi_enumT hg hm (pa_cons ha pa_nil hs) hs) fun σ H R ⟨w, Δ, Rp, P⟩ => ?_
  unfold evI at P
  show tE g E (evE S ia) σ H _
  refine tE_bind Rp P fun w1 H1 x v e1 R1 _ i1 P1 => ?_
  split at P1
  · rename_i ds hds
    obtain ⟨_, a', vs, rfl, h2, h3⟩ := seq_now R1.h i1 hds
    have q := P1.here R1.h (itis_enm R1.h i1 hds)
    rw [G.K]
    cases ht : isTup x with
    | true => simp only [ht, if_true] at h2 q; exact ⟨a', vs, rfl, .inr ⟨h2, q⟩⟩
    | false => simp only [ht, Bool.false_eq_true, if_false] at h2 q; exact ⟨a', vs, rfl, .inl ⟨h2, q⟩⟩
  · exact P1.none.elim
theorem zipD_get : ∀ {ds es : List D} {i : Nat} {d : D}, (zipD ds es)[i]? = some d → ∃ x y, ds[i]? = some x ∧ es[i]? = some y ∧ d = .tup [x, y]
  | [], _, _, _, h => by simp [zipD] at h
  | _ :: _, [], _, _, h => by simp [zipD] at h
  | x :: ds, y :: es, 0, d, h => by simp [zipD] at h; exact ⟨x, y, rfl, rfl, h.symm⟩
  | x :: ds, y :: es, i + 1, d, h => by
    obtain ⟨a, b, h1, h2, h3⟩ := zipD_get (ds := ds) (es := es) (i := i) (d := d) (by simpa [zipD] using h)
    exact ⟨a, b, by simpa using h1, by simpa using h2, h3⟩
theorem zipD_length : ∀ (ds es : List D), (zipD ds es).length = min ds.length es.length
  | [], _ => by simp [zipD]
  | _ :: _, [] => by simp [zipD]
  | _ :: ds, _ :: es => by simp only [zipD, List.length_cons, zipD_length ds es]; omega
theorem itis_zip {w : Wd} {H : Hp} {x y : D} {a b : Addr} {ds es : List D} (R : RepH g w H) (i : Is g.K g.mg w H x (.ref a)) (i' : Is g.K g.mg w H y (.ref b)) (e : rdS x w.μ = some ds) (e' : rdS y w.μ = some es) (ht : isTup x = isTup y) :
    ItIs g w H (zipD ds es, lockL x ds ++ lockL y es) (if isTup x then RZ.ItzT g.K a b else Itz g.K a b) := by
  refine ⟨fun j w' H' ext R' l hj => ?_, fun w' H' ext R' l => ?_, fun j d w' H' z H2 ext R' l hj hy => ?_⟩
  all_goals
    obtain ⟨l1, l2⟩ := lockOk_app.mp l
    obtain ⟨a', vs, h1, h2, h3⟩ := seq_later R i e ext R' l1
    obtain ⟨b', us, k1, k2, k3⟩ := seq_later R i' e' ext R' l2
    cases h1
    cases k1
    rw [← ht] at k2
  · rw [zipD_length] at hj
    have hj1 : j < vs.length := by rw [h3.length]; omega
    have hj2 : j < us.length := by rw [k3.length]; omega
    cases hx : isTup x with
    | true => simp only [hx, if_true] at h2 k2 ⊢; exact ⟨vs, us, vs[j], us[j], h2, k2, List.getElem?_eq_getElem hj1, List.getElem?_eq_getElem hj2⟩
    | false => simp only [hx, Bool.false_eq_true, if_false] at h2 k2 ⊢; exact ⟨vs, us, vs[j], us[j], h2, k2, List.getElem?_eq_getElem hj1, List.getElem?_eq_getElem hj2⟩
  · have hl := h3.length
    have hl2 := k3.length
    have hz := zipD_length ds es
    cases hx : isTup x with
    | true => simp only [hx, if_true] at h2 k2 ⊢; exact ⟨vs, us, h2, k2, by show _ ≤ List.length _ ∨ _ ≤ List.length _; omega⟩
    | false => simp only [hx, Bool.false_eq_true, if_false] at h2 k2 ⊢; exact ⟨vs, us, h2, k2, by show _ ≤ List.length _ ∨ _ ≤ List.length _; omega⟩
  · obtain ⟨d1, d2, hd1, hd2, rfl⟩ := zipD_get hj
    obtain ⟨v, h4, h5⟩ := h3.get hd1
    obtain ⟨u, k4, k5⟩ := k3.get hd2
    have fin : ∀ {T : Addr} {v' u' : V}, H' T = none → v' = v → u' = u → H2 = upd H' T (.tup [v', u']) → z = .ref T → Ext w' H' w' H2 ∧ RepH g w' H2 ∧ Is g.K g.mg w' H2 (.tup [d1, d2]) z := fun {T v' u'} hT hv hu hH hz => by
      subst hv hu hH hz
      exact pair_is R' hT h5 k5
    cases hx : isTup x with
    | true =>
      simp only [hx, if_true] at h2 k2 hy
      obtain ⟨T, v', u', ey, hT, hH, hv, hu⟩ := hy
      have e1 := hv vs h2
      have e2 := hu us k2
      rw [h4] at e1; rw [k4] at e2
      exact fin hT (Option.some.inj e1).symm (Option.some.inj e2).symm hH ey
    | false =>
      simp only [hx, Bool.false_eq_true, if_false] at h2 k2 hy
      obtain ⟨T, v', u', ey, hT, hH, hv, hu⟩ := hy
      have e1 := hv vs h2
      have e2 := hu us k2
      rw [h4] at e1; rw [k4] at e2
      exact fin hT (Option.some.inj e1).symm (Option.some.inj e2).symm hH ey
theorem mi_zip (G : Gd Γ g S E k X) {elts : List Expr} {kk : Nat} {tpos p : Pos} (hg : Gl X "zip") (ha : PE X a (tE g E (evE S ia))) (hb : PE X b (tE g E (evE S ib))) (hs : starEach [a, b] X.env = (false, eval a X.env) :: starEach [b] X.env) (hs2 : starEach [b] X.env = (false, eval b X.env) :: starEach [] X.env) :
    PI X (.Tuple elts kk tpos) (.Call (.Name "zip" p) [a, b] [] pos) (tI g E (evI S (.zip ia ib))) := by
  have hm : X.mg "zip" = none := by rw [G.mg]; exact G.blt _ (by simp)
  refine pi_mono (RZ.pi_zipA hg hm (pa_cons ha (pa_cons hb pa_nil hs2) hs) hs (by rw [hs2]; rfl)) fun σ H R ⟨w, Δ, Rp, P⟩ => ?_
  unfold evI at P
  show tE g E (evE S ia) σ H fun x H1 => tE g E (evE S ib) σ H1 _
  refine tE_bind Rp P fun w1 H1 x v e1 R1 _ i1 P1 => ?_
  refine tE_bind R1 P1 fun w2 H2 y u e2 R2 _ i2 P2 => ?_
  split at P2
  · rename_i ds es hds hes
    split at P2
    · rename_i ht
      have i1 := i1.ext e2
      obtain ⟨_, a', vs, rfl, h2, h3⟩ := seq_now R2.h i1 hds
      obtain ⟨_, b', us, rfl, k2, k3⟩ := seq_now R2.h i2 hes
      have q := P2.here R2.h (itis_zip R2.h i1 i2 hds hes ht)
      rw [G.K]
      rw [← ht] at k2
      cases hx : isTup x with
      | true => simp only [hx, if_true] at h2 k2 q; exact ⟨a', b', vs, us, rfl, .inr ⟨h2, k2, q⟩⟩
      | false => simp only [hx, Bool.false_eq_true, if_false] at h2 k2 q; exact ⟨a', b', vs, us, rfl, .inl ⟨h2, k2, q⟩⟩
    · exact P2.none.elim
  · exact P2.none.elim
end
end M

set_option Elab.async false
set_option linter.all false
set_option maxRecDepth 100000
/-! N12: statements. -/
namespace M
open PySem PySem.Spec L2
section
variable {Γ : Gam} {g : Gm} {E : XK} {S : Ev} {k : Nat} {X : Cx} {pos : Pos} {a b c e : Expr} {es : List Expr} {ia ib ic : IE} {ja : IA} {jc : IC} {st : Stmt} {p q : List Stmt} {is js : IS}
/-- a statement's part, then on -/
theorem tS_bind {m : DS} {f : (Fl × Dl) → Mu → Mo (Fl × Dl)} {D D' : Ends} {w : Wd} {H : Hp} {Δ : Dl} {σ : St} (R : Rep g w H Δ σ) (P : Post g w H E (mBind (m Δ w.μ) f) (IsG g) (gQ D))
    (k : ∀ w1 H1 r o, Ext w H w1 H1 → RepH g w1 H1 → w1.L = w.L → IsG g w1 H1 r o → Post g w1 H1 E (f r w1.μ) (IsG g) (gQ D) → gQ D' o H1) : tS g E m D' σ H :=
  ⟨w, Δ, R, Post.bind P fun w1 H1 r o e R1 hL i P1 => k w1 H1 r o e R1 hL i P1⟩
theorem ms_nil : PSs X [] (tS g E (evS S .skip)) := pss_mono pss_nil fun D σ H ⟨w, Δ, R, P⟩ => by
  unfold evS at P
  exact P.here (b := Go.nx σ) R.h R.s
theorem ms_cons (h1 : PS X st (tS g E (evS S is))) (h2 : PSs X p (tS g E (evS S js))) : PSs X (st :: p) (tS g E (evS S (.seq is js))) := by
  refine pss_mono (pss_cons h1 h2) fun D σ H ⟨w, Δ, R, P⟩ => ?_
  unfold evS at P
  refine tS_bind R P fun w1 H1 r o e1 R1 _ i P1 => ?_
  obtain ⟨f, Δ1⟩ := r
  cases o with
  | nx σ1 =>
    cases f <;> first | exact i.elim | skip
    exact ⟨w1, Δ1, ⟨R1, i⟩, P1⟩
  | rt v =>
    cases f <;> first | exact i.elim | skip
    exact P1.here (b := Go.rt v) R1 i
  | bk σ1 =>
    cases f <;> first | exact i.elim | skip
    exact P1.here (b := Go.bk σ1) R1 i
  | ct σ1 =>
    cases f <;> first | exact i.elim | skip
    exact P1.here (b := Go.ct σ1) R1 i
theorem ms_pass : PS X (.Pass pos) (tS g E (evS S .skip)) := ps_mono ps_pass fun D σ H ⟨w, Δ, R, P⟩ => by
  unfold evS at P
  exact P.here (b := Go.nx σ) R.h R.s
theorem ms_doc {x : Str} {j : Nat} {pos' : Pos} : PS X (.Expr (.Constant (.str x) j pos) pos') (tS g E (evS S .skip)) := ps_mono ps_doc fun D σ H ⟨w, Δ, R, P⟩ => by
  unfold evS at P
  exact P.here (b := Go.nx σ) R.h R.s
theorem ms_brk : PS X (.Break pos) (tS g E (evS S .brk)) := ps_mono ps_break fun D σ H ⟨w, Δ, R, P⟩ => by
  unfold evS at P
  exact P.here (b := Go.bk σ) R.h R.s
theorem ms_cnt : PS X (.Continue pos) (tS g E (evS S .cnt)) := ps_mono ps_continue fun D σ H ⟨w, Δ, R, P⟩ => by
  unfold evS at P
  exact P.here (b := Go.ct σ) R.h R.s
theorem ms_ex (h : PE X e (tE g E (evE S ia))) (hs : swapsWith e none pos.line X.env = pure false) : PS X (.Expr e pos) (tS g E (evS S (.ex ia))) := by
  refine ps_mono (ps_expr h hs) fun D σ H ⟨w, Δ, R, P⟩ => ?_
  unfold evS at P
  refine tE_bind R P fun w1 H1 x v e1 R1 _ i1 P1 => ?_
  exact P1.here (b := Go.nx σ) R1.h R1.s
theorem ms_ret (h : PE X e (tE g E (evE S ia))) : PS X (.Return (some e) pos) (tS g E (evS S (.ret ia))) := by
  refine ps_mono (ps_ret h) fun D σ H ⟨w, Δ, R, P⟩ => ?_
  unfold evS at P
  refine tE_bind R P fun w1 H1 x v e1 R1 _ i1 P1 => ?_
  exact P1.here (b := Go.rt v) R1.h i1
theorem ms_retN : PS X (.Return none pos) (tS g E (evS S (.ret (.cst .non)))) := by
  refine ps_mono ps_retN fun D σ H ⟨w, Δ, R, P⟩ => ?_
  unfold evS evE at P
  exact P.here (b := Go.rt .non) R.h rfl
theorem ms_ite (hc : PT X c (tT g E (evC S jc))) (ha : PSs X p (tS g E (evS S is))) (hb : PSs X q (tS g E (evS S js))) : PS X (.If c p q pos) (tS g E (evS S (.ite jc is js))) := by
  refine ps_mono (ps_if hc ha hb) fun D σ H ⟨w, Δ, R, P⟩ => ?_
  unfold evS at P
  refine tT_bind R P fun w1 H1 kk e1 R1 _ P1 => ?_
  cases kk with
  | true => exact ⟨w1, Δ, R1, P1⟩
  | false => exact ⟨w1, Δ, R1, P1⟩
theorem ms_asg {tg : Expr} {t : IT} (he : PE X e (tE g E (evE S ia))) (hg : PG X tg (gD g t)) (hs : swapsWithSole [tg] e pos.line X.env = pure false) (hw : swappedStores [tg] e X.env = pure none) (h1 : (assignEach [tg] X.env).map (·.2) = [assign tg X.env]) :
    PS X (.Assign [tg] e pos) (tS g E (evS S (.asg t ia))) := by
  refine ps_mono (ps_asg he hg hs hw h1) fun D σ H ⟨w, Δ, R, P⟩ => ?_
  unfold evS at P
  refine tE_bind R P fun w1 H1 x v e1 R1 _ i1 P1 => ?_
  obtain ⟨z, hz, P2⟩ := P1.opt
  obtain ⟨Δ', hΔ, rfl⟩ := Option.map_eq_some_iff.mp hz
  exact ⟨w1, Δ, x, Δ', R1, i1, hΔ, fun σ' R' _ => P2.here (b := Go.nx σ') R'.h R'.s⟩
/-! ### parallel stores -/
theorem ms_par2 {i j : Nat} {x y : Str} {px py pt : Pos} {kt k2 pt2} (hc : X.calm = true) (hN : X.N.Nodup) (hi : X.N[i]? = some x) (hj : X.N[j]? = some y) (hij : i ≠ j)
    (hx : X.env.scope.names.lookup x = some .local) (hy : X.env.scope.names.lookup y = some .local) (ha : PA X [a, b] (tA g E (evA S ja)))
    (hw : swappedStores [.Tuple [.Name x px, .Name y py] kt pt] (.Tuple [a, b] k2 pt2) X.env = pure (some [x, y]))
    (hs : swapsWithSole [.Tuple [.Name x px, .Name y py] kt pt] (.Tuple [a, b] k2 pt2) pos.line X.env = pure false) :
    PS X (.Assign [.Tuple [.Name x px, .Name y py] kt pt] (.Tuple [a, b] k2 pt2) pos) (tS g E (evS S (.par [i, j] ja))) := by
  refine ps_mono (ps_par hc hN hi hj hij hx hy ha hw hs) fun D σ H ⟨w, Δ, R, P⟩ => ?_
  unfold evS at P
  refine tA_bind R P fun w1 H1 xs vs e1 R1 _ i1 P1 => ?_
  obtain ⟨z, hz, P2⟩ := P1.opt
  obtain ⟨Δ', hΔ, rfl⟩ := Option.map_eq_some_iff.mp hz
  match xs, hΔ, i1 with
  | [d1, d2], hΔ, i1 =>
    simp only [setMany, Option.some.injEq] at hΔ
    subst hΔ
    obtain ⟨v, u, rfl, h1, h2⟩ := isL2 i1
    exact ⟨v, u, rfl, P2.here (b := Go.nx _) R1.h ((R1.s.set h1).set h2)⟩
  | [], hΔ, _ => simp [setMany] at hΔ
  | [_], hΔ, _ => simp [setMany] at hΔ
  | _ :: _ :: _ :: _, hΔ, _ => simp [setMany] at hΔ
theorem ms_par3 {i j l : Nat} {x y z : Str} {px py pz pt : Pos} {kt k2 pt2} (hc : X.calm = true) (hN : X.N.Nodup) (hi : X.N[i]? = some x) (hj : X.N[j]? = some y) (hl : X.N[l]? = some z) (hij : i ≠ j) (hil : i ≠ l) (hjl : j ≠ l)
    (hx : X.env.scope.names.lookup x = some .local) (hy : X.env.scope.names.lookup y = some .local) (hz : X.env.scope.names.lookup z = some .local) (ha : PA X [a, b, c] (tA g E (evA S ja)))
    (hw : swappedStores [.Tuple [.Name x px, .Name y py, .Name z pz] kt pt] (.Tuple [a, b, c] k2 pt2) X.env = pure (some [x, y, z]))
    (hs : swapsWithSole [.Tuple [.Name x px, .Name y py, .Name z pz] kt pt] (.Tuple [a, b, c] k2 pt2) pos.line X.env = pure false) :
    PS X (.Assign [.Tuple [.Name x px, .Name y py, .Name z pz] kt pt] (.Tuple [a, b, c] k2 pt2) pos) (tS g E (evS S (.par [i, j, l] ja))) := by
  refine ps_mono (ps_par3 hc hN hi hj hl hij hil hjl hx hy hz ha hw hs) fun D σ H ⟨w, Δ, R, P⟩ => ?_
  unfold evS at P
  refine tA_bind R P fun w1 H1 xs vs e1 R1 _ i1 P1 => ?_
  obtain ⟨zz, hzz, P2⟩ := P1.opt
  obtain ⟨Δ', hΔ, rfl⟩ := Option.map_eq_some_iff.mp hzz
  match xs, hΔ, i1 with
  | [d1, d2, d3], hΔ, i1 =>
    simp only [setMany, Option.some.injEq] at hΔ
    subst hΔ
    obtain ⟨v, r, rfl, h1, h2⟩ := i1.of_cons
    obtain ⟨u, z3, rfl, h3, h4⟩ := isL2 h2
    exact ⟨v, u, z3, rfl, P2.here (b := Go.nx _) R1.h (((R1.s.set h1).set h3).set h4)⟩
  | [], hΔ, _ => simp [setMany] at hΔ
  | [_], hΔ, _ => simp [setMany] at hΔ
  | [_, _], hΔ, _ => simp [setMany] at hΔ
  | _ :: _ :: _ :: _ :: _, hΔ, _ => simp [setMany] at hΔ
/-! ### stores in lists, in instances -/
theorem ms_setx {tpos : Pos} (ho : PE X a (tE g E (evE S ia))) (hi : PE X b (tE g E (evE S ib))) (he : PE X e (tE g E (evE S ic)))
    (ha : ∀ v, assign (.Subscript a b tpos) X.env v = (do
      let ov ← holding [v] (eval a X.env)
      let iv ← holding [v, ov] (eval b X.env)
      standAt tpos
      holding [v, ov, iv] (setItem ov iv v)
      release [v, ov, iv] []))
    (hs : swapsWithSole [.Subscript a b tpos] e pos.line X.env = pure false) (hw : swappedStores [.Subscript a b tpos] e X.env = pure none) (h1 : (assignEach [.Subscript a b tpos] X.env).map (·.2) = [assign (.Subscript a b tpos) X.env]) :
    PS X (.Assign [.Subscript a b tpos] e pos) (tS g E (evS S (.setx ia ib ic))) := by
  refine ps_mono (ps_asg he (pg_sub ho hi (setx_ok (g := g)) ha) hs hw h1) fun D σ H ⟨w, Δ, R, P⟩ => ?_
  unfold evS at P
  refine tE_bind R P fun w1 H1 y v e1 R1 _ i1 P1 => ?_
  refine tE_bind R1 P1 fun w2 H2 x o e2 R2 _ i2 P2 => ?_
  refine tE_bind R2 P2 fun w3 H3 kk u e3 R3 _ i3 P3 => ?_
  split at P3
  · rename_i μ4 h4
    refine ⟨w3, x, kk, y, μ4, R3.h, i2.ext e3, i3, (i1.ext e2).ext e3, h4, fun H' e4 R4 => ?_⟩
    exact Post.ok (A' := w3.A) (b := Go.nx σ) P3 e4 R4 (R3.s.ext e4)
  · exact P3.none.elim
theorem putD_is {w : Wd} {H : Hp} {f : Str} {d : D} {v : V} (h : Is g.K g.mg w H d v) : ∀ {fs : List (Str × D)} {xs : List (Str × V)}, IsF g.K g.mg w H fs xs → IsF g.K g.mg w H (putD f d fs) (putF f v xs)
  | [], xs, i => by rw [i.of_nil]; exact IsF.cons h IsF.nil
  | (n, d') :: fs, xs, i => by
    obtain ⟨u, r, rfl, h1, h2⟩ := i.of_cons
    unfold putD putF
    by_cases e : n = f
    · rw [if_pos e, if_pos e]; exact IsF.cons h h2
    · rw [if_neg e, if_neg e]; exact IsF.cons h1 (putD_is h h2)
/-- a field is written -/
theorem setf_is (O : ClsOk g S) {w : Wd} {H : Hp} {x y : D} {o v : V} {f : Str} {μ' : Mu} (R : RepH g w H) (hx : Is g.K g.mg w H x o) (hy : Is g.K g.mg w H y v) (e : dSetF S x f y w.μ = some μ') :
    ∃ p C dx xs, o = .ref p ∧ H p = some (.ins C dx xs) ∧ Cls g.K C ∧ NoAttr g.K C f ∧ xs.length < 1000 ∧ Ext w H ⟨w.A, μ', w.L⟩ (upd H p (.ins C dx (putF f v xs))) ∧ RepH g ⟨w.A, μ', w.L⟩ (upd H p (.ins C dx (putF f v xs))) := by
  unfold dSetF at e
  split at e
  · rename_i n
    split at e
    · rename_i cn fs hc
      split at e
      · rename_i ci hci
        split at e
        · rename_i hf
          cases e
          obtain ⟨p, rfl, hA⟩ := hx
          obtain ⟨C, dx, xs, h1, h2, h3⟩ := R.cell n p _ hA hc
          obtain ⟨C', F⟩ := O.cls cn ci hci
          obtain rfl := mgC h1 F.at_
          have nf : (Cell.ins cn fs) ≠ .froz := by intro z; cases z
          have ext : Ext w H (w.put n (.ins cn (putD f y fs))) (upd H p (.ins C dx (putF f v xs))) := Ext.put R hA hc nf
          have R1 : RepH g (w.put n (.ins cn (putD f y fs))) (upd H p (.ins C dx (putF f v xs))) := R.put hA hc nf (fun ps z => by cases z) (fun φ z => by rw [h2] at z; cases z) ⟨C, dx, _, h1, upd_same, putD_is (hy.ext ext) (h3.ext ext)⟩
          exact ⟨p, C, dx, xs, rfl, h2, F.cls, F.flds f hf.1, by rw [h3.length]; exact hf.2, ext, R1⟩
        · cases e
      · cases e
    · cases e
  · cases e
theorem ms_setf (G : Gd Γ g S E k X) {f : Str} {pos' : Pos} (ho : PE X a (tE g E (evE S ia))) (he : PE X e (tE g E (evE S ib))) (hs : swapsWith e (some (.Attribute a f pos')) pos.line X.env = pure false) :
    PS X (.Assign [.Attribute a f pos'] e pos) (tS g E (evS S (.setf ia f ib))) := by
  refine ps_mono (ps_fld ho he hs) fun D σ H ⟨w, Δ, R, P⟩ => ?_
  unfold evS at P
  refine tE_bind R P fun w1 H1 y v e1 R1 _ i1 P1 => ?_
  refine tE_bind R1 P1 fun w2 H2 x o e2 R2 _ i2 P2 => ?_
  split at P2
  · rename_i μ3 h3
    obtain ⟨p, C, dx, xs, rfl, h4, h5, h6, h7, h8, h9⟩ := setf_is G.bd.cls R2.h i2 (i1.ext e2) h3
    rw [G.K]
    exact ⟨p, C, dx, xs, rfl, h4, h5, h6, h7, Post.ok (A' := w2.A) (b := Go.nx σ) P2 h8 h9 (R2.s.ext h8)⟩
  · exact P2.none.elim
/-! ### op= -/
def rIp (o : Ob) : V → V → Hp → VK → Prop := fun x y H Q => ∃ i j z, x = .int i ∧ y = .int j ∧ iBin o i j = some z ∧ Q (.int z) H
theorem ip_ok {o : Ob} (ho : augOk o = true) : PIp X (opOf o) (rIp o) := by
  intro pins s σ H x y v u Q I rx ry q
  obtain ⟨i, j, z, rfl, rfl, hz, q⟩ := q
  exact iBin_iop hz ho pins s σ H _ _ v u Q I rx ry ⟨rfl, rfl, q⟩
theorem ms_aug {i : Nat} {x : Str} {o : Ob} {pos' : Pos} (ho : augOk o = true) (hN : X.N.Nodup) (hi : X.N[i]? = some x) (hx : Loc X.env.scope x) (he : PE X e (tE g E (evE S ia))) (hf : X.fn x = true ∨ X.env.scope.names.lookup x = some .local) :
    PS X (.AugAssign (.Name x pos') (opOf o) e pos) (tS g E (evS S (.aug i o ia))) := by
  refine ps_mono (ps_aug hN hi hx he (ip_ok ho) hf) fun D σ H ⟨w, Δ, R, P⟩ => ?_
  unfold evS at P
  split at P
  · rename_i n hd
    obtain ⟨v, h1, h2⟩ := R.s.2 i _ hd
    cases (show v = _ from h2)
    refine ⟨_, h1, tE_bind R P fun w1 H1 y u e1 R1 _ i1 P1 => ?_⟩
    split at P1
    · rename_i m
      split at P1
      · rename_i z hz
        exact ⟨n, m, z, rfl, i1, hz, P1.here (b := Go.nx _) R1.h (R1.s.set (d := .int z) rfl)⟩
      · exact P1.none.elim
    · exact P1.none.elim
  · exact P.none.elim
theorem pget_ok (hK : X.K = g.K) : PGet X (fun o i H Q => ∃ w x kk n, RepH g w H ∧ Is g.K g.mg w H x o ∧ Is g.K g.mg w H kk i ∧ (∃ xs, rdL x w.μ = some xs) ∧ dIx x kk w.μ = some (.int n) ∧ Q (.int n) H) := by
  intro pins s σ H o i ov iv Q I ro ri q
  obtain ⟨w, x, kk, n, R, hx, hk, ⟨xs, hxs⟩, e, q⟩ := q
  obtain ⟨p, vs, rfl, h1, h2⟩ := rdL_is R hx hxs
  cases ro
  have hs : rdS x w.μ = some xs := by cases x <;> first | exact hxs | cases hxs
  unfold dIx at e
  split at e
  · rename_i kk
    have e : atI xs kk = some (.int n) := by
      split at e
      · cases hxs
      · cases hxs
      · rw [hs] at e; exact e
    cases (show i = _ from hk)
    obtain ⟨t, rfl⟩ := ri
    obtain ⟨v, e1, e2⟩ := atI_is h2 e
    cases (show v = _ from e2)
    have hq : SqL X.K H p vs := .of h1
    obtain ⟨its, r, pl, hz⟩ := I.list hq
    obtain ⟨j, g1, g2, g3, g4, g5⟩ := atI_get e1
    obtain ⟨u, ew, rw'⟩ := r.get g2
    have hl := r.length
    have hn := line63
    have fin : EP X pins σ Q u s := ⟨.int n, H, I, rw', q⟩
    by_cases h0 : 0 ≤ kk
    · have hj : kk.toNat = j := by
        rw [seqIndex_of h0 g5] at g1
        exact Option.some.inj g1
      exact wpAny_getItem_list pl.isList (k := kk) h0 (by omega) (by rw [hj]; simpa using ew) fin
    · have hj : (kk + (its.toArray.size : Int)).toNat = j := by
        rw [seqIndex_neg (by omega) g4] at g1
        rw [List.size_toArray, ← hl]
        exact Option.some.inj g1
      exact wpAny_getItem_list_neg pl.isList (by omega) (by rw [List.size_toArray] <;> omega) (by omega) (by rw [hj]; simpa using ew) fin
  · cases e
end
end M

set_option Elab.async false
set_option linter.all false
set_option maxRecDepth 100000
/-! N13: op= on parts, while, for, raise. -/
namespace M
open PySem PySem.Spec L2
section
variable {Γ : Gam} {g : Gm} {E : XK} {S : Ev} {k : Nat} {X : Cx} {pos : Pos} {a b c e : Expr} {es : List Expr} {ia ib ic : IE} {ja : IA} {jc : IC} {st : Stmt} {p q : List Stmt} {is js : IS}
theorem ms_augx {o : Ob} {tpos : Pos} (hK : X.K = g.K) (ho : augOk o = true) (ha : PE X a (tE g E (evE S ia))) (hb : PE X b (tE g E (evE S ib))) (he : PE X e (tE g E (evE S ic)))
    (hs : ∀ ov iv new, augStore b ov iv new = (do holding [new, ov, iv] (setItem ov iv new); release [new, ov, iv] []; pure .next)) : PS X (.AugAssign (.Subscript a b tpos) (opOf o) e pos) (tS g E (evS S (.augx ia ib o ic))) := by
  refine ps_mono (ps_augS ha hb (pget_ok hK) he (ip_ok ho) (setx_ok (g := g)) hs) fun D σ H ⟨w, Δ, R, P⟩ => ?_
  unfold evS at P
  refine tE_bind R P fun w1 H1 x v e1 R1 _ i1 P1 => ?_
  refine tE_bind R1 P1 fun w2 H2 kk u e2 R2 _ i2 P2 => ?_
  split at P2
  · rename_i xs n hxs hn
    refine ⟨w2, x, kk, n, R2.h, i1.ext e2, i2, ⟨xs, hxs⟩, hn, tE_bind R2 P2 fun w3 H3 y z e3 R3 _ i3 P3 => ?_⟩
    split at P3
    · rename_i m
      split at P3
      · rename_i zz hzz
        refine ⟨n, m, zz, rfl, i3, hzz, ?_⟩
        split at P3
        · rename_i μ4 h4
          exact ⟨w3, x, kk, .int zz, μ4, R3.h, (i1.ext e2).ext e3, i2.ext e3, rfl, h4, fun H' e4 R4 => Post.ok (A' := w3.A) (b := Go.nx σ) P3 e4 R4 (R3.s.ext e4)⟩
        · exact P3.none.elim
      · exact P3.none.elim
    · exact P3.none.elim
  · exact P2.none.elim
theorem ms_augf (G : Gd Γ g S E k X) {o : Ob} {f : Str} {tpos : Pos} (ho : augOk o = true) (ha : PE X a (tE g E (evE S ia))) (he : PE X e (tE g E (evE S ic))) : PS X (.AugAssign (.Attribute a f tpos) (opOf o) e pos) (tS g E (evS S (.augf ia f o ic))) := by
  refine ps_mono (ps_fldaug (rd := rIp o) ha he (fun pins s σ H x y u v Q I rx ry q => ip_ok ho pins s σ H x y u v Q I rx ry q)) fun D σ H ⟨w, Δ, R, P⟩ => ?_
  unfold evS at P
  refine tE_bind R P fun w1 H1 x v e1 R1 _ i1 P1 => ?_
  split at P1
  · rename_i cn fs hx
    obtain ⟨p, C, dx, xs, rfl, h1, h2, h3⟩ := rdI_is R1.h i1 hx
    split at P1
    · rename_i ci n hc hn
      split at P1
      · rename_i hf
        obtain ⟨C', F⟩ := G.bd.cls.cls cn ci hc
        obtain rfl := mgC h1 F.at_
        obtain ⟨v, h4, h5⟩ := h3.look hn
        cases (show v = _ from h5)
        rw [G.K]
        refine ⟨p, C, dx, xs, _, rfl, h2, F.cls, F.flds f hf, h4, tE_bind R1 P1 fun w2 H2 y z e2 R2 _ i2 P2 => ?_⟩
        split at P2
        · rename_i m
          split at P2
          · rename_i zz c' fs' hzz hx'
            split at P2
            · rename_i hcc
              subst hcc
              split at P2
              · rename_i μ3 h6
                refine ⟨n, m, zz, rfl, i2, hzz, ?_⟩
                obtain ⟨p2, C2, dx2, xs2, e0, h7, _, _, h8, h9, h10⟩ := setf_is (y := .int zz) (v := .int zz) G.bd.cls R2.h (i1.ext e2) rfl h6
                cases e0
                obtain ⟨p3, C3, dx3, xs3, e0, g1, g2, _⟩ := rdI_is R2.h (i1.ext e2) hx'
                cases e0
                rw [h7] at g2; cases g2
                obtain rfl := mgC h1 g1
                exact ⟨dx2, xs2, h7, h8, Post.ok (A' := w2.A) (b := Go.nx σ) P2 h9 h10 (R2.s.ext h9)⟩
              · exact P2.none.elim
            · exact P2.none.elim
          · exact P2.none.elim
        · exact P2.none.elim
      · exact P1.none.elim
    · exact P1.none.elim
  · exact P1.none.elim
/-! ### while -/
theorem ms_while (hp : PassesOwn (model X.prog X.w) X.A X.env X.xe) (hc : PT X c (tT g E (evC S jc))) (hb : PSs X p (tS g E (evS S is))) : PS X (.While c p [] pos) (tS g E (evS S (.whil jc is))) := by
  refine ps_mono (ps_while hp hc hb) fun D σ H ⟨w, Δ, R, P⟩ => ?_
  unfold evS at P
  refine ⟨fun m σ H => ∃ w Δ, Rep g w H Δ σ ∧ Post g w H E (whileD (evC S jc) (evS S is) m Δ w.μ) (IsG g) (gQ D), ⟨S.W, w, Δ, R, P⟩, ?_⟩
  rintro m σ H ⟨w, Δ, R, P⟩
  cases m with
  | zero => exact P.none.elim
  | succ m =>
    unfold whileD at P
    refine tT_bind R P fun w1 H1 kk e1 R1 _ P1 => ?_
    cases kk with
    | false => exact P1.here (b := Go.nx σ) R1.h R1.s
    | true =>
      refine ⟨fun σ H => ∃ w Δ, Rep g w H Δ σ ∧ Post g w H E (whileD (evC S jc) (evS S is) m Δ w.μ) (IsG g) (gQ D), fun σ' H' n => ⟨m, Nat.lt_succ_self m, n⟩, ?_⟩
      refine tS_bind R1 P1 fun w2 H2 r o e2 R2 _ i P2 => ?_
      obtain ⟨f, Δ2⟩ := r
      cases o with
      | nx σ2 =>
        cases f <;> first | exact i.elim | skip
        exact ⟨w2, Δ2, ⟨R2, i⟩, P2⟩
      | ct σ2 =>
        cases f <;> first | exact i.elim | skip
        exact ⟨w2, Δ2, ⟨R2, i⟩, P2⟩
      | bk σ2 =>
        cases f <;> first | exact i.elim | skip
        exact P2.here (b := Go.nx σ2) R2 i
      | rt v =>
        cases f <;> first | exact i.elim | skip
        exact P2.here (b := Go.rt v) R2 i
/-! ### for -/
theorem ms_for {tg iter : Expr} {t : IT} {ii : II} (hp : PassesOwn (model X.prog X.w) X.A X.env X.xe) (hc : X.calm = true) (hi : PI X tg iter (tI g E (evI S ii))) (hg : PG X tg (gD g t)) (hb : PSs X p (tS g E (evS S is)))
    (hs : ∀ x, foldedSetIterable iter X.env x = pure x) : PS X (.For tg iter p [] pos) (tS g E (evS S (.for_ t ii is))) := by
  refine ps_mono (ps_for hp hc hi hg hb hs) fun D σ H ⟨w, Δ, R, P⟩ => ?_
  unfold evS at P
  refine ⟨w, Δ, R, Post.bind P fun w1 H1 pp J e1 R1 hL1 it P1 => ?_⟩
  obtain ⟨ds, ls⟩ := pp
  have s1 : Sl g w1 H1 Δ σ := R.s.ext e1
  refine ⟨fun i m σ H => m = ds.length - i ∧ i ≤ ds.length ∧ ∃ w' Δ', Rep g w' H Δ' σ ∧ Ext w1 H1 w' H ∧ Post g w' H E (forD t (evS S is) ls (ds.drop i) Δ' w'.μ) (IsG g) (gQ D),
    ⟨ds.length, by simp, Nat.zero_le _, w1, Δ, ⟨R1, s1⟩, Ext.refl _ _, by simpa using P1⟩, ?_⟩
  rintro i m σ H ⟨rfl, hi, w', Δ', R', e', P'⟩
  by_cases hlt : i < ds.length
  · rw [List.drop_eq_getElem_cons hlt] at P'
    unfold forD at P'
    split at P'
    · rename_i hlk
      refine .inr ⟨it.go i w' H e' R'.h hlk hlt, fun σ2 H2 => ∃ w2 Δ2, Rep g w2 H2 Δ2 σ2 ∧ Ext w1 H1 w2 H2 ∧ Post g w2 H2 E (forD t (evS S is) ls (ds.drop (i + 1)) Δ2 w2.μ) (IsG g) (gQ D),
        fun σ' H' n => ⟨ds.length - (i + 1), by omega, rfl, by omega, n⟩, fun x H2 y => ?_⟩
      obtain ⟨e2, R2, i2⟩ := it.yld i ds[i] w' H x H2 e' R'.h hlk (List.getElem?_eq_getElem hlt) y
      rw [mBind_opt] at P'
      split at P'
      · rename_i Δ3 h3
        have P2 := P'.on e2 rfl
        refine ⟨w', Δ', ds[i], Δ3, ⟨R2, R'.s.ext e2⟩, i2, h3, fun σ3 R3 _ => ?_⟩
        refine tS_bind R3 P2 fun w4 H4 r o e4 R4 _ i4 P4 => ?_
        obtain ⟨f, Δ4⟩ := r
        have e14 : Ext w1 H1 w4 H4 := (e'.trans e2).trans e4
        cases o with
        | nx σ4 =>
          cases f <;> first | exact i4.elim | skip
          exact ⟨w4, Δ4, ⟨R4, i4⟩, e14, P4⟩
        | ct σ4 =>
          cases f <;> first | exact i4.elim | skip
          exact ⟨w4, Δ4, ⟨R4, i4⟩, e14, P4⟩
        | bk σ4 =>
          cases f <;> first | exact i4.elim | skip
          exact P4.here (b := Go.nx σ4) R4 i4
        | rt v =>
          cases f <;> first | exact i4.elim | skip
          exact P4.here (b := Go.rt v) R4 i4
      · exact P'.none.elim
    · exact P'.none.elim
  · have hi : i = ds.length := by omega
    subst hi
    rw [List.drop_length] at P'
    unfold forD at P'
    split at P'
    · rename_i hlk
      exact .inl ⟨it.stop w' H e' R'.h hlk, P'.here (b := Go.nx σ) R'.h R'.s⟩
    · exact P'.none.elim
/-! ### raise -/
theorem zipF_is {w : Wd} {H : Hp} : ∀ {ns : List Str} {ds : List D} {vs : List V}, IsL g.K g.mg w H ds vs → IsF g.K g.mg w H (ns.zip ds) (ns.zip vs)
  | [], _, _, _ => by simp only [List.zip_nil_left]; exact IsF.nil
  | _ :: _, [], _, h => by rw [h.of_nil]; simp only [List.zip_nil_right]; exact IsF.nil
  | n :: ns, d :: ds, _, h => by
    obtain ⟨v, r, rfl, h1, h2⟩ := h.of_cons
    exact IsF.cons h1 (zipF_is h2)
theorem ms_raise (G : Gd Γ g S E k X) (ht : Γ.top = true) {cn : Str} {ns : List Str} {pc pcall : Pos} (hn : S.exc cn = some ns) (hne : ns ≠ []) (hg : Gl X cn) (hd : (cn == ("__debug__" : Str)) = false) (hs : starEach (e :: es) X.env = (false, eval e X.env) :: starEach es X.env) (hp : (backTo pcall (starEach es X.env)).any (·.1) = false) (ha : PA X (e :: es) (tA g E (evA S ja))) :
    PS X (.Raise (some (.Call (.Name cn pc) (e :: es) [] pcall)) none pos) (tS g E (evS S (.raise cn ja))) := by
  obtain ⟨_, tk, rz⟩ := G.stm ht
  obtain ⟨C, hC, rz⟩ := rz cn ns hn
  refine ps_mono (ps_raise G.calm tk (rz e es pc pcall _ hg hd hs hp ha)) fun D σ H ⟨w, Δ, R, P⟩ => ?_
  unfold evS at P
  refine tA_bind R P fun w1 H1 ds vs e1 R1 _ i1 P1 => ?_
  rw [hn] at P1
  simp only at P1
  split at P1
  · rename_i hl
    obtain ⟨hl, hfm⟩ := hl
    refine ⟨by rw [i1.length]; exact hl.symm, ⟨w1, ds, i1, hfm⟩, fun dd hdd => ?_⟩
    obtain ⟨r, μ', h1, h2⟩ := P1
    cases h1
    have e2 : Ext w1 H1 w1 (upd H1 dd (.xd (ns.zip vs))) := Ext.new R1.h hdd
    refine h2 w1.A _ _ _ e2 (R1.h.new hdd) ⟨C, hC, rfl, ?_⟩
    cases ns with
    | nil => exact absurd rfl hne
    | cons n ns =>
      cases ds with
      | nil => simp at hl
      | cons d ds =>
        obtain ⟨v, r, rfl, h3, h4⟩ := i1.of_cons
        exact ⟨dd, _, rfl, (R1.h.fresh hdd).1, upd_same, (IsF.cons h3 (zipF_is h4)).ext e2⟩
  · exact P1.none.elim
end
end M

set_option Elab.async false
set_option linter.all false
set_option maxRecDepth 100000
/-! N14: comprehensions. -/
namespace M
open PySem PySem.Spec L2
/-! ### wiped slots -/
theorem wipe_get {σ : St} {j : Nat} : ∀ {vs : List Nat}, (wipe σ vs)[j]? = if j ∈ vs then (σ[j]?).map (fun _ => none) else σ[j]?
  | [] => by simp [wipe]
  | v :: vs => by
    unfold wipe
    by_cases e : v = j
    · subst e
      rw [if_pos List.mem_cons_self, List.getElem?_set_self', wipe_get]
      split
      · cases σ[v]? <;> simp
      · cases σ[v]? <;> simp
    · rw [List.getElem?_set_ne e, wipe_get]
      have : (j ∈ v :: vs) ↔ j ∈ vs := by simp [Ne.symm e]
      by_cases h : j ∈ vs
      · rw [if_pos h, if_pos (this.mpr h)]
      · rw [if_neg h, if_neg (fun z => h (this.mp z))]
theorem wipeD_get {Δ : Dl} {j : Nat} : ∀ {vs : List Nat}, (wipeD Δ vs)[j]? = if j ∈ vs then (Δ[j]?).map (fun _ => none) else Δ[j]?
  | [] => by simp [wipeD]
  | v :: vs => by
    unfold wipeD
    by_cases e : v = j
    · subst e
      rw [if_pos List.mem_cons_self, List.getElem?_set_self', wipeD_get]
      split
      · cases Δ[v]? <;> simp
      · cases Δ[v]? <;> simp
    · rw [List.getElem?_set_ne e, wipeD_get]
      have : (j ∈ v :: vs) ↔ j ∈ vs := by simp [Ne.symm e]
      by_cases h : j ∈ vs
      · rw [if_pos h, if_pos (this.mpr h)]
      · rw [if_neg h, if_neg (fun z => h (this.mp z))]
theorem wipeD_length (Δ : Dl) : ∀ vs : List Nat, (wipeD Δ vs).length = Δ.length
  | [] => rfl
  | v :: vs => by unfold wipeD; rw [List.length_set, wipeD_length Δ vs]
theorem Sl.wipe {g : Gm} {w : Wd} {H : Hp} {Δ : Dl} {σ : St} (s : Sl g w H Δ σ) (vs : List Nat) : Sl g w H (wipeD Δ vs) (L2.wipe σ vs) := by
  refine ⟨by rw [wipe_length, wipeD_length]; exact s.1, fun i d h => ?_⟩
  rw [wipeD_get] at h
  rw [wipe_get]
  by_cases hi : i ∈ vs
  · rw [if_pos hi] at h
    cases hd : Δ[i]? <;> rw [hd] at h <;> simp at h
  · rw [if_neg hi] at h ⊢
    exact s.2 i d h
theorem But.wiped {ix vs : List Nat} {σ0 σ : St} (b : But ix (L2.wipe σ0 vs) σ) (h : ∀ i ∈ ix, i ∈ vs) : L2.wipe σ vs = L2.wipe σ0 vs := by
  apply List.ext_getElem?
  intro j
  rw [wipe_get]
  have hl : σ.length = σ0.length := b.1.trans (wipe_length σ0 vs)
  by_cases hj : j ∈ vs
  · rw [if_pos hj, wipe_get, if_pos hj]
    by_cases hlt : j < σ.length
    · rw [List.getElem?_eq_getElem hlt, List.getElem?_eq_getElem (by rw [← hl]; exact hlt)]; rfl
    · rw [List.getElem?_eq_none (by omega), List.getElem?_eq_none (by omega)]
  · rw [if_neg hj]
    exact b.2 j fun z => hj (h j z)
/-! ### a place that is locked -/
def Wd.lk (w : Wd) (D : Addr) : Wd := ⟨w.A, w.μ, fun a => w.L a ∨ a = D⟩
section
variable {g : Gm} {w w' : Wd} {H H' : Hp}
theorem lk_live {D a : Addr} (h : (w.lk D).live a) : w.live a ∨ a = D := by
  rcases h with (h | h) | ⟨n, c, h1, h2, h3⟩
  · exact .inl (.inl h)
  · exact .inr h
  · exact .inl (.inr ⟨n, c, h1, h2, h3⟩)
theorem lk_start (R : RepH g w H) {D : Addr} {o : HO} (hD : H D = none) (ho : ∀ ps, o ≠ .tbl ps) : Ext w H (w.lk D) (upd H D o) ∧ RepH g (w.lk D) (upd H D o) := by
  have e : Ext w H (w.lk D) (upd H D o) :=
    ⟨⟨⟨[], by simp [Wd.lk]⟩, fun a u _ h _ => by rw [upd_ne (ne_of_none h hD)]; exact h, fun a u h h' z => (lk_live z).elim h (ne_of_none h' hD), fun a u h => ⟨u, by rw [upd_ne (ne_of_none h hD)]; exact h⟩⟩, fun a h => ⟨upd_ne (R.ne_L hD h), .inl h⟩⟩
  have R1 := R.new (o := o) hD
  have hA := (R.fresh hD).2
  refine ⟨e, R1.len, R1.nd, R1.trk, fun a ha => ?_, fun a ha hl => ?_, fun n a c h1 h2 => ?_, R1.tabs, R1.tabg⟩
  · rcases ha with ha | ha
    · exact R1.trkL a ha
    · rw [ha]; exact ⟨o, upd_same, ho⟩
  · rcases hl with hl | hl
    · exact R1.nL a ha hl
    · rw [hl] at ha; exact hA ha
  · refine (R.cell n a c h1 h2).ext e ?_
    obtain ⟨u, h, h'⟩ := R.trk a (List.mem_of_getElem? h1)
    exact upd_ne (ne_of_none h hD)
/-- what stands at the locked place is written -/
theorem lk_put (R : RepH g w H) {D : Addr} {o o' : HO} (hD : H D = some o) (hL : w.L D) (hx : ∀ φ, o ≠ .ext φ) (ho : ∀ ps, o' ≠ .tbl ps) : Xt w H w (upd H D o') ∧ RepH g w (upd H D o') := by
  have hl : w.live D := .inl hL
  have e : Xt w H w (upd H D o') := by
    refine ⟨⟨[], by simp⟩, fun b u hb h _ => ?_, fun b u hb h z => hb z, fun b u h => ?_⟩
    · rw [upd_ne (fun z => hb (by rw [z]; exact hl))]; exact h
    · by_cases q : b = D
      · rw [q]; exact ⟨o', upd_same⟩
      · exact ⟨u, by rw [upd_ne q]; exact h⟩
  have hat : ∀ ps, H D ≠ some (.tbl ps) := fun ps z => by
    obtain ⟨u, h, h'⟩ := R.trkL D hL
    rw [z] at h; cases h; exact h' _ rfl
  refine ⟨e, R.len, R.nd, fun b hb => ?_, fun b hb => ?_, R.nL, fun n a c h1 h2 => ?_, tabs_upd R.tabs hat (.inr fun φ z => by rw [hD] at z; cases z; exact hx φ rfl), fun P hP => tabg_upd (R.tabg P hP) hat⟩
  · have : b ≠ D := fun z => R.nL b hb (by rw [z]; exact hL)
    rw [upd_ne this]; exact R.trk b hb
  · by_cases q : b = D
    · rw [q]; exact ⟨o', upd_same, ho⟩
    · rw [upd_ne q]; exact R.trkL b hb
  · refine (R.cell n a c h1 h2).xt e ?_
    exact upd_ne fun z => R.nL a (List.mem_of_getElem? h1) (by rw [z]; exact hL)
/-- from ahead of the making of D on: what stands at D does not count -/
theorem ext_past {w0 : Wd} {H0 : Hp} {D : Addr} {o : HO} (R0 : RepH g w0 H0) (e : Ext w0 H0 w H) (h0 : H0 D = none) : Ext w0 H0 w (upd H D o) :=
  ⟨⟨e.A, fun a u hl h ht => by rw [upd_ne (ne_of_none h h0)]; exact e.k a u hl h ht, e.l, fun a u h => by rw [upd_ne (ne_of_none h h0)]; exact e.t a u h⟩, fun a h => by
    rw [upd_ne (R0.ne_L h0 h)]; exact e.p a h⟩
/-- the end: what was made at D stands by value -/
theorem lk_end (R : RepH g w H) {D : Addr} (hD : H D = none) (e : Ext w H w' H') (R' : RepH g w' H') (hL : w'.L = (w.lk D).L) :
    Ext w H ⟨w'.A, w'.μ, w.L⟩ H' ∧ RepH g ⟨w'.A, w'.μ, w.L⟩ H' ∧ Sub w' ⟨w'.A, w'.μ, w.L⟩ ∧ ¬ (⟨w'.A, w'.μ, w.L⟩ : Wd).live D ∧ D ∉ w'.A := by
  have hwL : ∀ a, w.L a → w'.L a := fun a h => by rw [hL]; exact .inl h
  have s : Sub w' ⟨w'.A, w'.μ, w.L⟩ := ⟨⟨[], by simp⟩, fun a h => by
    rcases h with h | h
    · exact .inl (hwL a h)
    · exact .inr h, hwL⟩
  have hDA : D ∉ w'.A := fun z => R'.nL D z (by rw [hL]; exact .inr rfl)
  have nl : ¬ (⟨w'.A, w'.μ, w.L⟩ : Wd).live D := fun z => by
    rcases z with z | ⟨n, c, h1, _, _⟩
    · exact (R.fresh hD).1 (.inl z)
    · exact hDA (List.mem_of_getElem? h1)
  refine ⟨⟨⟨e.A, e.k, fun a u hl h z => e.l a u hl h (s.live a z), e.t⟩, fun a h => ⟨(e.p a h).1, h⟩⟩, ⟨R'.len, R'.nd, R'.trk, fun a ha => R'.trkL a (hwL a ha), fun a ha hl => R'.nL a ha (hwL a hl), fun n a c h1 h2 => ?_, R'.tabs, R'.tabg⟩, s, nl, hDA⟩
  have hc := R'.cell n a c h1 h2
  cases c with
  | lst ds =>
    obtain ⟨xs, z1, z2⟩ := hc
    exact ⟨xs, z1, subL_is s (belowL_is (w := w') z2) z2⟩
  | ins cl fs =>
    obtain ⟨C, dx, xs, z1, z2, z3⟩ := hc
    exact ⟨C, dx, xs, z1, z2, subF_is s (belowF_is (w := w') z3) z3⟩
  | froz => trivial
end
theorem noX_ok {α : Type} {x : Mo α} {a : α} {μ : Mu} (h : noX x = some (.ok a, μ)) : x = some (.ok a, μ) := by
  cases x with
  | none => cases h
  | some p =>
    obtain ⟨p, μ'⟩ := p
    cases p with
    | exc e => cases h
    | ok b => exact h
theorem noX_exc {α : Type} {x : Mo α} {e : Exn} {μ : Mu} (h : noX x = some (.exc e, μ)) : False := by
  cases x with
  | none => cases h
  | some p =>
    obtain ⟨p, μ'⟩ := p
    cases p <;> cases h
theorem bind_some {α β : Type} {x : Mo α} {f : α → Mu → Mo β} {b : β} {μ : Mu} (h : mBind x f = some (.ok b, μ)) : ∃ a μ', x = some (.ok a, μ') ∧ f a μ' = some (.ok b, μ) := by
  cases x with
  | none => cases h
  | some p =>
    obtain ⟨p, μ'⟩ := p
    cases p with
    | exc e => cases h
    | ok a => exact ⟨a, μ', rfl, h⟩
theorem compD_exc {t : IT} {c : DT} {e : DE} {Δ : Dl} {ls : List (Nat × List D)} {x : Exn} {μ' : Mu} : ∀ {ds acc : List D} {μ : Mu}, compD t c e Δ ls ds acc μ ≠ some (.exc x, μ')
  | [], acc, μ, h => by
    unfold compD at h
    split at h <;> cases h
  | d :: ds, acc, μ, h => by
    unfold compD at h
    split at h
    · rw [mBind_opt] at h
      split at h
      · rename_i Δ1 _
        cases hc : noX (c Δ1 μ) with
        | none => rw [hc] at h; cases h
        | some p =>
          obtain ⟨p, μ2⟩ := p
          cases p with
          | exc e => exact noX_exc hc
          | ok k =>
            rw [hc] at h
            have h : (if k = true then mBind (noX (e Δ1 μ2)) fun y μ3 => if acc.length < big then compD t c e Δ ls ds (acc ++ [y]) μ3 else none else compD t c e Δ ls ds acc μ2) = some (.exc x, μ') := h
            split at h
            · cases he : noX (e Δ1 μ2) with
              | none => rw [he] at h; cases h
              | some q =>
                obtain ⟨q, μ3⟩ := q
                cases q with
                | exc e => exact noX_exc he
                | ok y =>
                  rw [he] at h
                  have h : (if acc.length < big then compD t c e Δ ls ds (acc ++ [y]) μ3 else none) = some (.exc x, μ') := h
                  split at h
                  · exact compD_exc h
                  · cases h
            · exact compD_exc h
      · cases h
    · cases h
section
variable {Γ : Gam} {g : Gm} {E : XK} {S : Ev} {k : Nat} {X : Cx} {pos : Pos} {ie : IE} {jc : IC}
theorem post_eq {α β : Type} {w : Wd} {H : Hp} {x : Mo α} {a : α} {μ' : Mu} {rel : Wd → Hp → α → β → Prop} {Q : β → Hp → Prop} (h : x = some (.ok a, μ')) (q : ∀ A' H' b, Ext w H ⟨A', μ', w.L⟩ H' → RepH g ⟨A', μ', w.L⟩ H' → rel ⟨A', μ', w.L⟩ H' a b → Q b H') : Post g w H E x rel Q :=
  ⟨.ok a, μ', h, q⟩
def tts (g : Gm) (m : DT) : TT := tT g E0' m
theorem lc_read {t : IT} {ii : II} {m : Bool} {vs : List Nat} (hix : ∀ i ∈ IT.ix t, i ∈ vs) : ∀ σ H Q, tE g E (evE S (.lc m t ii jc ie vs)) σ H Q → tLc (tI g E (evI S ii)) (gD g t) (tT g E0' (evC S jc)) (tE g E0' (evE S ie)) vs σ H Q := by
  intro σ H Q ⟨w, Δ, R, P⟩
  unfold evE at P
  refine ⟨w, Δ, R, Post.bind P fun w1 H1 pp J e1 R1 hL1 it P1 => ?_⟩
  obtain ⟨ds, ls⟩ := pp
  intro D hD
  have s1 : Sl g w1 H1 Δ σ := R.s.ext e1
  obtain ⟨ek, Rk⟩ := lk_start (o := .lst []) R1 hD (fun ps z => by cases z)
  obtain ⟨r, μf, h1, h2⟩ := P1
  cases hcomp : compD t (evC S jc) (evE S ie) (wipeD Δ vs) ls ds [] w1.μ with
  | none => dsimp only at h1; rw [hcomp] at h1; cases h1
  | some res =>
    obtain ⟨ro, μo⟩ := res
    cases ro with
    | exc x => exact absurd hcomp compD_exc
    | ok out =>
      dsimp only at h1
      rw [hcomp] at h1
      have h1 : (if m = true then mOk (.adr μo.length) (μo ++ [.lst out]) else mOk (.lst out) μo) = some (r, μf) := h1
      refine ⟨fun i m' H' => m' = ds.length - i ∧ i ≤ ds.length ∧ ∃ w' accD accV, RepH g w' H' ∧ w'.L = (w1.lk D).L ∧ Ext w1 H1 w' H' ∧ H' D = some (.lst accV) ∧ IsL g.K g.mg w' H' accD accV ∧
          compD t (evC S jc) (evE S ie) (wipeD Δ vs) ls (ds.drop i) accD w'.μ = some (.ok out, μo),
        ⟨ds.length, by simp, Nat.zero_le _, w1.lk D, [], [], Rk, rfl, ek, upd_same, IsL.nil, by rw [List.drop_zero]; exact hcomp⟩, ?_⟩
      rintro i m' H' ⟨rfl, hi', w', accD, accV, R', hL', eo, hacc, iacc, heq⟩
      by_cases hlt : i < ds.length
      · rw [List.drop_eq_getElem_cons hlt] at heq
        unfold compD at heq
        split at heq
        · rename_i hlk
          refine .inr ⟨it.go i w' H' eo R' hlk hlt, fun H2 => ∃ w2 accD accV, RepH g w2 H2 ∧ w2.L = (w1.lk D).L ∧ Ext w1 H1 w2 H2 ∧ H2 D = some (.lst accV) ∧ IsL g.K g.mg w2 H2 accD accV ∧
            compD t (evC S jc) (evE S ie) (wipeD Δ vs) ls (ds.drop (i + 1)) accD w2.μ = some (.ok out, μo), fun H2 n => ⟨ds.length - (i + 1), by omega, rfl, by omega, n⟩, fun x H2 y => ?_⟩
          obtain ⟨e2, R2, i2⟩ := it.yld i ds[i] w' H' x H2 eo R' hlk (List.getElem?_eq_getElem hlt) y
          have hLD : w'.L D := by rw [hL']; exact .inr rfl
          rw [mBind_opt] at heq
          split at heq
          · rename_i Δ3 h3
            have s2 : Sl g w' H2 (wipeD Δ vs) (wipe σ vs) := ((s1.ext eo).ext e2).wipe vs
            refine ⟨w', wipeD Δ vs, ds[i], Δ3, ⟨R2, s2⟩, i2, h3, fun σ3 R3 B3 => ⟨B3.wiped hix, ?_⟩⟩
            obtain ⟨kk, μ4, hc4, heq⟩ := bind_some heq
            refine ⟨w', Δ3, R3, post_eq (noX_ok hc4) fun A4 H4 bb e4 R4 hb => ?_⟩
            obtain rfl : kk = bb := hb
            have e24 := e2.trans e4
            have hacc4 : H4 D = some (.lst accV) := (e24.p D hLD).1.trans hacc
            cases kk with
            | false =>
              simp only [Bool.false_eq_true, if_false] at heq ⊢
              exact ⟨⟨A4, μ4, w'.L⟩, accD, accV, R4, hL', eo.trans e24, hacc4, iacc.ext e24, heq⟩
            | true =>
              simp only [if_true] at heq ⊢
              obtain ⟨yy, μ5, hc5, heq⟩ := bind_some heq
              refine ⟨⟨A4, μ4, w'.L⟩, Δ3, ⟨R4, R3.s.ext e4⟩, post_eq (noX_ok hc5) fun A5 H5 yv e5 R5 i5 => ?_⟩
              have e25 := e24.trans e5
              have hacc5 : H5 D = some (.lst accV) := (e25.p D hLD).1.trans hacc
              split at heq
              · rename_i hbig
                refine ⟨accV, hacc5, by rw [iacc.length]; exact Nat.lt_of_lt_of_le hbig big_le, ?_⟩
                obtain ⟨x6, R6⟩ := lk_put (w := ⟨A5, μ5, w'.L⟩) R5 hacc5 hLD (fun φ z => by cases z) (o' := .lst (accV ++ [yv])) (fun ps z => by cases z)
                refine ⟨⟨A5, μ5, w'.L⟩, accD ++ [yy], accV ++ [yv], R6, hL', ext_past R1 (eo.trans e25) hD, upd_same, ?_, heq⟩
                exact ((iacc.ext e25).xt x6).append (IsL.cons (i5.xt x6) IsL.nil)
              · cases heq
          · cases heq
        · cases heq
      · have hi2 : i = ds.length := by omega
        subst hi2
        rw [List.drop_length] at heq
        unfold compD at heq
        split at heq
        · rename_i hlk
          cases heq
          refine .inl ⟨it.stop w' H' eo R' hlk, ?_⟩
          obtain ⟨f1, f2, f3, f4, f5⟩ := lk_end R1 hD eo R' hL'
          have iout : IsL g.K g.mg ⟨w'.A, w'.μ, w1.L⟩ H' out accV := subL_is f3 (belowL_is (w := w') iacc) iacc
          cases m with
          | false =>
            simp only [Bool.false_eq_true, if_false] at h1
            cases h1
            exact h2 w'.A H' (.ref D) f1 f2 ⟨D, accV, rfl, ⟨f4, hacc⟩, iout⟩
          | true =>
            simp only [if_true] at h1
            cases h1
            have len : w'.A.length = w'.μ.length := R'.len
            have e9 : Ext w1 H1 ⟨w'.A ++ [D], w'.μ ++ [.lst out], w1.L⟩ H' := by
              obtain ⟨B, hB⟩ := f1.A
              refine ⟨⟨⟨B ++ [D], by show w'.A ++ [D] = _; rw [show w'.A = w1.A ++ B from hB, List.append_assoc]⟩, f1.k, fun a u hl h z => ?_, f1.t⟩, fun a h => ⟨(f1.p a h).1, h⟩⟩
              rcases Wd.push_live (w := ⟨w'.A, w'.μ, w1.L⟩) (p := D) (c := .lst out) len z with z | z
              · exact f1.l a u hl h z
              · exact ne_of_none h hD z
            have x9 : Xt w' H' ⟨w'.A ++ [D], w'.μ ++ [.lst out], w1.L⟩ H' := by
              refine ⟨⟨[D], rfl⟩, fun a u _ h _ => h, fun a u hl h z => ?_, fun a u h => ⟨u, h⟩⟩
              rcases Wd.push_live (w := ⟨w'.A, w'.μ, w1.L⟩) (p := D) (c := .lst out) len z with z | z
              · exact hl (f3.live a z)
              · exact hl (by rw [z]; exact .inl (by rw [hL']; exact .inr rfl))
            have R9 : RepH g ⟨w'.A ++ [D], w'.μ ++ [.lst out], w1.L⟩ H' := by
              refine ⟨?_, ?_, fun a ha => ?_, f2.trkL, fun a ha hl => ?_, fun n a c z1 z2 => ?_, R'.tabs, R'.tabg⟩
              · show (w'.A ++ [D]).length = (w'.μ ++ [Cell.lst out]).length
                rw [List.length_append, List.length_append, len]; rfl
              · show (w'.A ++ [D]).Nodup
                rw [List.nodup_append]
                refine ⟨R'.nd, by simp, fun a ha b hb z => ?_⟩
                rw [List.mem_singleton] at hb
                rw [z, hb] at ha
                exact f5 ha
              · rcases List.mem_append.mp (show a ∈ w'.A ++ [D] from ha) with ha | ha
                · exact R'.trk a ha
                · rw [List.mem_singleton] at ha
                  rw [ha]; exact ⟨_, hacc, fun ps z => by cases z⟩
              · rcases List.mem_append.mp (show a ∈ w'.A ++ [D] from ha) with ha | ha
                · exact f2.nL a ha hl
                · rw [List.mem_singleton] at ha
                  rw [ha] at hl
                  exact (R1.fresh hD).1 (.inl hl)
              · have z1 : (w'.A ++ [D])[n]? = some a := z1
                have z2 : (w'.μ ++ [Cell.lst out])[n]? = some c := z2
                by_cases hn : n < w'.A.length
                · rw [List.getElem?_append_left hn] at z1
                  rw [List.getElem?_append_left (by omega)] at z2
                  exact (R'.cell n a c z1 z2).xt x9 rfl
                · rw [List.getElem?_append_right (by omega)] at z1 z2
                  obtain ⟨j, hj⟩ : ∃ j, n - w'.A.length = j := ⟨_, rfl⟩
                  rw [hj] at z1
                  rw [← len, hj] at z2
                  cases j with
                  | zero =>
                    simp at z1 z2
                    subst z1 z2
                    exact ⟨accV, hacc, iacc.xt x9⟩
                  | succ j => simp at z1
            refine h2 (w'.A ++ [D]) H' (.ref D) e9 R9 ⟨D, rfl, ?_⟩
            show (w'.A ++ [D])[w'.μ.length]? = some D
            rw [← len]; simp
        · cases heq
theorem me_lc {elt tg iter : Expr} {ifs : List Expr} {scope : Scope} {own : List (Str × Nat)} {t : IT} {ii : II} (m : Bool) (hc : X.calm = true) (hN : X.N.Nodup) (hi : PI X tg iter (tI g E (evI S ii))) (ok : BlkOk X.N X.env.scope scope own)
    (hix : ∀ i ∈ IT.ix t, i ∈ own.map (·.2))
    (hg : ∀ (s : Shared) (H : Hp) (C : Addr) (cl : List (Str × Addr)) (fp : List Addr), PG (X.blk s H scope (compEnvC scope cl C X.env) fp) tg (gD g t)) (ht : ∀ (s : Shared) (H : Hp) (C : Addr) (cl : List (Str × Addr)) (fp : List Addr), PTs (X.blk s H scope (compEnvC scope cl C X.env) fp) ifs (tT g E0' (evC S jc)))
    (he : ∀ (s : Shared) (H : Hp) (C : Addr) (cl : List (Str × Addr)) (fp : List Addr), PE (X.blk s H scope (compEnvC scope cl C X.env) fp) elt (tE g E0' (evE S ie))) (hs : ∀ x, foldedSetIterable iter X.env x = pure x) :
    PE X (.ListComp elt [⟨tg, iter, ifs, 0⟩] scope pos) (tE g E (evE S (.lc m t ii jc ie (own.map (·.2))))) :=
  pe_mono (pe_lc hc hN hi ok hg ht he hs) (lc_read hix)
theorem ms_setLc {i : Nat} {y : Str} {py spos : Pos} {elt tg iter : Expr} {ifs : List Expr} {scope : Scope} {own : List (Str × Nat)} {t : IT} {ii : II} (m : Bool) (hc : X.calm = true) (hN : X.N.Nodup) (hy : X.N[i]? = some y) (hyl : X.env.scope.names.lookup y = some .local)
    (hsw : swapsWith (.ListComp elt [⟨tg, iter, ifs, 0⟩] scope pos) (some (.Name y py)) spos.line X.env = pure true) (hi : PI X tg iter (tI g E (evI S ii))) (ok : BlkOk X.N X.env.scope scope own) (hix : ∀ i ∈ IT.ix t, i ∈ own.map (·.2))
    (hg : ∀ (s : Shared) (H : Hp) (C : Addr) (cl : List (Str × Addr)) (fp : List Addr), PG (X.blk s H scope (compEnvC scope cl C X.env) fp) tg (gD g t)) (ht : ∀ (s : Shared) (H : Hp) (C : Addr) (cl : List (Str × Addr)) (fp : List Addr), PTs (X.blk s H scope (compEnvC scope cl C X.env) fp) ifs (tT g E0' (evC S jc)))
    (he : ∀ (s : Shared) (H : Hp) (C : Addr) (cl : List (Str × Addr)) (fp : List Addr), PE (X.blk s H scope (compEnvC scope cl C X.env) fp) elt (tE g E0' (evE S ie))) (hs : ∀ x, foldedSetIterable iter X.env x = pure x) :
    PS X (.Assign [.Name y py] (.ListComp elt [⟨tg, iter, ifs, 0⟩] scope pos) spos) (tS g E (evS S (.asg (.nm i) (.lc m t ii jc ie (own.map (·.2)))))) := by
  refine ps_mono (ps_setLc hc hN hy hyl hsw hi ok hg ht he hs) fun D σ H ⟨w, Δ, R, P⟩ => ?_
  rw [evS] at P
  show tLc _ _ _ _ _ σ H fun x H1 => gName i x σ H1 D.nx
  refine lc_read hix σ H _ (tE_bind R P fun w1 H1 x v e1 R1 _ i1 P1 => ?_)
  simp only [tgD, Option.map_some] at P1
  exact P1.here (b := Go.nx _) R1.h (R1.s.set i1)
end
end M

set_option Elab.async false
set_option linter.all false
set_option maxRecDepth 100000
/-! N15: generator expressions under a consumer. -/
namespace M
open PySem PySem.Spec L2
section
variable {g : Gm} {w : Wd} {H H' : Hp}
theorem tabbed (R : RepH g w H) {P : Addr} (hP : P ∈ g.G) (nT : ∀ q ∈ g.T, q.1 ≠ P) (t : GxR.Tabbed P H H') : Ext w H w H' ∧ RepH g w H' := by
  obtain ⟨ps, h1, h2⟩ := R.tabg P hP
  obtain ⟨⟨ps', t1, t1'⟩, t2⟩ := t
  have hne : ∀ a o, H a = some o → (∀ ps, o ≠ .tbl ps) → a ≠ P := fun a o h ht z => by rw [z, h1] at h; cases h; exact ht _ rfl
  have nl : ¬ w.live P ∧ P ∉ w.A := R.tbl_ne h1
  have e : Ext w H w H' := ⟨⟨⟨[], by simp⟩, fun a u _ h ht => by rw [t2 a (hne a u h ht)]; exact h, fun _ _ h _ => h, fun a u h => by
    by_cases q : a = P
    · rw [q]; exact ⟨_, t1⟩
    · exact ⟨u, by rw [t2 a q]; exact h⟩⟩, fun a h => ⟨t2 a (fun z => nl.1 (by rw [← z]; exact .inl h)), h⟩⟩
  refine ⟨e, R.len, R.nd, fun a ha => ?_, fun a ha => ?_, R.nL, fun n a c z1 z2 => ?_, fun q hq => ?_, fun P' hP' => ?_⟩
  · rw [t2 a (fun z => nl.2 (by rw [← z]; exact ha))]; exact R.trk a ha
  · rw [t2 a (fun z => nl.1 (by rw [← z]; exact .inl ha))]; exact R.trkL a ha
  · exact (R.cell n a c z1 z2).ext e (t2 a (fun z => nl.2 (by rw [← z]; exact List.mem_of_getElem? z1)))
  · obtain ⟨qs, q1, q2, q3⟩ := R.tabs q hq
    refine ⟨qs, by rw [t2 _ (nT q hq)]; exact q1, q2, fun pos cv hcv => ?_⟩
    obtain ⟨c, e1, e2⟩ := q3 pos cv hcv
    refine ⟨c, e1, ?_⟩
    rw [t2 c (hne c _ e2 (fun ps z => LamX.codeO_ne ps z))]
    exact e2
  · by_cases q : P' = P
    · rw [q]; exact ⟨ps', t1, t1'⟩
    · obtain ⟨qs, q1, q2⟩ := R.tabg P' hP'
      exact ⟨qs, by rw [t2 P' q]; exact q1, q2⟩
end
theorem genD_exc {β : Type} {t : IT} {c : DT} {e : DE} {Δ : Dl} {ls : List (Nat × List D)} {f : β → D → Option (β ⊕ D)} {z : β → D} {x : Exn} {μ' : Mu} : ∀ {ds : List D} {b : β} {μ : Mu}, genD t c e Δ ls f z ds b μ ≠ some (.exc x, μ')
  | [], b, μ, h => by
    unfold genD at h
    split at h <;> cases h
  | d :: ds, b, μ, h => by
    unfold genD at h
    split at h
    · rw [mBind_opt] at h
      split at h
      · rename_i Δ1 _
        cases hc : noX (c Δ1 μ) with
        | none => rw [hc] at h; cases h
        | some p =>
          obtain ⟨p, μ2⟩ := p
          cases p with
          | exc e => exact noX_exc hc
          | ok k =>
            rw [hc] at h
            have h : (if k = true then mBind (noX (e Δ1 μ2)) fun y μ3 => match f b y with
              | some (.inl b') => genD t c e Δ ls f z ds b' μ3
              | some (.inr d) => mOk d μ3
              | none => none else genD t c e Δ ls f z ds b μ2) = some (.exc x, μ') := h
            split at h
            · cases he : noX (e Δ1 μ2) with
              | none => rw [he] at h; cases h
              | some q =>
                obtain ⟨q, μ3⟩ := q
                cases q with
                | exc e => exact noX_exc he
                | ok y =>
                  rw [he] at h
                  have h : (match f b y with
                    | some (.inl b') => genD t c e Δ ls f z ds b' μ3
                    | some (.inr d) => mOk d μ3
                    | none => none) = some (.exc x, μ') := h
                  split at h
                  · exact genD_exc h
                  · cases h
                  · cases h
            · exact genD_exc h
      · cases h
    · cases h
section
variable {Γ : Gam} {g : Gm} {E : XK} {S : Ev} {k : Nat} {X : Cx} {pos : Pos} {ie : IE} {jc : IC}
theorem gn_core {β β' : Type} {t : IT} {ii : II} {vs : List Nat} {P : Addr} (hP : P ∈ g.G) (nT : ∀ q ∈ g.T, q.1 ≠ P) (hix : ∀ i ∈ IT.ix t, i ∈ vs) (f : β → D → Option (β ⊕ D)) (z : β → D) (b0 : β) (b0' : β') {Q : VK}
    (rel : Wd → Hp → β → β' → Prop) (rext : ∀ w H w' H' b b', Ext w H w' H' → rel w H b b' → rel w' H' b b') (Kc : β' → V → Hp → (β' → Hp → Prop) → Prop) (Qz : β' → Hp → Prop)
    (h0 : ∀ w H, rel w H b0 b0')
    (hK : ∀ w H b b' y v Nx, RepH g w H → rel w H b b' → Is g.K g.mg w H y v → (∀ b2, f b y = some (.inl b2) → (∀ b2', rel w H b2 b2' → Nx b2' H) → Kc b' v H Nx) ∧ (∀ d, f b y = some (.inr d) → (∀ u, Is g.K g.mg w H d u → Q u H) → Kc b' v H Nx))
    (hz : ∀ w H b b', RepH g w H → rel w H b b' → (∀ A' H' u, Ext w H ⟨A', w.μ, w.L⟩ H' → RepH g ⟨A', w.μ, w.L⟩ H' → Is g.K g.mg ⟨A', w.μ, w.L⟩ H' (z b) u → Q u H') → Qz b' H)
    {σ : St} {H : Hp} {w : Wd} {Δ : Dl} (R : Rep g w H Δ σ) (Pp : Post g w H E (mBind (evI S ii Δ w.μ) fun p μ1 => genD t (evC S jc) (evE S ie) (wipeD Δ vs) p.2 f z p.1 b0 μ1) (IsV g) Q) :
    GX.tG P (tI g E (evI S ii)) (gD g t) (tT g E0' (evC S jc)) (tE g E0' (evE S ie)) vs b0' Kc Qz σ H := by
  refine ⟨w, Δ, R, Post.bind Pp fun w1 H1 pp J e1 R1 hL1 it P1 => ⟨R1.tabg P hP, fun H2 tb => ?_⟩⟩
  obtain ⟨ds, ls⟩ := pp
  obtain ⟨et, Rt⟩ := tabbed R1 hP nT tb
  have s1 : Sl g w1 H1 Δ σ := R.s.ext e1
  obtain ⟨r, μo, h1, h2⟩ := P1
  cases r with
  | exc x => exact absurd h1 genD_exc
  | ok d =>
    refine ⟨fun i m b' H' => m = ds.length - i ∧ i ≤ ds.length ∧ ∃ w' b, RepH g w' H' ∧ w'.L = w1.L ∧ Ext w1 H1 w' H' ∧ rel w' H' b b' ∧ genD t (evC S jc) (evE S ie) (wipeD Δ vs) ls f z (ds.drop i) b w'.μ = some (.ok d, μo),
      ⟨ds.length, by simp, Nat.zero_le _, w1, b0, Rt, rfl, et, h0 _ _, by rw [List.drop_zero]; exact h1⟩, ?_⟩
    rintro i m b' H' ⟨rfl, hi', w', b, R', hL', eo, hrel, heq⟩
    by_cases hlt : i < ds.length
    · rw [List.drop_eq_getElem_cons hlt] at heq
      unfold genD at heq
      split at heq
      · rename_i hlk
        refine .inr ⟨it.go i w' H' eo R' hlk hlt, fun b' H2 => ∃ w2 b, RepH g w2 H2 ∧ w2.L = w1.L ∧ Ext w1 H1 w2 H2 ∧ rel w2 H2 b b' ∧ genD t (evC S jc) (evE S ie) (wipeD Δ vs) ls f z (ds.drop (i + 1)) b w2.μ = some (.ok d, μo),
          fun b' H2 n => ⟨ds.length - (i + 1), by omega, rfl, by omega, n⟩, fun x H2 y => ?_⟩
        obtain ⟨e2, R2, i2⟩ := it.yld i ds[i] w' H' x H2 eo R' hlk (List.getElem?_eq_getElem hlt) y
        rw [mBind_opt] at heq
        split at heq
        · rename_i Δ3 h3
          have s2 : Sl g w' H2 (wipeD Δ vs) (wipe σ vs) := ((s1.ext eo).ext e2).wipe vs
          refine ⟨w', wipeD Δ vs, ds[i], Δ3, ⟨R2, s2⟩, i2, h3, fun σ3 R3 B3 => ⟨B3.wiped hix, ?_⟩⟩
          obtain ⟨kk, μ4, hc4, heq⟩ := bind_some heq
          refine ⟨w', Δ3, R3, post_eq (noX_ok hc4) fun A4 H4 bb e4 R4 hb => ?_⟩
          obtain rfl : kk = bb := hb
          have e24 := e2.trans e4
          cases kk with
          | false =>
            simp only [Bool.false_eq_true, if_false] at heq ⊢
            exact ⟨⟨A4, μ4, w'.L⟩, b, R4, hL', eo.trans e24, rext _ _ _ _ _ _ e24 hrel, heq⟩
          | true =>
            simp only [if_true] at heq ⊢
            obtain ⟨yy, μ5, hc5, heq⟩ := bind_some heq
            refine ⟨⟨A4, μ4, w'.L⟩, Δ3, ⟨R4, R3.s.ext e4⟩, post_eq (noX_ok hc5) fun A5 H5 yv e5 R5 i5 => ?_⟩
            have e25 := e24.trans e5
            have hrel5 := rext _ _ _ _ _ _ e25 hrel
            have hk := hK _ _ b b' yy yv (fun b' H2 => ∃ w2 b, RepH g w2 H2 ∧ w2.L = w1.L ∧ Ext w1 H1 w2 H2 ∧ rel w2 H2 b b' ∧ genD t (evC S jc) (evE S ie) (wipeD Δ vs) ls f z (ds.drop (i + 1)) b w2.μ = some (.ok d, μo)) R5 hrel5 i5
            split at heq
            · rename_i b2 hf
              exact hk.1 b2 hf fun b2' r2 => ⟨⟨A5, μ5, w'.L⟩, b2, R5, hL', eo.trans e25, r2, heq⟩
            · rename_i d' hf
              cases heq
              refine hk.2 _ hf fun u hu => ?_
              have e15 := eo.trans e25
              rw [hL'] at e15 R5 hu
              exact h2 A5 H5 u e15 R5 hu
            · cases heq
        · cases heq
      · cases heq
    · have hi2 : i = ds.length := by omega
      subst hi2
      rw [List.drop_length] at heq
      unfold genD at heq
      split at heq
      · rename_i hlk
        cases heq
        refine .inl ⟨it.stop w' H' eo R' hlk, hz w' H' b b' R' hrel fun A' H2 u e2 R2 hu => ?_⟩
        have e12 := eo.trans e2
        rw [hL'] at e12 R2 hu
        exact h2 A' H2 u e12 R2 hu
      · cases heq
theorem all_read {t : IT} {ii : II} {vs : List Nat} {P : Addr} (hP : P ∈ g.G) (nT : ∀ q ∈ g.T, q.1 ≠ P) (hix : ∀ i ∈ IT.ix t, i ∈ vs) : ∀ σ H Q, tE g E (evE S (.gn .all t ii jc ie vs)) σ H Q → GX.tAllG P (tI g E (evI S ii)) (gD g t) (tT g E0' (evC S jc)) (tE g E0' (evE S ie)) vs σ H Q := by
  intro σ H Q ⟨w, Δ, R, P1⟩
  unfold evE gnD at P1
  refine gn_core hP nT hix foldAll (fun _ => .bl true) () () (fun _ _ _ _ => True) (fun _ _ _ _ _ _ _ h => h) _ _ (fun _ _ => trivial) (fun w H b b' y v Nx R' _ hy => ⟨fun b2 hf hn => ?_, fun d hf hq => ?_⟩) (fun w H b b' R' _ hq => ?_) R P1
  · cases y with
    | bl kk =>
      cases kk with
      | true => exact ⟨true, hy, hn () trivial⟩
      | false => cases hf
    | _ => cases hf
  · cases y with
    | bl kk =>
      cases kk with
      | true => cases hf
      | false => cases hf; exact ⟨false, hy, hq _ rfl⟩
    | _ => cases hf
  · exact hq w.A H _ (Ext.refl _ _) R' rfl
theorem any_read {t : IT} {ii : II} {vs : List Nat} {P : Addr} (hP : P ∈ g.G) (nT : ∀ q ∈ g.T, q.1 ≠ P) (hix : ∀ i ∈ IT.ix t, i ∈ vs) : ∀ σ H Q, tE g E (evE S (.gn .any t ii jc ie vs)) σ H Q → GX.tAnyG P (tI g E (evI S ii)) (gD g t) (tT g E0' (evC S jc)) (tE g E0' (evE S ie)) vs σ H Q := by
  intro σ H Q ⟨w, Δ, R, P1⟩
  unfold evE gnD at P1
  refine gn_core hP nT hix foldAny (fun _ => .bl false) () () (fun _ _ _ _ => True) (fun _ _ _ _ _ _ _ h => h) _ _ (fun _ _ => trivial) (fun w H b b' y v Nx R' _ hy => ⟨fun b2 hf hn => ?_, fun d hf hq => ?_⟩) (fun w H b b' R' _ hq => ?_) R P1
  · cases y with
    | bl kk =>
      cases kk with
      | false => exact ⟨false, hy, hn () trivial⟩
      | true => cases hf
    | _ => cases hf
  · cases y with
    | bl kk =>
      cases kk with
      | false => cases hf
      | true => cases hf; exact ⟨true, hy, hq _ rfl⟩
    | _ => cases hf
  · exact hq w.A H _ (Ext.refl _ _) R' rfl
end
end M

set_option Elab.async false
set_option linter.all false
set_option maxRecDepth 100000
/-! N16: what a look at the text tells. -/
namespace M
open PySem PySem.Spec L2
def notStar : Expr → Bool
  | .Starred .. => false
  | _ => true
theorem star_ok {e : Expr} {es : List Expr} {env : Env} (h : notStar e = true) : starEach (e :: es) env = (false, eval e env) :: starEach es env := by
  cases e <;> first | rfl | cases h
theorem astar_ok {e : Expr} {es : List Expr} {env : Env} (h : notStar e = true) : assignEach (e :: es) env = (false, assign e env) :: assignEach es env := by
  cases e <;> first | rfl | cases h
def plainIxB : Expr → Bool
  | .Slice .. => false
  | _ => true
theorem plainIx_ok {b : Expr} (h : plainIxB b = true) : PlainIx b := by
  intro o i
  cases b <;> first | rfl | cases h
theorem setIx_ok {o b : Expr} {env : Env} {tpos : Pos} (h : plainIxB b = true) : ∀ v, assign (.Subscript o b tpos) env v = (do
      let ov ← holding [v] (eval o env)
      let iv ← holding [v, ov] (eval b env)
      standAt tpos
      holding [v, ov, iv] (setItem ov iv v)
      release [v, ov, iv] []) := by
  intro v
  cases b <;> first | rfl | cases h
theorem augIx_ok {b : Expr} (h : plainIxB b = true) : ∀ ov iv new, augStore b ov iv new = (do holding [new, ov, iv] (setItem ov iv new); release [new, ov, iv] []; pure .next) := by
  intro ov iv new
  cases b <;> first | rfl | cases h
def truB : Expr → Bool
  | .UnaryOp .Not .. => false
  | .BoolOp .. => false
  | .IfExp .. => false
  | .Compare .. => false
  | _ => true
theorem tru_ok' {a : Expr} {env : Env} (h : truB a = true) : ∀ whole, isTrue a env whole = (do let v ← whole; standAt a.pos; holding [v] (truthy v)) := by
  intro whole
  cases a with
  | UnaryOp op x p => cases op <;> first | rfl | cases h
  | BoolOp _ _ _ => cases h
  | IfExp _ _ _ _ => cases h
  | Compare _ _ _ _ => cases h
  | _ => rfl
def attB : Expr → Bool
  | .Call (.Name _ _) [] [] _ => false
  | _ => true
theorem att_ok {o : Expr} {attr : Str} {env : Env} (h : attB o = true) : attributeBase o attr env (eval o env) = eval o env := by
  unfold attributeBase
  split
  · rename_i id _ _
    cases h
  · rfl
def noComp : Expr → Bool
  | .ListComp .. => false
  | .SetComp .. => false
  | .DictComp .. => false
  | _ => true
theorem swaps_ok {e : Expr} {t : Option Expr} {l : Nat} {env : Env} (h : noComp e = true) : swapsWith e t l env = pure false := by
  cases e <;> first | rfl | cases h
def notSet : Expr → Bool
  | .Set .. => false
  | _ => true
theorem fold_ok {e : Expr} {env : Env} (h : notSet e = true) : ∀ x, foldedSetIterable e env x = pure x := by
  intro x
  cases e <;> first | rfl | cases h
def notSetL : Expr → Bool
  | .Set .. => false
  | .List .. => false
  | _ => true
theorem gfold_ok {e : Expr} {env : Env} (h : notSetL e = true) : ∀ x, genFold e env x = pure x := by
  intro x
  cases e <;> first | rfl | cases h
def notTup : Expr → Bool
  | .Tuple .. => false
  | _ => true
theorem marks_ok {op : CmpOp} {e : Expr} (h : notSet e = true) : behindInMarks op e = false := by
  cases e <;> first | rfl | cases h
theorem marks2_ok {o p : CmpOp} {b c : Expr} (h : notSet c = true) : lastMarks [o, p] [b, c] = false := by
  show behindInMarks p c = false
  exact marks_ok h
theorem meth_form {o : Expr} {m : Str} {apos pos : Pos} {es : List Expr} {env : Env} (hb : attB o = true) (hs : ((backTo pos (starEach es env)).all (fun x => !x.1)) = true) (hl : decide (es.length < 30) = true) (hline : (apos.endLine == pos.line) = true) :
    ∃ pl : Sem Bool, eval (.Call (.Attribute o m apos) es [] pos) env = (do
      let ov ← eval o env
      standAt apos.atName
      let (f, first) ← holding [ov] (getMethod ov m pl)
      callWith pos f first (backTo pos (starEach es env)) (backToKw pos (keywordEach [] env))) := by
  refine ⟨(do return (← importBound o env).getD true), ?_⟩
  have hform : methodCallForm (es.length + ([] : List Keyword).length) (backTo pos (starEach es env)) (backToKw pos (keywordEach [] env)) = true := by
    unfold methodCallForm
    rw [hs]
    have : (backToKw pos (keywordEach [] env)) = [] := rfl
    rw [this]
    simpa using hl
  have hpos : methodCallPos true o env apos pos = pure pos := by unfold methodCallPos; simp [hline]
  rw [arm_eval_Call, att_ok hb]
  unfold methodCall
  rw [hform, hpos]
  rfl
theorem noStars : ∀ {es : List Expr} {pos : Pos} {env : Env}, es.all notStar = true → (backTo pos (starEach es env)).all (fun x => !x.1) = true ∧ (backTo pos (starEach es env)).any (·.1) = false
  | [], _, _, _ => ⟨rfl, rfl⟩
  | e :: es, pos, env, h => by
    rw [List.all_cons, Bool.and_eq_true] at h
    obtain ⟨a, b⟩ := noStars (pos := pos) (env := env) h.2
    rw [star_ok h.1]
    unfold backTo at a b ⊢
    rw [List.map_cons, List.all_cons, List.any_cons]
    exact ⟨by rw [a]; rfl, by rw [b]; rfl⟩
theorem asg_one {tg : Expr} {env : Env} (h : notStar tg = true) : (assignEach [tg] env).map (·.2) = [assign tg env] := by rw [astar_ok h]; rfl
theorem swapS_ok {tg e : Expr} {env : Env} (h : notTup e = true) : swappedStores [tg] e env = pure none := by
  unfold swappedStores
  cases e <;> first | (cases tg <;> rfl) | cases h
def nmTarget : Expr → Bool
  | .Name .. => true
  | .Attribute .. => true
  | .Subscript .. => true
  | _ => false
theorem swapS_ok2 {tg e : Expr} {env : Env} (h : nmTarget tg = true) : swappedStores [tg] e env = pure none := by
  unfold swappedStores
  cases tg <;> first | (cases e <;> rfl) | cases h
theorem swapW_ok {tg e : Expr} {l : Nat} {env : Env} (h : noComp e = true) : swapsWithSole [tg] e l env = pure false := swaps_ok h
theorem quiet_comp {e tg : Expr} {l : Nat} {env : Env} (h : nmTarget tg = true) (h2 : ∀ x p, tg ≠ .Name x p) : swapsWith e (some tg) l env = pure false := by
  unfold swapsWith
  cases tg with
  | Name x p => exact absurd rfl (h2 x p)
  | _ => first | (cases e <;> rfl) | cases h
end M

set_option Elab.async false
set_option linter.all false
set_option maxRecDepth 100000
/-! N17: the resolver of expressions, with its proof. -/
namespace M
open PySem PySem.Spec L2
section
variable {Γ : Gam} {g : Gm} {S : Ev} {E : XK} {k : Nat} {X : Cx}
def Gam.blk (Γ : Gam) (scope : Scope) : Gam := { Γ with sc := relS scope Γ.sc, top := false, lam := false, fnb := fun x => scope.names.lookup x == some .cell }
theorem gd_blk (G : Gd Γ g S E k X) {scope : Scope} (hk : scope.kind = .function) (s : Shared) (H : Hp) (C : Addr) (cl : List (Str × Addr)) (fp : List Addr) : Gd (Γ.blk scope) g S E0' k (X.blk s H scope (compEnvC scope cl C X.env) fp) where
  K := G.K
  mg := G.mg
  calm := G.calm
  bd := G.bd
  room := G.room
  pass := pass0' rfl rfl
  N := G.N
  nd := G.nd
  sc := by show relS scope X.env.scope = _; rw [G.sc]; rfl
  kind := hk
  fnb := fun x h => h
  cons := G.cons
  blt := G.blt
  code := G.code
  nT := G.nT
  lam := fun h => by cases h
  hrd := G.hrd
  stm := fun h => by cases h
def Gam.gn (Γ : Gam) (scope : Scope) (n : Nat) : Gam := { Γ with sc := scope, gx := n, top := false, gen := false, lam := false, fnb := fun _ => false }
theorem gd_gen (G : Gd Γ g S E k X) {scope : Scope} (hk : scope.kind = .function) {n : Nat} (A : Around) (s : Shared) (H : Hp) (cv : Value) (fp : List Addr) (hr : Room (k + 1 + 3 * n) (GX.cxG X A s H scope cv fp).A) : Gd (Γ.gn scope n) g S E0' k (GX.cxG X A s H scope cv fp) where
  K := G.K
  mg := G.mg
  calm := rfl
  bd := G.bd
  room := hr
  pass := pass0' rfl rfl
  N := G.N
  nd := G.nd
  sc := rfl
  kind := hk
  fnb := fun x h => by cases h
  cons := G.cons
  blt := G.blt
  code := fun h => by cases h
  nT := G.nT
  lam := fun h => by cases h
  hrd := G.hrd
  stm := fun h => by cases h
end
/-! ### names -/
def Gam.visB (Γ : Gam) (x : Str) : Bool := match Γ.sc.names.lookup x with
  | some .local => true
  | some .cell => true
  | some .free => true
  | _ => false
def Gam.locB (Γ : Gam) (x : Str) : Bool := match Γ.sc.names.lookup x with
  | some .local => true
  | some .cell => Γ.fnb x
  | _ => false
def Gam.idx (Γ : Gam) (x : Str) : Option Nat := (List.range Γ.N.length).find? fun i => decide (Γ.N[i]? = some x)
def Gam.glB (Γ : Gam) (x : Str) : Bool := decide (Γ.sc.names.lookup x = some .globalImplicit)
def okName (x : Str) : Bool := !(x == ("__debug__" : Str)) && !(x == ("__classdict__" : Str))
section
variable {Γ : Gam} {g : Gm} {S : Ev} {E : XK} {k : Nat} {X : Cx} {x : Str}
theorem idx_ok {i : Nat} (h : Γ.idx x = some i) : Γ.N[i]? = some x := by
  have := List.find?_some h
  simpa using this
theorem Gd.idx (G : Gd Γ g S E k X) {i : Nat} (h : Γ.idx x = some i) : X.N[i]? = some x := by rw [G.N]; exact idx_ok h
theorem Gd.vis (G : Gd Γ g S E k X) (h : Γ.visB x = true) : Vis X.env.scope x := by
  rw [G.sc]
  unfold Gam.visB at h
  unfold Vis
  split at h
  · exact .inl (by assumption)
  · exact .inr (.inl (by assumption))
  · exact .inr (.inr (by assumption))
  · cases h
theorem Gd.loc (G : Gd Γ g S E k X) (h : Γ.locB x = true) : L2.Loc X.env.scope x ∧ (X.fn x = true ∨ X.env.scope.names.lookup x = some .local) := by
  rw [G.sc]
  unfold Gam.locB at h
  unfold L2.Loc
  split at h
  · rename_i e; exact ⟨.inl e, .inr e⟩
  · rename_i e; exact ⟨.inr e, .inl (G.fnb x h)⟩
  · cases h
theorem Gd.glb (G : Gd Γ g S E k X) (h : Γ.glB x = true) : Gl X x := G.gl (of_decide_eq_true h)
theorem okName_1 (h : okName x = true) : (x == ("__debug__" : Str)) = false ∧ (x == ("__classdict__" : Str)) = false := by
  unfold okName at h
  simpa using h
end
/-! ### results -/
structure RE (P : Pg) (Γ : Gam) (e : Expr) where
  ie : IE
  ok : ∀ (g : Gm) (S : Ev) (E : XK) (k : Nat) (X : Cx), S.P = P → Gd Γ g S E k X → PE X e (tE g E (evE S ie))
structure RC (P : Pg) (Γ : Gam) (e : Expr) where
  ic : IC
  ok : ∀ (g : Gm) (S : Ev) (E : XK) (k : Nat) (X : Cx), S.P = P → Gd Γ g S E k X → PT X e (tT g E (evC S ic))
structure RW (P : Pg) (Γ : Gam) (op : BoolOp) (es : List Expr) (pos : Pos) where
  ic : IC
  ok : ∀ (g : Gm) (S : Ev) (E : XK) (k : Nat) (X : Cx), S.P = P → Gd Γ g S E k X → PW X (.BoolOp op es pos) (tT g E (evC S ic))
structure RA (P : Pg) (Γ : Gam) (es : List Expr) where
  ia : IA
  ok : ∀ (g : Gm) (S : Ev) (E : XK) (k : Nat) (X : Cx), S.P = P → Gd Γ g S E k X → PA X es (tA g E (evA S ia))
structure RO (P : Pg) (Γ : Gam) (e : Option Expr) where
  io : IO
  ok : ∀ (g : Gm) (S : Ev) (E : XK) (k : Nat) (X : Cx), S.P = P → Gd Γ g S E k X → PO X e (tO g E (evO S io))
structure RI (P : Pg) (Γ : Gam) (tg e : Expr) where
  ii : II
  ok : ∀ (g : Gm) (S : Ev) (E : XK) (k : Nat) (X : Cx), S.P = P → Gd Γ g S E k X → PI X tg e (tI g E (evI S ii))
structure RG (P : Pg) (Γ : Gam) (e : Expr) where
  it : IT
  ok : ∀ (g : Gm) (S : Ev) (E : XK) (k : Nat) (X : Cx), S.P = P → Gd Γ g S E k X → PG X e (gD g it)
structure RGs (P : Pg) (Γ : Gam) (es : List Expr) where
  its : List IT
  ok : ∀ (g : Gm) (S : Ev) (E : XK) (k : Nat) (X : Cx), S.P = P → Gd Γ g S E k X → PGs X es (gDs g its)
structure RT (P : Pg) (Γ : Gam) (ifs : List Expr) where
  ic : IC
  ok : ∀ (g : Gm) (S : Ev) (E : XK) (k : Nat) (X : Cx), S.P = P → Gd Γ g S E k X → PTs X ifs (tT g E (evC S ic))
abbrev Rec (P : Pg) := ∀ (Γ : Gam) (e : Expr), Option (RE P Γ e)
section
variable (P : Pg) (rE : Rec P)
def resA (Γ : Gam) : (es : List Expr) → Option (RA P Γ es)
  | [] => some ⟨.nil, fun g S E k X hS G => ma_nil⟩
  | e :: es => match rE Γ e, resA Γ es with
    | some a, some b => if h : notStar e = true then some ⟨.cons a.ie b.ia, fun g S E k X hS G => ma_cons (a.ok g S E k X hS G) (b.ok g S E k X hS G) (star_ok h)⟩ else none
    | _, _ => none
def resO (Γ : Gam) : (e : Option Expr) → Option (RO P Γ e)
  | none => some ⟨.no, fun g S E k X hS G => mo_none⟩
  | some e => match rE Γ e with
    | some a => some ⟨.some a.ie, fun g S E k X hS G => mo_some (a.ok g S E k X hS G)⟩
    | none => none
mutual
def resG (Γ : Gam) : (e : Expr) → Option (RG P Γ e)
  | .Name x pos => match h : Γ.idx x with
    | some i => if h2 : Γ.locB x = true then some ⟨.nm i, fun g S E k X hS G => mg_name G.nd (G.idx h) (G.loc h2).1 (G.loc h2).2⟩ else none
    | none => none
  | .Tuple es kk pos => match resGs Γ es with
    | some r => if h : (es.all notStar && decide (r.its.length = es.length)) = true then some ⟨.tup r.its, fun g S E k X hS G => by
        rw [Bool.and_eq_true, decide_eq_true_eq] at h
        have hst : ∀ (es : List Expr) (env : Env), es.all notStar = true → (assignEach es env).length = es.length ∧ (assignEach es env).findIdx? (·.1) = none := by
          intro es env
          induction es with
          | nil => intro _; exact ⟨rfl, rfl⟩
          | cons e es ih =>
            intro h
            rw [List.all_cons, Bool.and_eq_true] at h
            obtain ⟨a, b⟩ := ih h.2
            rw [astar_ok h.1]
            exact ⟨by rw [List.length_cons, List.length_cons, a], by rw [List.findIdx?_cons]; simp [b]⟩
        obtain ⟨a, b⟩ := hst es X.env h.1
        exact mg_tup G.K G.calm (r.ok g S E k X hS G) (by rw [a, h.2]) b⟩ else none
    | none => none
  | _ => none
def resGs (Γ : Gam) : (es : List Expr) → Option (RGs P Γ es)
  | [] => some ⟨[], fun g S E k X hS G => mgs_nil⟩
  | e :: es => match resG Γ e, resGs Γ es with
    | some a, some b => if h : notStar e = true then some ⟨a.it :: b.its, fun g S E k X hS G => mgs_cons (a.ok g S E k X hS G) (b.ok g S E k X hS G) (by rw [astar_ok h]; rfl)⟩ else none
    | _, _ => none
end
def obOf : (o : Operator) → Option { b : Ob // opOf b = o }
  | .Add => some ⟨.add, rfl⟩
  | .Sub => some ⟨.sub, rfl⟩
  | .Mult => some ⟨.mul, rfl⟩
  | .FloorDiv => some ⟨.fdiv, rfl⟩
  | .Mod => some ⟨.mod, rfl⟩
  | .Pow => some ⟨.pow, rfl⟩
  | .LShift => some ⟨.shl, rfl⟩
  | .RShift => some ⟨.shr, rfl⟩
  | .BitAnd => some ⟨.band, rfl⟩
  | .BitOr => some ⟨.bor, rfl⟩
  | _ => none
def ocfOf : (o : CmpOp) → { b : Oc // ocOf b = o }
  | .Eq => ⟨.eq, rfl⟩
  | .NotEq => ⟨.ne, rfl⟩
  | .Lt => ⟨.lt, rfl⟩
  | .LtE => ⟨.le, rfl⟩
  | .Gt => ⟨.gt, rfl⟩
  | .GtE => ⟨.ge, rfl⟩
  | .Is => ⟨.is_, rfl⟩
  | .IsNot => ⟨.isnt, rfl⟩
  | .In => ⟨.in_, rfl⟩
  | .NotIn => ⟨.nin, rfl⟩
def isMut (pos : Pos) : Bool := P.mu_.contains (pos.line, pos.col)
/-! ### tests -/
mutual
def resC : Nat → (Γ : Gam) → (e : Expr) → Option (RC P Γ e)
  | 0, _, _ => none
  | n + 1, Γ, e => match e with
    | .UnaryOp .Not a pos => match resC n Γ a with
      | some r => some ⟨.not r.ic, fun g S E k X hS G => mt_not (r.ok g S E k X hS G)⟩
      | none => none
    | .BoolOp op es pos => match resW n Γ op es pos with
      | some r => some ⟨r.ic, fun g S E k X hS G => (r.ok g S E k X hS G).pt⟩
      | none => none
    | .Compare a [o] [b] pos => match rE Γ a, rE Γ b with
      | some x, some y => if h : notSet b = true then
          let c := ocfOf o
          some ⟨.tru (.cmp c.1 x.ie y.ie), fun g S E k X hS G => by
            have := mt_cmp (pos := pos) G.K G.units c.1 (x.ok g S E k X hS G) (y.ok g S E k X hS G) (marks_ok h)
            rw [c.2] at this
            exact this⟩ else none
      | _, _ => none
    | .Compare a [o, p] [b, c] pos => match rE Γ a, rE Γ b, rE Γ c with
      | some x, some y, some z => if h : notSet c = true then
          let co := ocfOf o
          let cp := ocfOf p
          some ⟨.tru (.chain co.1 cp.1 x.ie y.ie z.ie), fun g S E k X hS G => by
            have := mt_chain (pos := pos) G.K G.units co.1 cp.1 (x.ok g S E k X hS G) (y.ok g S E k X hS G) (z.ok g S E k X hS G) (marks2_ok h)
            rw [co.2, cp.2] at this
            exact this⟩ else none
      | _, _, _ => none
    | e => match rE Γ e with
      | some x => if h : truB e = true then some ⟨.tru x.ie, fun g S E k X hS G => mt_tru G.K (x.ok g S E k X hS G) (tru_ok' h)⟩ else none
      | none => none
def resW : Nat → (Γ : Gam) → (op : BoolOp) → (es : List Expr) → (pos : Pos) → Option (RW P Γ op es pos)
  | 0, _, _, _, _ => none
  | n + 1, Γ, op, es, pos => match op, es with
    | .And, [a] => match resC n Γ a with
      | some r => some ⟨r.ic, fun g S E k X hS G => pw_and1 (r.ok g S E k X hS G)⟩
      | none => none
    | .Or, [a] => match resC n Γ a with
      | some r => some ⟨r.ic, fun g S E k X hS G => pw_or1 (r.ok g S E k X hS G)⟩
      | none => none
    | .And, a :: b :: es => match resC n Γ a, resW n Γ .And (b :: es) pos with
      | some r, some q => some ⟨.and r.ic q.ic, fun g S E k X hS G => mw_and (r.ok g S E k X hS G) (q.ok g S E k X hS G)⟩
      | _, _ => none
    | .Or, a :: b :: es => match resC n Γ a, resW n Γ .Or (b :: es) pos with
      | some r, some q => some ⟨.or r.ic q.ic, fun g S E k X hS G => mw_or (r.ok g S E k X hS G) (q.ok g S E k X hS G)⟩
      | _, _ => none
    | _, _ => none
end
theorem yes_ok {X : Cx} {g : Gm} {E : XK} {S : Ev} : PTs X [] (tT g E (evC S .yes)) := ⟨fun pins s σ H Q I ⟨w, Δ, R, Pp⟩ => pts_nil.run pins s σ H Q I (by
  unfold evC at Pp
  exact Pp.here R.h rfl)⟩
def resIf (n : Nat) (Γ : Gam) : (ifs : List Expr) → Option (RT P Γ ifs)
  | [] => some ⟨.yes, fun g S E k X hS G => yes_ok⟩
  | [c] => match resC P rE n Γ c with
    | some r => some ⟨r.ic, fun g S E k X hS G => pts_one (r.ok g S E k X hS G)⟩
    | none => none
  | _ => none
end
end M

set_option Elab.async false
set_option linter.all false
set_option maxRecDepth 100000
/-! HE: the law's helper called with a lambda. -/
namespace M
open PySem PySem.Spec L2 LamX
section
variable {g : Gm} {w : Wd} {H H' : Hp}
theorem tabbedL (R : RepH g w H) {P : Addr} {q : Str} (hP : (P, q) ∈ g.T) (nT : ∀ P ∈ g.G, ∀ q ∈ g.T, q.1 ≠ P) (t : ExtP P H H') (t1 : Tabs g.T H') : Ext w H w H' ∧ RepH g w H' := by
  obtain ⟨ps, h1, h2, h3⟩ := R.tabs _ hP
  obtain ⟨ps', k1, k2, k3⟩ := t1 _ hP
  have h1 : H P = some (.tbl ps) := h1
  have k1 : H' P = some (.tbl ps') := k1
  have hne : ∀ a o, H a = some o → (∀ ps, o ≠ .tbl ps) → a ≠ P := fun a o h ht z => by rw [z, h1] at h; cases h; exact ht _ rfl
  have same : ∀ a, w.L a ∨ a ∈ w.A → H' a = H a := fun a ha => by
    obtain ⟨o, ho, hn⟩ : ∃ o, H a = some o ∧ ∀ ps, o ≠ .tbl ps := ha.elim (R.trkL a) (R.trk a)
    rw [t a o ho (hne a o ho hn), ho]
  have e : Ext w H w H' := ⟨⟨⟨[], by simp⟩, fun a u _ h ht => t a u h (hne a u h ht), fun _ _ h _ => h, fun a u h => by
    by_cases q : a = P
    · rw [q]; exact ⟨_, k1⟩
    · exact ⟨u, t a u h q⟩⟩, fun a h => ⟨same a (.inl h), h⟩⟩
  refine ⟨e, R.len, R.nd, fun a ha => ?_, fun a ha => ?_, R.nL, fun n a c z1 z2 => ?_, t1, fun P' hP' => ?_⟩
  · rw [same a (.inr ha)]; exact R.trk a ha
  · rw [same a (.inl ha)]; exact R.trkL a ha
  · exact (R.cell n a c z1 z2).ext e (same a (.inr (List.mem_of_getElem? z1)))
  · obtain ⟨qs, q1, q2⟩ := R.tabg P' hP'
    exact ⟨qs, t P' _ q1 (fun z => nT P' hP' _ hP z.symm), q2⟩
theorem tup_new {ds : List D} {xs : List V} {p : Addr} (R : RepH g w H) (hp : H p = none) (i : IsL g.K g.mg w H ds xs) : Is g.K g.mg w (upd H p (.tup xs)) (.tup ds) (.ref p) :=
  ⟨p, xs, rfl, .inl ⟨(R.fresh hp).1, .inl upd_same⟩, i.ext (Ext.new R hp)⟩
end
section
variable {Γ : Gam} {g : Gm} {S : Ev} {E : XK} {k : Nat} {X : Cx} {ie : IE}
theorem heard_read {P : Addr} {q : Str} {CB CN : Addr} (hP : (P, q) ∈ g.T) (nT : ∀ P ∈ g.G, ∀ q ∈ g.T, q.1 ≠ P) (hB : g.mg "BadArgument" = some (.ref CB)) (hN : g.mg "NoPlan" = some (.ref CN)) :
    ∀ σ H Q, tE g E (evE S (.heard ie)) σ H Q → tLam3 P g.T (TTh CB CN) (fun E' => tE g E' (evE S ie)) σ H Q := by
  intro σ H Q ⟨w, Δ, R, P1⟩
  unfold evE at P1
  refine ⟨R.h.tabs, fun H1 xp t1 => ?_⟩
  obtain ⟨e1, R1⟩ := tabbedL R.h hP nT xp t1
  show tE g (EchH CB CN Q) (evE S ie) σ H1 _
  refine ⟨w, Δ, ⟨R1, R.s.ext e1⟩, ?_⟩
  obtain ⟨r, μ', h1, h2⟩ := P1
  cases hh : evE S ie Δ w.μ with
  | none => rw [hh] at h1; cases h1
  | some p =>
    obtain ⟨o, μ1⟩ := p
    rw [hh] at h1
    cases o with
    | ok a =>
      have h1 : mOk (D.tup []) μ1 = some (r, μ') := h1
      cases h1
      refine ⟨.ok a, _, rfl, fun A' H' b e2 R2 _ => ⟨Nat.zero_le _, fun p hp => ?_⟩⟩
      exact h2 A' _ (.ref p) ((e1.trans e2).trans (Ext.new R2 hp)) (R2.new hp) (tup_new R2 hp IsL.nil)
    | exc x =>
      have h1 : mOpt (heardD x) μ1 = some (r, μ') := h1
      refine ⟨.exc x, μ1, rfl, fun A' H' cls d e2 R2 ⟨C, z1, z2, z3⟩ => ?_⟩
      obtain ⟨xc, xf⟩ := x
      unfold heardD at h1
      split at h1
      · rename_i f v hf
        have hf : xf = [(f, v)] := hf
        subst hf
        obtain ⟨dd, xs, rfl, nl, hdd, hi⟩ := z3
        obtain ⟨v1, r1, rfl, i1, hr⟩ := hi.of_cons
        obtain rfl := hr.of_nil
        split at h1
        · rename_i hc
          obtain ⟨c1, c2⟩ := hc
          have c1 : xc = "BadArgument" := c1
          subst c1 c2
          have h1 : mOk (D.tup [.str "bad", v, .bl true]) μ1 = some (r, μ') := h1
          cases h1
          have : C = CB := by have := z1.symm.trans hB; cases this; rfl
          subst this
          refine ⟨dd, _, v1, rfl, hdd, .inl ⟨z2, rfl, fun p hp => ?_⟩⟩
          exact h2 A' _ (.ref p) ((e1.trans e2).trans (Ext.new R2 hp)) (R2.new hp) (tup_new R2 hp (IsL.cons rfl (IsL.cons i1 (IsL.cons rfl IsL.nil))))
        · split at h1
          · rename_i hc
            obtain ⟨c1, c2⟩ := hc
            have c1 : xc = "NoPlan" := c1
            subst c1 c2
            have h1 : mOk (D.tup [.str "no plan", v, .bl true]) μ1 = some (r, μ') := h1
            cases h1
            have : C = CN := by have := z1.symm.trans hN; cases this; rfl
            subst this
            refine ⟨dd, _, v1, rfl, hdd, .inr ⟨z2, rfl, fun p hp => ?_⟩⟩
            exact h2 A' _ (.ref p) ((e1.trans e2).trans (Ext.new R2 hp)) (R2.new hp) (tup_new R2 hp (IsL.cons rfl (IsL.cons i1 (IsL.cons rfl IsL.nil))))
          · cases h1
      · cases h1
def Gam.lm (Γ : Gam) (scope : Scope) : Gam := { Γ with sc := scope, gx := Γ.gx - 1, top := false, gen := false, lam := false, fnb := fun _ => false }
theorem gd_lam (G : Gd Γ g S E k X) {scope : Scope} (hk : scope.kind = .function) (A : Around) (outer : List Env) (s : Shared) (H : Hp) (E' : XK) (f c' : Addr) (hr : Room (k + 1 + 3 * (Γ.gx - 1)) (lamCx X A outer s H E' scope f c').A) : Gd (Γ.lm scope) g S E' k (lamCx X A outer s H E' scope f c') where
  K := G.K
  mg := G.mg
  calm := rfl
  bd := G.bd
  room := hr
  pass := passes_call (takes_of rfl rfl rfl rfl) (fun _ _ _ _ h => h)
  N := G.N
  nd := G.nd
  sc := rfl
  kind := hk
  fnb := fun x h => by cases h
  cons := G.cons
  blt := G.blt
  code := fun h => by cases h
  nT := G.nT
  lam := fun h => by cases h
  hrd := G.hrd
  stm := fun h => by cases h
theorem me_heard (G : Gd Γ g S E k X) {p lpos pos : Pos} {body : Expr} {scope : Scope} (hS : S.P.hrd = true) (hl : Γ.lam = true) (hg : Gl X "_law_heard") (hL : lamSB Γ.sc scope = true) (hgx : 1 ≤ Γ.gx)
    (hb : ∀ (E' : XK) (X' : Cx), Gd (Γ.lm scope) g S E' k X' → PE X' body (tE g E' (evE S ie))) :
    PE X (.Call (.Name "_law_heard" p) [.Lambda ⟨[], [], none, [], [], none, []⟩ body scope lpos] [] pos) (tE g E (evE S (.heard ie))) := by
  obtain ⟨ga, params, sg, P, CB, CN, CE, fd, h1, F, B, Sg, HH, HS⟩ := G.hrd hS
  obtain ⟨c, Pt, l1, l2, l3, l4⟩ := G.lam hl
  obtain ⟨oc, od, dV, kV, doc, pm, an, cdv, ct, osl, hfd, lk, hcd, _, _⟩ := F.ex
  subst hfd
  rw [← G.K] at lk hcd B HH F
  rw [← G.mg] at h1 HH
  have L : LamS X.env.scope scope := lamS_by (by rw [G.sc]; exact hL)
  have hk : scope.kind = .function := L.kind
  refine pe_mono (pe_lamcall3 (T := g.T) (k := k + 1 + 3 * (Γ.gx - 1)) hg h1 F.kp lk hcd B Sg rfl (.inl HS.ask) (heard_gives HH HS Sg.kind) l2 l1 l3 l4 (G.room.mono (by omega)) L rfl (fun _ _ _ _ _ => rfl) (fun A outer s H E' f c' hr => hb E' _ (gd_lam G hk A outer s H E' f c' hr))) (heard_read l3 G.nT (by rw [← G.mg]; exact HH.gB) (by rw [← G.mg]; exact HH.gN))
end
end M

set_option Elab.async false
set_option linter.all false
set_option maxRecDepth 100000
/-! N18: len, methods of lists, isinstance's classes, iterators, comprehensions: resolved. -/
namespace M
open PySem PySem.Spec L2
section
variable {Γ : Gam} {g : Gm} {E : XK} {S : Ev} {k : Nat} {X : Cx} {pos : Pos} {a b c e : Expr} {es : List Expr} {ia ib ic : IE} {ja : IA} {t : TA}
theorem me_len (G : Gd Γ g S E k X) {p : Pos} (hg : Gl X "len") (ha : PE X a (tE g E (evE S ia))) (hs : starEach [a] X.env = (false, eval a X.env) :: starEach [] X.env) : PE X (.Call (.Name "len" p) [a] [] pos) (tE g E (evE S (.bi .len (.cons ia .nil)))) := by
  have hm : X.mg "len" = none := by rw [G.mg]; exact G.blt _ (by simp)
  have key : CallR X (.builtin "len") (RCof g E (dBi S .len)) := by
    intro pins s σ H xs us Q I r ⟨w, ds, R, hds, P⟩
    by_cases hp : plainB .len ds w.μ
    · exact bi_ok (g := g) (E := E) (S := S) G.K G.calm .len pins s σ H xs us Q I r ⟨w, ds, R, hds, hp, P⟩
    · match ds, hds, hp, P with
      | [d], hds, hp, P =>
        obtain ⟨v, rfl, hv⟩ := isL1 hds
        unfold dBi at P
        simp only at P
        split at P
        · rename_i cn fs hd
          obtain ⟨q, C, dx, ys, rfl, h1, h2, h3⟩ := rdI_is R hv hd
          obtain ⟨u, rfl, ru⟩ := vals1 r
          obtain rfl : u = Value.ref q := ru
          split at P
          · rename_i ci hc
            split at P
            · rename_i hmeth
              obtain ⟨C2, fa, h4, h5, fd, ps, Fn, B⟩ := G.bd.meth cn ci "__len__" hc hmeth
              obtain rfl := mgC h1 h4
              rw [← G.K] at h5 Fn B
              rw [← G.mg] at Fn
              refine lenO I h2 h5 Fn G.r1 B ⟨w, [d], R, IsL.cons hv IsL.nil, ?_⟩
              have P2 : Post g w H E (noX (S.call cn "__len__" [d] w.μ)) (IsV g) (fun v H' => ∃ i : Int, v = .int i ∧ 0 ≤ i ∧ i < 2 ^ 63 ∧ Q v H') := Post.bind P fun w1 H1 d1 v1 e1 R1 hL i1 P1 => by
                split at P1
                · rename_i i
                  split at P1
                  · rename_i hi
                    exact ⟨i, i1, hi.1, by have := hi.2; simp only [big] at this; omega, by
                      cases (show v1 = _ from i1)
                      exact P1.here R1 rfl⟩
                  · exact P1.none.elim
                · exact P1.none.elim
              exact P2.noX
            · exact P.none.elim
          · exact P.none.elim
        · rename_i hd
          exact absurd hd hp
      | [], _, hp, _ => exact absurd trivial hp
      | _ :: _ :: _, _, hp, _ => exact absurd trivial hp
  refine pe_mono (pe_callB key hg hm (by decide +kernel) (ma_cons ha ma_nil hs) (by decide) (by decide) hs rfl) fun σ H Q ⟨w, Δ, R, P⟩ => ?_
  unfold evE at P
  refine tA_bind R P fun w1 H1 xs vs e1 R1 _ i1 P1 => ?_
  exact ⟨w1, xs, R1.h, i1, P1⟩
/-! ### a list's methods -/
theorem ty_list (hK : X.K = g.K) {w : Wd} {H : Hp} {x : D} {v : V} {xs : List D} (R : RepH g w H) (i : Is g.K g.mg w H x v) (e : rdL x w.μ = some xs) : tyV X.K "list" v H := by
  obtain ⟨p, vs, rfl, h1, _⟩ := rdL_is R i e
  exact .inl ⟨rfl, vs, .of h1⟩
theorem mt_read (hK : X.K = g.K) {bb : Mt} : ∀ σ H Q, tE g E (evE S (.mt bb ia ja)) σ H Q → tBM X.K "list" (RMof g E (dMt bb)) (tE g E (evE S ia)) (tA g E (evA S ja)) σ H Q := by
  intro σ H Q ⟨w, Δ, R, P⟩
  unfold evE at P
  refine tE_bind R P fun w1 H1 x v e1 R1 _ i1 P1 => ?_
  split at P1
  · rename_i xs hx
    refine ⟨ty_list hK R1.h i1 hx, tA_bind R1 P1 fun w2 H2 ds vs e2 R2 _ i2 P2 => ?_⟩
    exact ⟨w2, x, ds, R2.h, i1.ext e2, i2, P2⟩
  · exact P1.none.elim
def mtNm : Mt → Str
  | .append => "append" | .extend => "extend" | .pop => "pop"
theorem me_mt (G : Gd Γ g S E k X) {bb : Mt} {apos : Pos} (ho : PE X a (tE g E (evE S ia))) (ha : PA X (e :: es) (tA g E (evA S ja))) (hb : attB a = true) (hall : (e :: es).all notStar = true) (hl : decide ((e :: es).length < 30) = true) (hline : (apos.endLine == pos.line) = true) :
    PE X (.Call (.Attribute a (mtNm bb) apos) (e :: es) [] pos) (tE g E (evE S (.mt bb ia ja))) := by
  have hall' := hall
  rw [List.all_cons, Bool.and_eq_true] at hall'
  obtain ⟨n1, n2⟩ := noStars (pos := pos) (env := X.env) hall
  obtain ⟨n3, n4⟩ := noStars (pos := pos) (env := X.env) hall'.2
  have hfew : ((backTo pos (starEach (e :: es) X.env)).all (fun x => !x.1) && (backToKw pos (keywordEach [] X.env)).all (fun x => x.1.isSome)
      && decide ((e :: es).length + ([] : List Keyword).length + (if ([] : List Keyword).isEmpty then 0 else 1) < 30)) = true := by
    rw [n1]
    have : (backToKw pos (keywordEach [] X.env)) = [] := rfl
    rw [this]
    simpa using hl
  cases bb with
  | append => exact pe_mono (pe_bm PySem.F.plainAttrs_list PySem.F.slot_list_append PySem.F.type_list_append (mt_ok (g := g) (E := E) .append) ho ha (att_ok hb) hfew hline (star_ok hall'.1) n4) (mt_read G.K)
  | extend => exact pe_mono (pe_bm PySem.F.plainAttrs_list PySem.F.slot_list_extend PySem.F.type_list_extend (mt_ok (g := g) (E := E) .extend) ho ha (att_ok hb) hfew hline (star_ok hall'.1) n4) (mt_read G.K)
  | pop => exact pe_mono (pe_bm PySem.F.plainAttrs_list PySem.F.slot_list_pop PySem.F.type_list_pop (mt_ok (g := g) (E := E) .pop) ho ha (att_ok hb) hfew hline (star_ok hall'.1) n4) (mt_read G.K)
theorem me_mt0 (G : Gd Γ g S E k X) {apos : Pos} (ho : PE X a (tE g E (evE S ia))) (hb : attB a = true) (hline : (apos.endLine == pos.line) = true) : PE X (.Call (.Attribute a "pop" apos) [] [] pos) (tE g E (evE S (.mt .pop ia .nil))) := by
  refine pe_mono (pe_bm0 PySem.F.plainAttrs_list PySem.F.slot_list_pop PySem.F.type_list_pop (mt_ok (g := g) (E := E) .pop) ho (att_ok hb) hline) fun σ H Q ⟨w, Δ, R, P⟩ => ?_
  unfold evE at P
  refine tE_bind R P fun w1 H1 x v e1 R1 _ i1 P1 => ?_
  split at P1
  · rename_i xs hx
    unfold evA at P1
    exact ⟨ty_list G.K R1.h i1 hx, w1, x, [], R1.h, i1, IsL.nil, P1⟩
  · exact P1.none.elim
end
end M

set_option Elab.async false
set_option linter.all false
set_option maxRecDepth 100000
/-! N19: the resolver of expressions. -/
namespace M
open PySem PySem.Spec L2
/-- a class as isinstance's second argument -/
structure RTy (P : Pg) (Γ : Gam) (e : Expr) where
  ty : Ty
  ok : ∀ (g : Gm) (S : Ev) (E : XK) (k : Nat) (X : Cx), S.P = P → Gd Γ g S E k X → ∃ u cv, PE X e (tC cv) ∧ TyV g ty u ∧ ClsV cv u
structure RTs (P : Pg) (Γ : Gam) (es : List Expr) where
  ts : List Ty
  len : ts.length ≤ 100
  ok : ∀ (g : Gm) (S : Ev) (E : XK) (k : Nat) (X : Cx), S.P = P → Gd Γ g S E k X → ∃ us cs, PA X es (fun _ H Q => Q cs H) ∧ Paired (TyV g) ts us ∧ Paired ClsV cs us ∧ cs.length = ts.length
def bltTy (x : Str) : Option Bt := if x = ("int" : Str) then some .int else if x = ("bool" : Str) then some .bool else if x = ("str" : Str) then some .str else if x = ("tuple" : Str) then some .tuple else if x = ("list" : Str) then some .list else if x = ("dict" : Str) then some .dict else none
theorem bltTy_ok {x : Str} {b : Bt} (h : bltTy x = some b) : bootBuiltins x = some (.type (btN b)) ∧ x ∈ (["len", "abs", "min", "max", "int", "list", "tuple", "sum", "isinstance", "range", "enumerate", "zip", "all", "any", "bool", "str", "dict", "sorted", "set"] : List Str) ∧ x ≠ ("__name__" : Str) ∧ (x == ("__debug__" : Str)) = false := by
  unfold bltTy at h
  split at h
  · rename_i e; cases h; subst e; exact ⟨by decide +kernel, by simp, by decide, by decide⟩
  split at h
  · rename_i e; cases h; subst e; exact ⟨by decide +kernel, by simp, by decide, by decide⟩
  split at h
  · rename_i e; cases h; subst e; exact ⟨by decide +kernel, by simp, by decide, by decide⟩
  split at h
  · rename_i e; cases h; subst e; exact ⟨by decide +kernel, by simp, by decide, by decide⟩
  split at h
  · rename_i e; cases h; subst e; exact ⟨by decide +kernel, by simp, by decide, by decide⟩
  split at h
  · rename_i e; cases h; subst e; exact ⟨by decide +kernel, by simp, by decide, by decide⟩
  · cases h
section
variable (P : Pg) (rE : Rec P)
def resTy (Γ : Gam) : (e : Expr) → Option (RTy P Γ e)
  | .Name x pos => if hg : Γ.glB x = true then
      match h : bltTy x with
      | some b => some ⟨.bt b, fun g S E k X hS G => by
          obtain ⟨h1, h2, h3, h4⟩ := bltTy_ok h
          exact ⟨.type (btN b), .ty (btN b), pe_bltn (G.glb hg) (by rw [G.mg]; exact G.blt _ h2) h1 rfl h3 h4, rfl, .ty _⟩⟩
      | none => if h2 : ((P.cls.lookup x).isSome && okName x) = true then some ⟨.own x, fun g S E k X hS G => by
          rw [Bool.and_eq_true] at h2
          obtain ⟨ci, hc⟩ := Option.isSome_iff_exists.mp h2.1
          obtain ⟨C, F⟩ := G.bd.cls.cls x ci (by unfold Ev.cls; rw [hS]; exact hc)
          exact ⟨.ref C, .ref C, pe_glob (G.glb hg) (by rw [G.mg]; exact F.at_) rfl (okName_1 h2.2).1, ⟨C, F.at_, rfl⟩, .own C⟩⟩ else none
    else none
  | _ => none
def resTys (Γ : Gam) : (es : List Expr) → Option (RTs P Γ es)
  | [] => some ⟨[], Nat.zero_le _, fun g S E k X hS G => ⟨[], [], pa_mono pa_nil (fun σ H Q q => q), .nil, .nil, rfl⟩⟩
  | e :: es => match resTy P Γ e, resTys Γ es with
    | some a, some b => if h : (notStar e && decide (b.ts.length + 1 ≤ 100)) = true then some ⟨a.ty :: b.ts, by rw [Bool.and_eq_true, decide_eq_true_eq] at h; exact h.2, fun g S E k X hS G => by
        rw [Bool.and_eq_true] at h
        obtain ⟨u, cv, h1, h2, h3⟩ := a.ok g S E k X hS G
        obtain ⟨us, cs, h4, h5, h6, h7⟩ := b.ok g S E k X hS G
        exact ⟨u :: us, cv :: cs, pa_mono (pa_cons h1 h4 (star_ok h.1)) (fun σ H Q q => q), .cons h2 h5, .cons h3 h6, by rw [List.length_cons, List.length_cons, h7]⟩⟩ else none
    | _, _ => none
/-! ### iterators -/
def resI (Γ : Gam) (tg : Expr) : (e : Expr) → Option (RI P Γ tg e)
  | .Call (.Name f p) [a] [] pos => if hr : (decide (f = ("range" : Str)) && Γ.glB f && notStar a) = true then
      match rE Γ a with
      | some x => some ⟨.rng (.cons x.ie .nil), fun g S E k X hS G => by
          simp only [Bool.and_eq_true, decide_eq_true_eq] at hr
          obtain ⟨⟨rfl, h2⟩, h3⟩ := hr
          exact mi_rng1 G (G.glb h2) (x.ok g S E k X hS G) (star_ok h3)⟩
      | none => none
    else if he : (decide (f = ("enumerate" : Str)) && Γ.glB f && notStar a) = true then
      match tg with
      | .Tuple elts kk tpos => match rE Γ a with
        | some x => some ⟨.enm x.ie, fun g S E k X hS G => by
            simp only [Bool.and_eq_true, decide_eq_true_eq] at he
            obtain ⟨⟨rfl, h2⟩, h3⟩ := he
            exact mi_enm G (G.glb h2) (x.ok g S E k X hS G) (star_ok h3)⟩
        | none => none
      | _ => none
    else match rE Γ (.Call (.Name f p) [a] [] pos) with
      | some x => some ⟨.seq x.ie, fun g S E k X hS G => mi_seq G.K (x.ok g S E k X hS G)⟩
      | none => none
  | .Call (.Name f p) [a, b] [] pos => if hr : (decide (f = ("range" : Str)) && Γ.glB f && notStar a && notStar b) = true then
      match rE Γ a, rE Γ b with
      | some x, some y => some ⟨.rng (.cons x.ie (.cons y.ie .nil)), fun g S E k X hS G => by
          simp only [Bool.and_eq_true, decide_eq_true_eq] at hr
          obtain ⟨⟨⟨rfl, h2⟩, h3⟩, h4⟩ := hr
          exact mi_rng2 G (G.glb h2) (x.ok g S E k X hS G) (y.ok g S E k X hS G) (by rw [star_ok h3, star_ok h4]; rfl) (star_ok h4)⟩
      | _, _ => none
    else if hz : (decide (f = ("zip" : Str)) && Γ.glB f && notStar a && notStar b) = true then
      match tg with
      | .Tuple elts kk tpos => match rE Γ a, rE Γ b with
        | some x, some y => some ⟨.zip x.ie y.ie, fun g S E k X hS G => by
            simp only [Bool.and_eq_true, decide_eq_true_eq] at hz
            obtain ⟨⟨⟨rfl, h2⟩, h3⟩, h4⟩ := hz
            exact mi_zip G (G.glb h2) (x.ok g S E k X hS G) (y.ok g S E k X hS G) (star_ok h3) (star_ok h4)⟩
        | _, _ => none
      | _ => none
    else match rE Γ (.Call (.Name f p) [a, b] [] pos) with
      | some x => some ⟨.seq x.ie, fun g S E k X hS G => mi_seq G.K (x.ok g S E k X hS G)⟩
      | none => none
  | e => match rE Γ e with
      | some x => some ⟨.seq x.ie, fun g S E k X hS G => mi_seq G.K (x.ok g S E k X hS G)⟩
      | none => none
/-! ### comprehensions -/
def ownOf (Γ : Gam) (scope : Scope) : List (Str × Nat) := scope.names.filterMap fun y => match y.2 with
  | .local => (Γ.idx y.1).map fun i => (y.1, i)
  | .cell => (Γ.idx y.1).map fun i => (y.1, i)
  | _ => none
def subB (a b : List Nat) : Bool := a.all fun i => b.contains i
theorem subB_ok {a b : List Nat} (h : subB a b = true) : ∀ i ∈ a, i ∈ b := fun i hi => by
  unfold subB at h
  rw [List.all_eq_true] at h
  simpa using h i hi
structure RLc (P : Pg) (Γ : Gam) (elt tg iter : Expr) (ifs : List Expr) (scope : Scope) where
  ok' : BlkOk Γ.N Γ.sc scope (ownOf Γ scope)
  hs : notSet iter = true
  rg : RG P (Γ.blk scope) tg
  hix : ∀ i ∈ IT.ix rg.it, i ∈ (ownOf Γ scope).map (·.2)
  ri : RI P Γ tg iter
  rt : RT P (Γ.blk scope) ifs
  re : RE P (Γ.blk scope) elt
def resL (n : Nat) (Γ : Gam) (elt tg iter : Expr) (ifs : List Expr) (scope : Scope) : Option (RLc P Γ elt tg iter ifs scope) :=
  if h : (blkC Γ.N Γ.sc scope (ownOf Γ scope) && notSet iter) = true then
    match resG P (Γ.blk scope) tg with
    | some rg => if hx : subB (IT.ix rg.it) ((ownOf Γ scope).map (·.2)) = true then
        match resI P rE Γ tg iter, resIf P rE n (Γ.blk scope) ifs, rE (Γ.blk scope) elt with
        | some ri, some rt, some re => some ⟨blkOk_by ((Bool.and_eq_true _ _).mp h).1, ((Bool.and_eq_true _ _).mp h).2, rg, subB_ok hx, ri, rt, re⟩
        | _, _, _ => none
      else none
    | none => none
  else none
theorem RLc.lc {P : Pg} {Γ : Gam} {elt tg iter : Expr} {ifs : List Expr} {scope : Scope} (r : RLc P Γ elt tg iter ifs scope) (m : Bool) {pos : Pos} {g : Gm} {S : Ev} {E : XK} {k : Nat} {X : Cx} (hS : S.P = P) (G : Gd Γ g S E k X) :
    PE X (.ListComp elt [⟨tg, iter, ifs, 0⟩] scope pos) (tE g E (evE S (.lc m r.rg.it r.ri.ii r.rt.ic r.re.ie ((ownOf Γ scope).map (·.2))))) :=
  have hk := r.ok'.kind
  me_lc m G.calm G.nd (r.ri.ok g S E k X hS G) (by rw [G.N, G.sc]; exact r.ok') r.hix (fun s H C cl fp => r.rg.ok g S E0' k _ hS (gd_blk G hk s H C cl fp)) (fun s H C cl fp => r.rt.ok g S E0' k _ hS (gd_blk G hk s H C cl fp)) (fun s H C cl fp => r.re.ok g S E0' k _ hS (gd_blk G hk s H C cl fp)) (fold_ok r.hs)
theorem RLc.set {P : Pg} {Γ : Gam} {elt tg iter : Expr} {ifs : List Expr} {scope : Scope} (r : RLc P Γ elt tg iter ifs scope) (m : Bool) {pos spos py : Pos} {y : Str} {i : Nat} {g : Gm} {S : Ev} {E : XK} {k : Nat} {X : Cx} (hS : S.P = P) (G : Gd Γ g S E k X)
    (hi : Γ.idx y = some i) (hy : Γ.sc.names.lookup y = some .local) (hl : (py.line == pos.line) = true) (ha : (scope.names.any fun (n, k) => n == y && (k == .local || k == .cell)) = false) :
    PS X (.Assign [.Name y py] (.ListComp elt [⟨tg, iter, ifs, 0⟩] scope pos) spos) (tS g E (evS S (.asg (.nm i) (.lc m r.rg.it r.ri.ii r.rt.ic r.re.ie ((ownOf Γ scope).map (·.2)))))) :=
  have hk := r.ok'.kind
  have hy' : X.env.scope.names.lookup y = some .local := by rw [G.sc]; exact hy
  ms_setLc m G.calm G.nd (G.idx hi) hy' (sw_true G.kind hy' hl ha) (r.ri.ok g S E k X hS G) (by rw [G.N, G.sc]; exact r.ok') r.hix (fun s H C cl fp => r.rg.ok g S E0' k _ hS (gd_blk G hk s H C cl fp)) (fun s H C cl fp => r.rt.ok g S E0' k _ hS (gd_blk G hk s H C cl fp)) (fun s H C cl fp => r.re.ok g S E0' k _ hS (gd_blk G hk s H C cl fp)) (fold_ok r.hs)
/-! ### generator expressions -/
structure RGx (P : Pg) (Γ : Gam) (n : Nat) (elt tg iter : Expr) (ifs : List Expr) (scope : Scope) where
  ok' : GX.GSc Γ.N Γ.sc scope (ownOf Γ scope)
  hs : notSetL iter = true
  hgx : Γ.gx = n + 1
  hgen : Γ.gen = true
  rg : RG P (Γ.gn scope n) tg
  hix : ∀ i ∈ IT.ix rg.it, i ∈ (ownOf Γ scope).map (·.2)
  ri : RI P Γ tg iter
  rt : RT P (Γ.gn scope n) ifs
  re : RE P (Γ.gn scope n) elt
def resX (m : Nat) (Γ : Gam) (n : Nat) (elt tg iter : Expr) (ifs : List Expr) (scope : Scope) : Option (RGx P Γ n elt tg iter ifs scope) :=
  if h : (GX.gscB Γ.N Γ.sc scope (ownOf Γ scope) && notSetL iter && decide (Γ.gx = n + 1) && Γ.gen) = true then
    match resG P (Γ.gn scope n) tg with
    | some rg => if hx : subB (IT.ix rg.it) ((ownOf Γ scope).map (·.2)) = true then
        match resI P rE Γ tg iter, resIf P rE m (Γ.gn scope n) ifs, rE (Γ.gn scope n) elt with
        | some ri, some rt, some re => some ⟨GX.gsc_by (by simp only [Bool.and_eq_true] at h; exact h.1.1.1), by simp only [Bool.and_eq_true] at h; exact h.1.1.2, by simp only [Bool.and_eq_true, decide_eq_true_eq] at h; exact h.1.2, by simp only [Bool.and_eq_true] at h; exact h.2, rg, subB_ok hx, ri, rt, re⟩
        | _, _, _ => none
      else none
    | none => none
  else none
theorem RGx.gok {P : Pg} {Γ : Gam} {n : Nat} {elt tg iter : Expr} {ifs : List Expr} {scope : Scope} (r : RGx P Γ n elt tg iter ifs scope) {g : Gm} {S : Ev} {E : XK} {k : Nat} {X : Cx} (hS : S.P = P) (G : Gd Γ g S E k X) :
    ∃ c Pt, Pt ∈ g.G ∧ GX.GOk X (k + 1 + 3 * n) c Pt elt tg iter ifs scope (ownOf Γ scope) (tI g E (evI S r.ri.ii)) (gD g r.rg.it) (tT g E0' (evC S r.rt.ic)) (tE g E0' (evE S r.re.ie)) := by
  obtain ⟨c, Pt, h1, h2, h3⟩ := G.code r.hgen
  have hk := r.ok'.kind
  refine ⟨c, Pt, h3, ?_, h2, h1, by rw [G.N, G.sc]; exact r.ok', G.nd, r.ri.ok g S E k X hS G, gfold_ok r.hs, fun A s H cv fp hr => r.rg.ok g S E0' k _ hS (gd_gen G hk A s H cv fp hr), fun A s H cv fp hr => r.rt.ok g S E0' k _ hS (gd_gen G hk A s H cv fp hr), fun A s H cv fp hr => r.re.ok g S E0' k _ hS (gd_gen G hk A s H cv fp hr)⟩
  have := G.room
  rw [r.hgx] at this
  exact this.mono (by omega)
end
end M

set_option Elab.async false
set_option linter.all false
set_option maxRecDepth 100000
/-! N20: the resolver of expressions, tied. -/
namespace M
open PySem PySem.Spec L2
def revIx : (e : Expr) → Option { q : Nat × Pos × Pos × Pos // e = .Slice none none (some (.UnaryOp .USub (.Constant (.int 1) q.1 q.2.1) q.2.2.1)) q.2.2.2 }
  | .Slice none none (some (.UnaryOp .USub (.Constant (.int i) kk p1) p2)) p3 => if h : i = 1 then some ⟨(kk, p1, p2, p3), by rw [h]⟩ else none
  | _ => none
section
variable (P : Pg) (rE : Rec P)
def biOf (f : Str) (n : Nat) (m : Bool) : Option { b : Bi // (nmOf b).1 = f ∧ b ≠ .len } :=
  if h : f = ("abs" : Str) ∧ n = 1 then some ⟨.abs, h.1.symm, fun z => nomatch z⟩
  else if h : f = ("min" : Str) ∧ n = 2 then some ⟨.min2, h.1.symm, fun z => nomatch z⟩
  else if h : f = ("max" : Str) ∧ n = 2 then some ⟨.max2, h.1.symm, fun z => nomatch z⟩
  else if h : f = ("int" : Str) ∧ n = 1 then some ⟨.int, h.1.symm, fun z => nomatch z⟩
  else if h : f = ("list" : Str) ∧ n = 1 then some ⟨.list m, h.1.symm, fun z => nomatch z⟩
  else if h : f = ("tuple" : Str) ∧ n = 1 then some ⟨.tuple, h.1.symm, fun z => nomatch z⟩
  else if h : f = ("sum" : Str) ∧ n = 1 then some ⟨.sum, h.1.symm, fun z => nomatch z⟩
  else none
/-- f(..) by a name -/
def resCall (n : Nat) (Γ : Gam) (f : Str) (p : Pos) (args : List Expr) (pos : Pos) : Option (RE P Γ (.Call (.Name f p) args [] pos)) :=
  if hg : Γ.glB f = true then
    match args with
    | [] => if hf : (P.fns.contains f && okName f) = true then some ⟨.call f .nil, fun g S E k X hS G => by
          rw [Bool.and_eq_true] at hf
          exact me_call0 G (by rw [hS]; exact hf.1) (G.glb hg) (okName_1 hf.2).1⟩
      else match hc : P.cls.lookup f with
        | some ci => if hi : (ci.ini && okName f) = true then some ⟨.mk f (P.frz.contains f) .nil, fun g S E k X hS G => by
              rw [Bool.and_eq_true] at hi
              exact me_mk0 G (by unfold Ev.cls; rw [hS]; exact hc) hi.1 (G.glb hg) (okName_1 hi.2).1⟩ else none
        | none => none
    | e :: es =>
      if hf : (P.fns.contains f && okName f && (e :: es).all notStar) = true then
        match resA P rE Γ (e :: es) with
        | some a => some ⟨.call f a.ia, fun g S E k X hS G => by
            simp only [Bool.and_eq_true] at hf
            have h2 := hf.2
            rw [List.all_cons, Bool.and_eq_true] at h2
            exact me_call G (by rw [hS]; exact hf.1.1) (G.glb hg) (a.ok g S E k X hS G) (okName_1 hf.1.2).1 (star_ok h2.1) (noStars h2.2).2⟩
        | none => none
      else match hc : P.cls.lookup f with
        | some ci => if hi : (ci.ini && okName f && (e :: es).all notStar) = true then
            match resA P rE Γ (e :: es) with
            | some a => some ⟨.mk f (P.frz.contains f) a.ia, fun g S E k X hS G => by
                simp only [Bool.and_eq_true] at hi
                have h2 := hi.2
                rw [List.all_cons, Bool.and_eq_true] at h2
                exact me_mk G (by unfold Ev.cls; rw [hS]; exact hc) hi.1.1 (G.glb hg) (a.ok g S E k X hS G) (okName_1 hi.1.2).1 (star_ok h2.1) (noStars h2.2).2⟩
            | none => none
          else none
        | none =>
          match e, es with
          | .GeneratorExp elt [⟨tg, iter, ifs, ia⟩] scope gpos, [] => if hia : ia = 0 then
              if hall : f = ("all" : Str) then
                match resX P rE n Γ (Γ.gx - 1) elt tg iter ifs scope with
                | some r => some ⟨.gn .all r.rg.it r.ri.ii r.rt.ic r.re.ie ((ownOf Γ scope).map (·.2)), fun g S E k X hS G => by
                    subst hia hall
                    obtain ⟨c, Pt, h1, h2⟩ := r.gok hS G
                    exact pe_mono (GX.pe_allG h2 (G.glb hg) (by rw [G.mg]; exact G.blt _ (by simp))) (all_read h1 (G.nT Pt h1) r.hix)⟩
                | none => none
              else if hany : f = ("any" : Str) then
                match resX P rE n Γ (Γ.gx - 1) elt tg iter ifs scope with
                | some r => some ⟨.gn .any r.rg.it r.ri.ii r.rt.ic r.re.ie ((ownOf Γ scope).map (·.2)), fun g S E k X hS G => by
                    subst hia hany
                    obtain ⟨c, Pt, h1, h2⟩ := r.gok hS G
                    exact pe_mono (GX.pe_anyG h2 (G.glb hg) (by rw [G.mg]; exact G.blt _ (by simp))) (any_read h1 (G.nT Pt h1) r.hix)⟩
                | none => none
              else none
            else none
          | e, es =>
            if hl : (decide (f = ("len" : Str)) && decide (es = []) && notStar e) = true then
              match rE Γ e with
              | some a => some ⟨.bi .len (.cons a.ie .nil), fun g S E k X hS G => by
                  simp only [Bool.and_eq_true, decide_eq_true_eq] at hl
                  obtain ⟨⟨rfl, rfl⟩, h3⟩ := hl
                  exact me_len G (G.glb hg) (a.ok g S E k X hS G) (star_ok h3)⟩
              | none => none
            else if hi : (decide (f = ("isinstance" : Str)) && notStar e) = true then
              match es with
              | [.Tuple ces kk p2] => match rE Γ e, resTys P Γ ces with
                | some a, some t => some ⟨.isi a.ie t.ts, fun g S E k X hS G => by
                    simp only [Bool.and_eq_true, decide_eq_true_eq] at hi
                    obtain ⟨rfl, h3⟩ := hi
                    obtain ⟨us, cs, h4, h5, h6, h7⟩ := t.ok g S E k X hS G
                    exact me_isiT G (G.glb hg) (a.ok g S E k X hS G) h4 h5 h6 (by rw [h7]; exact Nat.le_trans t.len (by decide)) (star_ok h3)⟩
                | _, _ => none
              | [ty] => match rE Γ e, resTy P Γ ty with
                | some a, some t => if hs : notStar ty = true then some ⟨.isi a.ie [t.ty], fun g S E k X hS G => by
                    simp only [Bool.and_eq_true, decide_eq_true_eq] at hi
                    obtain ⟨rfl, h3⟩ := hi
                    obtain ⟨u, cv, h4, h5, h6⟩ := t.ok g S E k X hS G
                    exact me_isi G (G.glb hg) (a.ok g S E k X hS G) h4 h5 h6 (star_ok h3) (star_ok hs)⟩ else none
                | _, _ => none
              | _ => none
            else match biOf f (es.length + 1) (isMut P pos), resA P rE Γ (e :: es) with
              | some b, some a => if hall : (e :: es).all notStar = true then some ⟨.bi b.1 a.ia, fun g S E k X hS G => by
                  obtain ⟨b, rfl, hb⟩ := b
                  rw [List.all_cons, Bool.and_eq_true] at hall
                  exact me_bi G hb (G.glb hg) (a.ok g S E k X hS G) (star_ok hall.1) (noStars hall.2).2⟩ else none
              | _, _ => none
  else none
def mtFind (m : Str) : Option { b : Mt // mtNm b = m } :=
  if h : m = ("append" : Str) then some ⟨.append, h.symm⟩ else if h : m = ("extend" : Str) then some ⟨.extend, h.symm⟩ else if h : m = ("pop" : Str) then some ⟨.pop, h.symm⟩ else none
/-- o.m(..) -/
def resMeth (Γ : Gam) (o : Expr) (m : Str) (apos : Pos) (args : List Expr) (pos : Pos) : Option (RE P Γ (.Call (.Attribute o m apos) args [] pos)) :=
  if h : (attB o && args.all notStar && decide (args.length < 30) && (apos.endLine == pos.line)) = true then
    match rE Γ o with
    | some r => match mtFind m with
      | some b => match args with
        | [] => if hp : b.1 = .pop then some ⟨.mt .pop r.ie .nil, fun g S E k X hS G => by
              obtain ⟨b, rfl⟩ := b
              cases hp
              simp only [Bool.and_eq_true] at h
              exact me_mt0 G (r.ok g S E k X hS G) h.1.1.1 h.2⟩ else none
        | e :: es => match resA P rE Γ (e :: es) with
          | some a => some ⟨.mt b.1 r.ie a.ia, fun g S E k X hS G => by
              obtain ⟨b, rfl⟩ := b
              simp only [Bool.and_eq_true] at h
              exact me_mt G (r.ok g S E k X hS G) (a.ok g S E k X hS G) h.1.1.1 h.1.1.2 h.1.2 h.2⟩
          | none => none
      | none => match args with
        | [] => some ⟨.meth m r.ie .nil, fun g S E k X hS G => by
              simp only [Bool.and_eq_true] at h
              obtain ⟨pl, hpl⟩ := meth_form (o := o) (m := m) (apos := apos) (pos := pos) (es := []) (env := X.env) h.1.1.1 rfl rfl h.2
              exact me_meth0 G (r.ok g S E k X hS G) hpl⟩
        | e :: es => match resA P rE Γ (e :: es) with
          | some a => some ⟨.meth m r.ie a.ia, fun g S E k X hS G => by
              simp only [Bool.and_eq_true] at h
              have h2 := h.1.1.2
              obtain ⟨pl, hpl⟩ := meth_form (o := o) (m := m) (apos := apos) (pos := pos) (es := e :: es) (env := X.env) h.1.1.1 (noStars h2).1 h.1.2 h.2
              rw [List.all_cons, Bool.and_eq_true] at h2
              exact me_meth G (r.ok g S E k X hS G) (a.ok g S E k X hS G) (star_ok h2.1) (noStars h2.2).2 hpl⟩
          | none => none
    | none => none
  else none
/-- _law_heard(lambda: ..) -/
def resHeard (Γ : Gam) (f : Str) (p : Pos) (args : List Expr) (pos : Pos) : Option (RE P Γ (.Call (.Name f p) args [] pos)) :=
  match args with
  | [.Lambda ⟨[], [], none, [], [], none, []⟩ body scope lpos] =>
    if h : (P.hrd && Γ.lam && Γ.glB f && decide (f = ("_law_heard" : Str)) && LamX.lamSB Γ.sc scope && decide (1 ≤ Γ.gx)) = true then
      match rE (Γ.lm scope) body with
      | some r => some ⟨.heard r.ie, fun g S E k X hS G => by
          simp only [Bool.and_eq_true, decide_eq_true_eq] at h
          obtain ⟨⟨⟨⟨⟨h1, h2⟩, h3⟩, rfl⟩, h5⟩, h6⟩ := h
          exact me_heard G (by rw [hS]; exact h1) h2 (G.glb h3) h5 h6 fun E' X' G' => r.ok g S E' k X' hS G'⟩
      | none => none
    else none
  | _ => none
def resB (Γ : Gam) (op : BoolOp) (pos : Pos) : (es : List Expr) → Option (RE P Γ (.BoolOp op es pos))
  | [] => none
  | [a] => match rE Γ a with
    | some x => some ⟨x.ie, fun g S E k X hS G => pe_one (x.ok g S E k X hS G)⟩
    | none => none
  | a :: b :: es => match op with
    | .And => match rE Γ a, resB Γ .And pos (b :: es) with
      | some x, some y => some ⟨.and_ x.ie y.ie, fun g S E k X hS G => me_and (x.ok g S E k X hS G) (y.ok g S E k X hS G)⟩
      | _, _ => none
    | .Or => match rE Γ a, resB Γ .Or pos (b :: es) with
      | some x, some y => some ⟨.or_ x.ie y.ie, fun g S E k X hS G => me_or (x.ok g S E k X hS G) (y.ok g S E k X hS G)⟩
      | _, _ => none
def stepE (n : Nat) (Γ : Gam) : (e : Expr) → Option (RE P Γ e)
  | .Name x pos => if hn : okName x = true then
      if hv : Γ.visB x = true then
        match h : Γ.idx x with
        | some i => some ⟨.var i, fun g S E k X hS G => me_var (G.idx h) (G.vis hv) (okName_1 hn).1 (okName_1 hn).2⟩
        | none => none
      else if hg : Γ.glB x = true then
        match h : P.cons.lookup x with
        | some d => some ⟨.cst d, fun g S E k X hS G => by
            obtain ⟨u, v, h1, h2, h3⟩ := G.cons x d (by rw [hS]; exact h)
            exact me_cst (pe_glob (G.glb hg) (by rw [G.mg]; exact h1) h2 (okName_1 hn).1) h3⟩
        | none => none
      else none
    else none
  | .Constant c j pos => match c with
    | .none => some ⟨.cst .non, fun g S E k X hS G => me_cst pe_non fun _ _ _ => rfl⟩
    | .bool b => some ⟨.cst (.bl b), fun g S E k X hS G => me_cst pe_bl fun _ _ _ => rfl⟩
    | .int i => some ⟨.cst (.int i), fun g S E k X hS G => me_cst pe_int fun _ _ _ => rfl⟩
    | .str x => some ⟨.cst (.str x), fun g S E k X hS G => me_cst pe_str fun _ _ _ => rfl⟩
    | _ => none
  | .BinOp a op b pos => match obOf op, rE Γ a, rE Γ b with
    | some o, some x, some y => some ⟨.bin o.1 (isMut P pos) x.ie y.ie, fun g S E k X hS G => by
        obtain ⟨o, rfl⟩ := o
        exact me_bin G.K o _ (x.ok g S E k X hS G) (y.ok g S E k X hS G)⟩
    | _, _, _ => none
  | .UnaryOp op a pos => match op with
    | .USub => match rE Γ a with
      | some x => some ⟨.neg x.ie, fun g S E k X hS G => me_neg (x.ok g S E k X hS G)⟩
      | none => none
    | .Not => match rE Γ a with
      | some x => some ⟨.not_ x.ie, fun g S E k X hS G => me_not (x.ok g S E k X hS G)⟩
      | none => none
    | _ => none
  | .Compare a [o] [b] pos => match rE Γ a, rE Γ b with
    | some x, some y => if h : notSet b = true then
        some ⟨.cmp (ocfOf o).1 x.ie y.ie, fun g S E k X hS G => by
          have := me_cmp (pos := pos) G.K G.units (ocfOf o).1 (x.ok g S E k X hS G) (y.ok g S E k X hS G) (marks_ok h)
          rw [(ocfOf o).2] at this
          exact this⟩ else none
    | _, _ => none
  | .Compare a [o, p] [b, c] pos => match rE Γ a, rE Γ b, rE Γ c with
    | some x, some y, some z => if h : notSet c = true then
        some ⟨.chain (ocfOf o).1 (ocfOf p).1 x.ie y.ie z.ie, fun g S E k X hS G => by
          have := me_chain (pos := pos) G.K G.units (ocfOf o).1 (ocfOf p).1 (x.ok g S E k X hS G) (y.ok g S E k X hS G) (z.ok g S E k X hS G) (marks2_ok h)
          rw [(ocfOf o).2, (ocfOf p).2] at this
          exact this⟩ else none
    | _, _, _ => none
  | .BoolOp op es pos => resB P rE Γ op pos es
  | .IfExp c a b pos => match resC P rE n Γ c, rE Γ a, rE Γ b with
    | some z, some x, some y => some ⟨.ite z.ic x.ie y.ie, fun g S E k X hS G => me_ite (z.ok g S E k X hS G) (x.ok g S E k X hS G) (y.ok g S E k X hS G)⟩
    | _, _, _ => none
  | .Tuple es kk pos => match resA P rE Γ es with
    | some a => some ⟨.tup a.ia, fun g S E k X hS G => me_tup (a.ok g S E k X hS G)⟩
    | none => none
  | .List es pos => match resA P rE Γ es with
    | some a => some ⟨.lst (isMut P pos) a.ia, fun g S E k X hS G => me_lst _ (a.ok g S E k X hS G)⟩
    | none => none
  | .Subscript a b pos => match rE Γ a with
    | some x => match revIx b with
      | some q => some ⟨.rev (isMut P pos) x.ie, fun g S E k X hS G => by
          obtain ⟨q, rfl⟩ := q
          exact me_rev G.K _ (x.ok g S E k X hS G)⟩
      | none => match b with
        | .Slice lo hi none p2 => match resO P rE Γ lo, resO P rE Γ hi with
          | some l, some h => some ⟨.sl (isMut P pos) x.ie l.io h.io, fun g S E k X hS G => me_sl G.K _ (x.ok g S E k X hS G) (l.ok g S E k X hS G) (h.ok g S E k X hS G)⟩
          | _, _ => none
        | b => match rE Γ b with
          | some y => if h : plainIxB b = true then some ⟨.ix x.ie y.ie, fun g S E k X hS G => me_ix G.K (x.ok g S E k X hS G) (y.ok g S E k X hS G) (plainIx_ok h)⟩ else none
          | none => none
    | none => none
  | .Attribute a f pos => match rE Γ a with
    | some x => if h : attB a = true then some ⟨.att x.ie f, fun g S E k X hS G => me_att G (x.ok g S E k X hS G) (att_ok h)⟩ else none
    | none => none
  | .Call (.Name f p) args [] pos => match resHeard P rE Γ f p args pos with
    | some r => some r
    | none => resCall P rE n Γ f p args pos
  | .Call (.Attribute o m apos) args [] pos => resMeth P rE Γ o m apos args pos
  | .ListComp elt [⟨tg, iter, ifs, ia⟩] scope pos => if hia : ia = 0 then
      match resL P rE n Γ elt tg iter ifs scope with
      | some r => some ⟨.lc (isMut P pos) r.rg.it r.ri.ii r.rt.ic r.re.ie ((ownOf Γ scope).map (·.2)), fun g S E k X hS G => by
          subst hia
          exact r.lc _ hS G⟩
      | none => none
    else none
  | _ => none
end
def resE (P : Pg) : Nat → Rec P
  | 0 => fun _ _ => none
  | n + 1 => fun Γ e => stepE P (resE P n) n Γ e
end M

set_option Elab.async false
set_option linter.all false
set_option maxRecDepth 100000
/-! N21: the resolver of statements. -/
namespace M
open PySem PySem.Spec L2
theorem swapFold {ts vs : List Expr} {kt k2 : Nat} {pt pt2 : Pos} {env : Env} (h : vs.all (foldedForSure 8) = true) : swappedStores [.Tuple ts kt pt] (.Tuple vs k2 pt2) env = pure none := by
  unfold swappedStores
  simp only [h, if_true]
  repeat' split
  all_goals rfl
theorem swapLen {ts vs : List Expr} {kt k2 : Nat} {pt pt2 : Pos} {env : Env} (h : (ts.length == 2 || ts.length == 3) = false) : swappedStores [.Tuple ts kt pt] (.Tuple vs k2 pt2) env = pure none := by
  unfold swappedStores
  simp only [h, Bool.not_false, Bool.true_or, if_true]
theorem blockKind_of {env : Env} (h : env.scope.kind = .function) : env.blockKind = .function := by unfold Env.blockKind; rw [h]; rfl
theorem swap2 {a b : Expr} {x y : Str} {px py pt pt2 : Pos} {kt k2 : Nat} {env : Env} (hk : env.scope.kind = .function) (hx : env.scope.names.lookup x = some .local) (hy : env.scope.names.lookup y = some .local) (hl : (py.line == px.line) = true) (hxy : x ≠ y)
    (ha : notStar a = true) (hb : notStar b = true) (hf : [a, b].all (foldedForSure 8) = false) (hc : [a, b].all (constantsAlone 8) = false) :
    swappedStores [.Tuple [.Name x px, .Name y py] kt pt] (.Tuple [a, b] k2 pt2) env = pure (some [x, y]) := by
  have kx : env.kindOf x = some .local := hx
  have ky : env.kindOf y = some .local := hy
  have s1 : ∀ e : Expr, notStar e = true → (match e with | .Starred .. => true | _ => false) = false := fun e h => by cases e <;> first | rfl | cases h
  have hs : ([a, b].any fun | .Starred .. => true | _ => false) = false := by
    simp only [List.any_cons, List.any_nil, Bool.or_false, Bool.or_eq_false_iff]
    exact ⟨s1 a ha, s1 b hb⟩
  have hxy' : (y == x) = false := by simpa using Ne.symm hxy
  unfold swappedStores
  simp only [blockKind_of hk, hs, hf, hc, List.filterMap_cons, List.filterMap_nil, kx, ky, hl, List.head?_cons, Option.map_some, Option.getD_some, Expr.pos]
  simp [List.eraseDups_cons, hxy, hxy', Ne.symm hxy]
  intro h
  exfalso
  rcases h with h | h
  · exact Bool.false_ne_true ((s1 a ha).symm.trans h)
  · exact Bool.false_ne_true ((s1 b hb).symm.trans h)
theorem swap3 {a b c : Expr} {x y z : Str} {px py pz pt pt2 : Pos} {kt k2 : Nat} {env : Env} (hk : env.scope.kind = .function) (hx : env.scope.names.lookup x = some .local) (hy : env.scope.names.lookup y = some .local) (hz : env.scope.names.lookup z = some .local) (hl : (py.line == px.line) = true) (hl2 : (pz.line == px.line) = true) (hxy : x ≠ y) (hxz : x ≠ z) (hyz : y ≠ z)
    (ha : notStar a = true) (hb : notStar b = true) (hcc : notStar c = true) (hf : [a, b, c].all (foldedForSure 8) = false) (hc : [a, b, c].all (constantsAlone 8) = false) :
    swappedStores [.Tuple [.Name x px, .Name y py, .Name z pz] kt pt] (.Tuple [a, b, c] k2 pt2) env = pure (some [x, y, z]) := by
  have kx : env.kindOf x = some .local := hx
  have ky : env.kindOf y = some .local := hy
  have kz : env.kindOf z = some .local := hz
  have s1 : ∀ e : Expr, notStar e = true → (match e with | .Starred .. => true | _ => false) = false := fun e h => by cases e <;> first | rfl | cases h
  have hs : ([a, b, c].any fun | .Starred .. => true | _ => false) = false := by
    simp only [List.any_cons, List.any_nil, Bool.or_false, Bool.or_eq_false_iff]
    exact ⟨s1 a ha, s1 b hb, s1 c hcc⟩
  unfold swappedStores
  simp only [blockKind_of hk, hs, hf, hc, List.filterMap_cons, List.filterMap_nil, kx, ky, kz, hl, hl2, List.head?_cons, Option.map_some, Option.getD_some, Expr.pos]
  simp [List.eraseDups_cons, hxy, hxz, hyz, Ne.symm hxy, Ne.symm hxz, Ne.symm hyz]
  intro h
  exfalso
  rcases h with h | h | h
  · exact Bool.false_ne_true ((s1 a ha).symm.trans h)
  · exact Bool.false_ne_true ((s1 b hb).symm.trans h)
  · exact Bool.false_ne_true ((s1 c hcc).symm.trans h)
theorem swapCell {e : Expr} {y : Str} {py : Pos} {l : Nat} {env : Env} (h : env.scope.names.lookup y = some .cell) : swapsWith e (some (.Name y py)) l env = pure false := by
  have ky : env.kindOf y = some .cell := h
  unfold swapsWith
  simp only [ky]
  have hc : (some NameKind.cell == some NameKind.local) = false := rfl
  cases e <;> first | rfl | (simp only [hc, Bool.and_false, Bool.false_and]; done) | (simp only [hc, Bool.and_false, Bool.false_and]; rfl)
structure RS (P : Pg) (Γ : Gam) (st : Stmt) where
  is : IS
  ok : ∀ (g : Gm) (S : Ev) (E : XK) (k : Nat) (X : Cx), S.P = P → Gd Γ g S E k X → PS X st (tS g E (evS S is))
structure RSs (P : Pg) (Γ : Gam) (st : List Stmt) where
  is : IS
  ok : ∀ (g : Gm) (S : Ev) (E : XK) (k : Nat) (X : Cx), S.P = P → Gd Γ g S E k X → PSs X st (tS g E (evS S is))
section
variable (P : Pg)
/-- one target = value -/
def resAsg (n : Nat) (Γ : Gam) (tg v : Expr) (pos : Pos) : Option (RS P Γ (.Assign [tg] v pos)) :=
  match tg with
  | .Attribute o f p => match resE P n Γ o, resE P n Γ v with
    | some a, some b => some ⟨.setf a.ie f b.ie, fun g S E k X hS G => ms_setf G (a.ok g S E k X hS G) (b.ok g S E k X hS G) (quiet_comp rfl (fun _ _ z => nomatch z))⟩
    | _, _ => none
  | .Subscript o i p => if h : plainIxB i = true then
      match resE P n Γ o, resE P n Γ i, resE P n Γ v with
      | some a, some b, some c => some ⟨.setx a.ie b.ie c.ie, fun g S E k X hS G => ms_setx (a.ok g S E k X hS G) (b.ok g S E k X hS G) (c.ok g S E k X hS G) (setIx_ok h) (show swapsWith v (some (.Subscript o i p)) pos.line X.env = pure false from quiet_comp rfl (fun _ _ z => by cases z)) (swapS_ok2 rfl) (asg_one rfl)⟩
      | _, _, _ => none
    else none
  | .Name y py => match v with
    | .ListComp elt [⟨t0, iter, ifs, ia⟩] scope cpos => if hia : ia = 0 then
        if hcell : Γ.sc.names.lookup y = some .cell then
          match resG P Γ (.Name y py), resL P (resE P n) n Γ elt t0 iter ifs scope with
          | some t, some r => some ⟨.asg t.it (.lc (isMut P cpos) r.rg.it r.ri.ii r.rt.ic r.re.ie ((ownOf Γ scope).map (·.2))), fun g S E k X hS G => by
              subst hia
              exact ms_asg (r.lc _ hS G) (t.ok g S E k X hS G) (show swapsWith (.ListComp elt [⟨t0, iter, ifs, 0⟩] scope cpos) (some (.Name y py)) pos.line X.env = pure false from swapCell (by rw [G.sc]; exact hcell)) (swapS_ok2 rfl) (asg_one rfl)⟩
          | _, _ => none
        else
        match h1 : Γ.idx y, resL P (resE P n) n Γ elt t0 iter ifs scope with
        | some i, some r => if h : (decide (Γ.sc.names.lookup y = some .local) && (py.line == cpos.line) && !(scope.names.any fun (n, k) => n == y && (k == .local || k == .cell))) = true then
            some ⟨.asg (.nm i) (.lc (isMut P cpos) r.rg.it r.ri.ii r.rt.ic r.re.ie ((ownOf Γ scope).map (·.2))), fun g S E k X hS G => by
              subst hia
              simp only [Bool.and_eq_true, decide_eq_true_eq, Bool.not_eq_true'] at h
              exact r.set _ hS G h1 h.1.1 h.1.2 h.2⟩ else none
        | _, _ => none
      else none
    | v => if h : (noComp v) = true then
        match resG P Γ (.Name y py), resE P n Γ v with
        | some t, some b => some ⟨.asg t.it b.ie, fun g S E k X hS G => ms_asg (b.ok g S E k X hS G) (t.ok g S E k X hS G) (swapW_ok h) (swapS_ok2 rfl) (asg_one rfl)⟩
        | _, _ => none
      else none
  | .Tuple ts kt pt => match v with
    | .Tuple vs k2 pt2 => if h : (vs.all (foldedForSure 8) || !(ts.length == 2 || ts.length == 3)) = true then
        match resG P Γ (.Tuple ts kt pt), resE P n Γ (.Tuple vs k2 pt2) with
        | some t, some b => some ⟨.asg t.it b.ie, fun g S E k X hS G => ms_asg (b.ok g S E k X hS G) (t.ok g S E k X hS G) (swapW_ok rfl) (by
            rw [Bool.or_eq_true, Bool.not_eq_true'] at h
            rcases h with h | h
            · exact swapFold h
            · exact swapLen h) (asg_one rfl)⟩
        | _, _ => none
      else match ts, vs with
        | [.Name x px, .Name y py], [a, b] => match hi : Γ.idx x, hj : Γ.idx y, resA P (resE P n) Γ [a, b] with
          | some i, some j, some r => if h : (decide (Γ.sc.names.lookup x = some .local) && decide (Γ.sc.names.lookup y = some .local) && (py.line == px.line) && decide (x ≠ y) && notStar a && notStar b && !([a, b].all (foldedForSure 8)) && !([a, b].all (constantsAlone 8)) && decide (i ≠ j)) = true then
              some ⟨.par [i, j] r.ia, fun g S E k X hS G => by
                simp only [Bool.and_eq_true, decide_eq_true_eq, Bool.not_eq_true'] at h
                obtain ⟨⟨⟨⟨⟨⟨⟨⟨h1, h2⟩, h3⟩, h4⟩, h5⟩, h6⟩, h7⟩, h8⟩, h9⟩ := h
                rw [← G.sc] at h1 h2
                exact ms_par2 G.calm G.nd (G.idx hi) (G.idx hj) h9 h1 h2 (r.ok g S E k X hS G) (swap2 G.kind h1 h2 h3 h4 h5 h6 h7 h8) (swapW_ok rfl)⟩ else none
          | _, _, _ => none
        | [.Name x px, .Name y py, .Name z pz], [a, b, c] => match hi : Γ.idx x, hj : Γ.idx y, hl : Γ.idx z, resA P (resE P n) Γ [a, b, c] with
          | some i, some j, some l, some r => if h : (decide (Γ.sc.names.lookup x = some .local) && decide (Γ.sc.names.lookup y = some .local) && decide (Γ.sc.names.lookup z = some .local) && (py.line == px.line) && (pz.line == px.line) && decide (x ≠ y) && decide (x ≠ z) && decide (y ≠ z) && notStar a && notStar b && notStar c && !([a, b, c].all (foldedForSure 8)) && !([a, b, c].all (constantsAlone 8)) && decide (i ≠ j) && decide (i ≠ l) && decide (j ≠ l)) = true then
              some ⟨.par [i, j, l] r.ia, fun g S E k X hS G => by
                simp only [Bool.and_eq_true, decide_eq_true_eq, Bool.not_eq_true'] at h
                obtain ⟨⟨⟨⟨⟨⟨⟨⟨⟨⟨⟨⟨⟨⟨⟨h1, h2⟩, h3⟩, h4⟩, h5⟩, h6⟩, h7⟩, h8⟩, h9⟩, h10⟩, h11⟩, h12⟩, h13⟩, h14⟩, h15⟩, h16⟩ := h
                rw [← G.sc] at h1 h2 h3
                exact ms_par3 G.calm G.nd (G.idx hi) (G.idx hj) (G.idx hl) h14 h15 h16 h1 h2 h3 (r.ok g S E k X hS G) (swap3 G.kind h1 h2 h3 h4 h5 h6 h7 h8 h9 h10 h11 h12 h13) (swapW_ok rfl)⟩ else none
          | _, _, _, _ => none
        | _, _ => none
    | v => if h : (noComp v && notTup v) = true then
        match resG P Γ (.Tuple ts kt pt), resE P n Γ v with
        | some t, some b => some ⟨.asg t.it b.ie, fun g S E k X hS G => by
            rw [Bool.and_eq_true] at h
            exact ms_asg (b.ok g S E k X hS G) (t.ok g S E k X hS G) (swapW_ok h.1) (swapS_ok h.2) (asg_one rfl)⟩
        | _, _ => none
      else none
  | _ => none
mutual
def resS : Nat → (Γ : Gam) → (st : Stmt) → Option (RS P Γ st)
  | 0, _, _ => none
  | n + 1, Γ, st => match st with
    | .Expr e pos => match e with
      | .Constant (.str x) j p => some ⟨.skip, fun g S E k X hS G => ms_doc⟩
      | e => if h : noComp e = true then
          match resE P n Γ e with
          | some a => some ⟨.ex a.ie, fun g S E k X hS G => ms_ex (a.ok g S E k X hS G) (swaps_ok h)⟩
          | none => none
        else none
    | .Pass pos => some ⟨.skip, fun g S E k X hS G => ms_pass⟩
    | .Break pos => some ⟨.brk, fun g S E k X hS G => ms_brk⟩
    | .Continue pos => some ⟨.cnt, fun g S E k X hS G => ms_cnt⟩
    | .Return none pos => some ⟨.ret (.cst .non), fun g S E k X hS G => ms_retN⟩
    | .Return (some e) pos => match resE P n Γ e with
      | some a => some ⟨.ret a.ie, fun g S E k X hS G => ms_ret (a.ok g S E k X hS G)⟩
      | none => none
    | .If c a b pos => match resC P (resE P n) n Γ c, resSs n Γ a, resSs n Γ b with
      | some z, some x, some y => some ⟨.ite z.ic x.is y.is, fun g S E k X hS G => ms_ite (z.ok g S E k X hS G) (x.ok g S E k X hS G) (y.ok g S E k X hS G)⟩
      | _, _, _ => none
    | .While c body [] pos => if ht : Γ.top = true then
        match resC P (resE P n) n Γ c, resSs n Γ body with
        | some z, some x => some ⟨.whil z.ic x.is, fun g S E k X hS G => ms_while (G.stm ht).1 (z.ok g S E k X hS G) (x.ok g S E k X hS G)⟩
        | _, _ => none
      else none
    | .For tg iter body [] pos => if ht : (Γ.top && notSet iter) = true then
        match resG P Γ tg, resI P (resE P n) Γ tg iter, resSs n Γ body with
        | some t, some i, some x => some ⟨.for_ t.it i.ii x.is, fun g S E k X hS G => by
            rw [Bool.and_eq_true] at ht
            exact ms_for (G.stm ht.1).1 G.calm (i.ok g S E k X hS G) (t.ok g S E k X hS G) (x.ok g S E k X hS G) (fold_ok ht.2)⟩
        | _, _, _ => none
      else none
    | .Assign [tg] v pos => resAsg P n Γ tg v pos
    | .AugAssign tg op e pos => match obOf op, resE P n Γ e with
      | some o, some b => if ho : augOk o.1 = true then
          match tg with
          | .Name x p => match h : Γ.idx x with
            | some i => if hl : Γ.locB x = true then some ⟨.aug i o.1 b.ie, fun g S E k X hS G => by
                obtain ⟨o, rfl⟩ := o
                exact ms_aug ho G.nd (G.idx h) (G.loc hl).1 (b.ok g S E k X hS G) (G.loc hl).2⟩ else none
            | none => none
          | .Attribute a f p => match resE P n Γ a with
            | some a => some ⟨.augf a.ie f o.1 b.ie, fun g S E k X hS G => by
                obtain ⟨o, rfl⟩ := o
                exact ms_augf G ho (a.ok g S E k X hS G) (b.ok g S E k X hS G)⟩
            | none => none
          | .Subscript a i p => match resE P n Γ a, resE P n Γ i with
            | some a, some c => if hi : plainIxB i = true then some ⟨.augx a.ie c.ie o.1 b.ie, fun g S E k X hS G => by
                obtain ⟨o, rfl⟩ := o
                exact ms_augx G.K ho (a.ok g S E k X hS G) (c.ok g S E k X hS G) (b.ok g S E k X hS G) (augIx_ok hi)⟩ else none
            | _, _ => none
          | _ => none
        else none
      | _, _ => none
    | .Raise (some (.Call (.Name c pc) (e :: es) [] pcall)) none pos => match hc : P.exc.lookup c with
      | some ns => if h : (Γ.top && Γ.glB c && !ns.isEmpty && !(c == ("__debug__" : Str)) && (e :: es).all notStar) = true then
          match resA P (resE P n) Γ (e :: es) with
          | some a => some ⟨.raise c a.ia, fun g S E k X hS G => by
              simp only [Bool.and_eq_true, Bool.not_eq_true'] at h
              have hst := h.2
              rw [List.all_cons, Bool.and_eq_true] at hst
              exact ms_raise G h.1.1.1.1 (by unfold Ev.exc; rw [hS]; exact hc) (fun z => by rw [z] at h; exact absurd h.1.1.2 (by simp)) (G.glb h.1.1.1.2) h.1.2 (star_ok hst.1) (noStars hst.2).2 (a.ok g S E k X hS G)⟩
          | none => none
        else none
      | none => none
    | _ => none
def resSs : Nat → (Γ : Gam) → (st : List Stmt) → Option (RSs P Γ st)
  | 0, _, _ => none
  | n + 1, Γ, st => match st with
    | [] => some ⟨.skip, fun g S E k X hS G => ms_nil⟩
    | s :: r => match resS n Γ s, resSs n Γ r with
      | some a, some b => some ⟨.seq a.is b.is, fun g S E k X hS G => ms_cons (a.ok g S E k X hS G) (b.ok g S E k X hS G)⟩
      | _, _ => none
end
end
end M

set_option Elab.async false
set_option linter.all false
set_option maxRecDepth 100000
/-! N22: the defs of a program, by induction on the depth of calls. -/
namespace M
open PySem PySem.Spec L2
/-- one def: its class (or ""), its name, its parameters, its names, its statement, whether its result is handed out by value, whether it makes generators, its meaning -/
structure FnD where
  c : Str
  f : Str
  ps : List Str
  N : List Str
  st : Stmt
  pure : Bool
  gen : Bool
  lam : Bool
  ir : IS
def stBody : Stmt → List Stmt
  | .FunctionDef (body := b) .. => b
  | _ => []
def stScope : Stmt → Scope
  | .FunctionDef (scope := s) .. => s
  | _ => ⟨.module, [], false, false, []⟩
def stArgs : Stmt → Arguments
  | .FunctionDef (args := a) .. => a
  | _ => ⟨[], [], none, [], [], none, []⟩
def FnD.gam (d : FnD) : Gam := ⟨d.N, stScope d.st, 2, true, d.gen, d.lam, fun _ => true⟩
def startD (N : List Str) (ds : List D) : Dl := ds.map some ++ List.replicate (N.length - ds.length) none
def retD (x : Mo (Fl × Dl)) : Mo D := mBind x fun r μ => match r.1 with
  | .nx => mOk .non μ
  | .rt d => mOk d μ
  | _ => none
/-- what a def comes to -/
def FnD.run (d : FnD) (S : Ev) (ds : List D) (μ : Mu) : Mo D := if ds.length = d.ps.length then (if d.pure then fzR μ (retD (evS S d.ir (startD d.N ds) μ)) else retD (evS S d.ir (startD d.N ds) μ)) else none
def findFn (fs : List FnD) (c f : Str) : Option FnD := fs.find? fun d => decide (d.c = c) && decide (d.f = f)
def evCall (P : Pg) (W : Nat) (fs : List FnD) : Nat → Str → Str → List D → Mu → Mo D
  | 0, _, _, _, _ => none
  | k + 1, c, f, ds, μ => match findFn fs c f with
    | some d => d.run ⟨P, evCall P W fs k, W⟩ ds μ
    | none => none
def evK (P : Pg) (W : Nat) (fs : List FnD) (k : Nat) : Ev := ⟨P, evCall P W fs k, W⟩
theorem start_sl {g : Gm} {w : Wd} {H : Hp} {N : List Str} {ds : List D} {vs : List V} (h : IsL g.K g.mg w H ds vs) : Sl g w H (startD N ds) (L2.start N vs) := by
  have hl := h.length
  refine ⟨by unfold L2.start startD; simp [hl], fun i d hd => ?_⟩
  unfold startD at hd
  unfold L2.start
  by_cases hi : i < ds.length
  · rw [List.getElem?_append_left (by simpa using hi), List.getElem?_map] at hd
    cases e : ds[i]? with
    | none => rw [e] at hd; cases hd
    | some x =>
      rw [e] at hd
      cases hd
      obtain ⟨v, h1, h2⟩ := h.get e
      exact ⟨v, by rw [List.getElem?_append_left (by simpa [hl] using hi), List.getElem?_map, h1]; rfl, h2⟩
  · rw [List.getElem?_append_right (by simpa using hi), List.getElem?_replicate] at hd
    split at hd <;> cases hd
theorem ret_post {g : Gm} {w : Wd} {H : Hp} {E : XK} {x : Mo (Fl × Dl)} {Q : VK} (P : Post g w H E (retD x) (IsV g) Q) : Post g w H E x (IsG g) (gQ { nx := fun _ H' => Q .non H', rt := Q }) := by
  refine Post.bind P fun w1 H1 r o e1 R1 hL i P1 => ?_
  obtain ⟨f, Δ1⟩ := r
  cases o with
  | nx σ1 =>
    cases f <;> first | exact i.elim | skip
    exact P1.here R1 rfl
  | rt v =>
    cases f <;> first | exact i.elim | skip
    exact P1.here R1 i
  | bk σ1 =>
    cases f <;> first | exact i.elim | skip
    exact P1.none.elim
  | ct σ1 =>
    cases f <;> first | exact i.elim | skip
    exact P1.none.elim
/-- what is known of the code of the defs that make generators -/
def CodeF (g : Gm) (base : Heap) (d : FnD) (cdv : Value) : Prop := d.gen = true → ∃ c P, cdv = .ref c ∧ GxR.TabB base g.mg c P ∧ P ∈ g.G
/-- .. that make lambdas -/
def CodeL (g : Gm) (base : Heap) (d : FnD) (qual : Str) (cdv : Value) : Prop := d.lam = true → ∃ c P, cdv = .ref c ∧ LamX.TabB base g.mg c P ∧ (P, qual ++ ".<locals>." ++ "<lambda>") ∈ g.T ∧ ∀ p ∈ g.T, p.1 = P → p.2 = qual ++ ".<locals>." ++ "<lambda>"
/-- the surroundings that do not lean on the depth -/
structure Sur (P : Program) (W : World) (base : Heap) (g : Gm) (pg : Pg) : Prop where
  cons : ∀ x d, pg.cons.lookup x = some d → ∃ u v, g.mg x = some u ∧ RelV v u ∧ ∀ w H, RepH g w H → Is g.K g.mg w H d v
  blt : ∀ x ∈ (["len", "abs", "min", "max", "int", "list", "tuple", "sum", "isinstance", "range", "enumerate", "zip", "all", "any", "bool", "str", "dict", "sorted", "set"] : List Str), g.mg x = none
  nT : ∀ P ∈ g.G, ∀ q ∈ g.T, q.1 ≠ P
  hrd : pg.hrd = true → HeardF g.K g.mg
  exc : ∀ c ns, pg.exc.lookup c = some ns → ∀ (X : Cx), X.prog = P → X.K = g.K → X.mg = g.mg → X.calm = true → Room 1 X.A → RaiseF g c ns X
section
variable {P : Program} {W : World} {base : Heap} {g : Gm} {pg : Pg}
theorem fn_step {d : FnD} {S : Ev} {S' : Ev} {k : Nat} (hS : S.P = pg) (sur : Sur P W base g pg) (bd : Bd P W base g S k) {x qual : Str} {params : Arguments} {dvs : List V} {kws : List (Str × V)} {fa : Addr} {fd : FuncData}
    (F : FunD g.K x qual params (stBody d.st) (stScope d.st) dvs kws fa fd) (hcode : ∀ cdv, fd.code = cdv → CodeF g base d cdv) (hcodeL : ∀ cdv, fd.code = cdv → CodeL g base d qual cdv) (S0 : FnScope d.N d.ps (stScope d.st)) (r : RSs pg d.gam (stBody d.st)) (hr : r.is = d.ir)
    (hcall : ∀ ds μ, S'.call d.c d.f ds μ = d.run S ds μ) : FnOk P W g.K g.mg base (CX P W) (k + 8) fa fd d.ps (spM g S' d.c d.f) := by
  obtain ⟨oc, od, dV, kV, doc, pm, an, cdv, ct, osl, hfd, lk, hcd, _, _⟩ := F.ex
  subst hfd
  refine fn_of (k := k + 7) lk hcd S0 (fun vs H Q E h => ?_) (fun A outer s H vs Q E hrm h => ?_)
  · obtain ⟨w, ds, R, i, Pp⟩ := h
    rw [hcall] at Pp
    unfold FnD.run at Pp
    split at Pp
    · rename_i hl
      rw [i.length]; exact hl
    · exact Pp.none.elim
  · obtain ⟨w, ds, R, i, Pp⟩ := h
    rw [hcall] at Pp
    unfold FnD.run at Pp
    split at Pp
    · have P2 : Post g w H E (retD (evS S d.ir (startD d.N ds) w.μ)) (IsV g) Q := by
        cases hp : d.pure with
        | true => rw [hp] at Pp; exact post_fz R (Ext.refl _ _) rfl Pp
        | false => rw [hp] at Pp; exact Pp
      have tk : Takes (cxOf (CX P W) P W g.K g.mg base d.N qual (stScope d.st) fa cdv A outer s H E) (fun cls dd _ H => E cls dd H) := takes_of rfl rfl rfl rfl
      have G : Gd d.gam g S E k (cxOf (CX P W) P W g.K g.mg base d.N qual (stScope d.st) fa cdv A outer s H E) :=
        { K := rfl, mg := rfl, calm := rfl, bd := bd, room := hrm, pass := passes_call tk (fun _ _ _ _ h => h), N := rfl, nd := S0.nd, sc := rfl, kind := S0.kind, fnb := fun _ _ => rfl,
          cons := fun x d h => sur.cons x d (by rw [← hS]; exact h), blt := sur.blt,
          code := fun hg => by
            obtain ⟨c, Pt, h1, h2, h3⟩ := hcode cdv rfl hg
            exact ⟨c, Pt, h1, h2, h3⟩
          nT := sur.nT
          lam := fun hl => by
            obtain ⟨c, Pt, h1, h2, h3, h4⟩ := hcodeL cdv rfl hl
            exact ⟨c, Pt, h1, h2, h3, h4⟩
          hrd := fun h => sur.hrd (by rw [← hS]; exact h)
          stm := fun _ => ⟨passes_of rfl, tk, fun c ns h => sur.exc c ns (by rw [← hS]; exact h) _ rfl rfl rfl rfl (hrm.mono (by omega))⟩ }
      refine ⟨_, r.ok g S E k _ hS G, w, startD d.N ds, ⟨R, start_sl i⟩, ?_⟩
      rw [hr]
      exact ret_post P2
    · exact Pp.none.elim
end
end M

set_option Elab.async false
set_option linter.all false
set_option maxRecDepth 100000
/-! N23: all defs, by induction on the depth. -/
namespace M
open PySem PySem.Spec L2
/-- what is known of one def -/
structure FnX (base : Heap) (g : Gm) (pg : Pg) (d : FnD) (fa : Addr) : Prop where
  ex : ∃ fd x qual params dvs kws, FunD g.K x qual params (stBody d.st) (stScope d.st) dvs kws fa fd ∧ (∀ cdv, fd.code = cdv → CodeF g base d cdv) ∧ (∀ cdv, fd.code = cdv → CodeL g base d qual cdv) ∧ Binds g.K fd d.ps []
  sc : FnScope d.N d.ps (stScope d.st)
  res : ∃ r : RSs pg d.gam (stBody d.st), r.is = d.ir
structure Hd (base : Heap) (g : Gm) (pg : Pg) (fs : List FnD) : Prop where
  cls : ∀ (S : Ev), S.P = pg → ClsOk g S
  fn : ∀ f, pg.fns.contains f = true → ∃ d fa, findFn fs "" f = some d ∧ g.mg f = some (.ref fa) ∧ PySem.W.keepIn g.K (.ref fa) = true ∧ FnX base g pg d fa
  meth : ∀ c ci m, pg.cls.lookup c = some ci → ci.meths.contains m = true → ∃ d C fa, findFn fs c m = some d ∧ g.mg c = some (.ref C) ∧ Meth g.K C m fa ∧ FnX base g pg d fa
  prop : ∀ c ci f, pg.cls.lookup c = some ci → ci.props.contains f = true → ∃ d C p fa, findFn fs c f = some d ∧ g.mg c = some (.ref C) ∧ PropOf g.K C f p fa ∧ FnX base g pg d fa
  ini : ∀ c ci, pg.cls.lookup c = some ci → ci.ini = true → ∃ d C fa, findFn fs c "__init__" = some d ∧ g.mg c = some (.ref C) ∧ Mk g.K C fa ∧ FnX base g pg d fa
theorem findFn_is {fs : List FnD} {c f : Str} {d : FnD} (h : findFn fs c f = some d) : d.c = c ∧ d.f = f := by
  have := List.find?_some h
  simpa using this
section
variable {P : Program} {W : World} {base : Heap} {g : Gm} {pg : Pg} {fs : List FnD} {n : Nat}
theorem fnF0 {d : FnD} {fa : Addr} {c f : Str} (x : FnX base g pg d fa) : FnF P W base g (evK pg n fs 0) 0 c f fa := by
  obtain ⟨fd, _, _, _, _, _, _, _, _, B⟩ := x.ex
  refine ⟨fd, d.ps, ⟨fun vs H Q E h => ?_, fun A outer s H args us vs Q E hr e0 hb r h => ?_⟩, B⟩
  · obtain ⟨w, ds, R, i, Pp⟩ := h
    exact Pp.none.elim
  · obtain ⟨w, ds, R, i, Pp⟩ := h
    exact Pp.none.elim
theorem fnF1 (sur : Sur P W base g pg) {k : Nat} (bd : Bd P W base g (evK pg n fs k) (8 * k)) {d : FnD} {fa : Addr} {c f : Str} (hd : findFn fs c f = some d) (x : FnX base g pg d fa) : FnF P W base g (evK pg n fs (k + 1)) (8 * (k + 1)) c f fa := by
  obtain ⟨fd, nm, qual, params, dvs, kws, F, hc, hcL, B⟩ := x.ex
  obtain ⟨r, hr⟩ := x.res
  obtain ⟨rfl, rfl⟩ := findFn_is hd
  refine ⟨fd, d.ps, ?_, B⟩
  have := fn_step (S := evK pg n fs k) (S' := evK pg n fs (k + 1)) rfl sur bd F hc hcL x.sc r hr (fun ds μ => by
    show evCall pg n fs (k + 1) d.c d.f ds μ = _
    unfold evCall
    rw [hd]
    rfl)
  exact this
theorem bd_all (sur : Sur P W base g pg) (hd : Hd base g pg fs) : ∀ k, Bd P W base g (evK pg n fs k) (8 * k)
  | 0 => by
    refine ⟨hd.cls _ rfl, fun f hf => ?_, fun c ci m hc hm => ?_, fun c ci f hc hf => ?_, fun c ci hc hi => ?_⟩
    · obtain ⟨d, fa, h1, h2, h3, h4⟩ := hd.fn f hf
      exact ⟨fa, h2, h3, fnF0 h4⟩
    · obtain ⟨d, C, fa, h1, h2, h3, h4⟩ := hd.meth c ci m hc hm
      exact ⟨C, fa, h2, h3, fnF0 h4⟩
    · obtain ⟨d, C, p, fa, h1, h2, h3, h4⟩ := hd.prop c ci f hc hf
      exact ⟨C, p, fa, h2, h3, fnF0 h4⟩
    · obtain ⟨d, C, fa, h1, h2, h3, h4⟩ := hd.ini c ci hc hi
      exact ⟨C, fa, h2, h3, fnF0 h4⟩
  | k + 1 => by
    have bd := bd_all sur hd k
    refine ⟨hd.cls _ rfl, fun f hf => ?_, fun c ci m hc hm => ?_, fun c ci f hc hf => ?_, fun c ci hc hi => ?_⟩
    · obtain ⟨d, fa, h1, h2, h3, h4⟩ := hd.fn f hf
      exact ⟨fa, h2, h3, fnF1 sur bd h1 h4⟩
    · obtain ⟨d, C, fa, h1, h2, h3, h4⟩ := hd.meth c ci m hc hm
      exact ⟨C, fa, h2, h3, fnF1 sur bd h1 h4⟩
    · obtain ⟨d, C, p, fa, h1, h2, h3, h4⟩ := hd.prop c ci f hc hf
      exact ⟨C, p, fa, h2, h3, fnF1 sur bd h1 h4⟩
    · obtain ⟨d, C, fa, h1, h2, h3, h4⟩ := hd.ini c ci hc hi
      exact ⟨C, fa, h2, h3, fnF1 sur bd h1 h4⟩
end
end M

set_option Elab.async false
set_option linter.all false
set_option maxRecDepth 100000
/-! N24: the head's facts, all at once. -/
namespace M
open PySem PySem.Spec L2 PySem.W
/-- a def's place, its defaults -/
structure FnP where
  d : FnD
  prp : Bool
  qual : Str
  dfl : List He.Dv
def getterOf (K : Frag) (C : Addr) (f : Str) : Addr := match findIn K (.ref C) f with
  | some (some (.ref p)) => match recIn K p "property" with
    | some (.ref g :: _) => g
    | _ => 0
  | _ => 0
def FnP.adr (K : Frag) (p : FnP) : Addr := if p.d.c = "" then He.ga K p.d.f else if p.prp then getterOf K (He.ga K p.d.c) p.d.f else He.ma K (He.ga K p.d.c) p.d.f
def FnP.da (p : FnP) : He5.DefA := { at_ := fun K => p.adr K, name := p.d.f, qual := p.qual, params := stArgs p.d.st, body := stBody p.d.st, scope := stScope p.d.st, dfl := p.dfl }
/-- code object and table of the def at a -/
def cTa (K : Frag) (a : Addr) : Addr × Addr := match K.lookup a with
  | some ⟨_, _, .func fd, _⟩ => match fd.code with
    | .ref c => (c, He.tabOf K c)
    | _ => (0, 0)
  | _ => (0, 0)
def eqOV (a b : Option (Option Value)) : Bool := decide (a = b)
/-! ### the facts as one look at K -/
def fnB (K : Frag) (f : Str) : Bool := eqOV (nsIn K mainGlobals f) (some (some (.ref (He.ga K f)))) && keepIn K (.ref (He.ga K f))
def freeB (K : Frag) (x : Str) : Bool := eqOV (nsIn K mainGlobals x) (some none)
def flB (u : Value) : D → Bool
  | .int i => match u with
    | .int j _ => decide (i = j)
    | _ => false
  | .str x => match u with
    | .str y _ => decide (x = y)
    | _ => false
  | _ => false
def flBs : List Value → List D → Bool
  | [], [] => true
  | u :: us, d :: ds => flB u d && flBs us ds
  | _, _ => false
def conB (K : Frag) (x : Str) (d : D) : Bool := match nsIn K mainGlobals x with
  | some (some u) => match d with
    | .tup ds => match u with
      | .ref a => match K.lookup a with
        | some ⟨.type n, _, .seq its _, _⟩ => n == "tuple" && decide (its.size ≤ 1000) && flBs its.toList ds
        | _ => false
      | _ => false
    | d => flB u d
  | _ => false
def clsB (K : Frag) (c : Str) (ci : CI) : Bool :=
  eqOV (nsIn K mainGlobals c) (some (some (.ref (He.ga K c)))) && (He.Fa.cls c).ok K && ci.flds.all (fun f => (He.Fa.noat c f).ok K) && ci.meths.all (fun m => (He.Fa.meth c m).ok K) &&
  eqOV (findIn K (.ref (He.ga K c)) "__class__") (some (some (.builtin "object.__class__"))) && decide (mroIn K (He.ga K c) (.type "object") = some true) &&
  [Bt.int, .bool, .str, .tuple, .list, .dict, .none].all (fun T => decide (kitOne K (.ref (He.ga K c)) (.type (btN T)) = some false) && decide (kitOne K (.type (btN T)) (.ref (He.ga K c)) = some false)) &&
  (!ci.ini || (He.Fa.mkr c).ok K)
def propB (K : Frag) (c f : Str) : Bool := match findIn K (.ref (He.ga K c)) f with
  | some (some (.ref p)) => eqOV (specialIn K (.ref p) "__get__") (some (some (.builtin "property.__get__"))) && decide (takesIn K (.ref p) = some true) && (match recIn K p "property" with
    | some (.ref _ :: _) => true
    | _ => false)
  | _ => false
def blts : List Str := ["len", "abs", "min", "max", "int", "list", "tuple", "sum", "isinstance", "range", "enumerate", "zip", "all", "any", "bool", "str", "dict", "sorted", "set"]
def pgB (pg : Pg) (K : Frag) : Bool :=
  pg.fns.all (fnB K) && blts.all (freeB K) && pg.cons.all (fun q => conB K q.1 q.2) && pg.cls.all (fun q => clsB K q.1 q.2 && q.2.props.all (propB K q.1)) &&
  pg.cls.all (fun q => pg.cls.all fun r => decide (kitOne K (.ref (He.ga K q.1)) (.ref (He.ga K r.1)) = some (decide (q.1 = r.1)))) &&
  eqOV (specialIn K (.builtin "object.__class__") "__get__") (some (some (.builtin "getset_descriptor.__get__"))) && decide (takesIn K (.builtin "object.__class__") = some true)
/-! ### what follows -/
section
variable {K : Frag} {h : Heap} {mg : Str → Option Value} {pg : Pg}
theorem fnB_ok (X : K.In h) (G : h.Ns mainGlobals mg) {f : Str} (c : fnB K f = true) : mg f = some (.ref (He.ga K f)) ∧ keepIn K (.ref (He.ga K f)) = true := by
  unfold fnB at c
  rw [Bool.and_eq_true] at c
  exact ⟨mg_of X G (of_decide_eq_true c.1), c.2⟩
theorem freeB_ok (X : K.In h) (G : h.Ns mainGlobals mg) {x : Str} (c : freeB K x = true) : mg x = none := mg_none_of X G (of_decide_eq_true c)
theorem flB_ok {g : Gm} {w : Wd} {H : Hp} {u : Value} {d : D} (h : flB u d = true) : ∃ v, RelV v u ∧ Is g.K g.mg w H d v := by
  cases d with
  | int i =>
    cases u <;> simp only [flB] at h <;> first | cases h | skip
    exact ⟨.int i, ⟨_, by rw [of_decide_eq_true h]⟩, rfl⟩
  | str x =>
    cases u <;> simp only [flB] at h <;> first | cases h | skip
    exact ⟨.str x, ⟨_, by rw [of_decide_eq_true h]⟩, rfl⟩
  | _ => simp [flB] at h
def flVal : D → V
  | .int i => .int i
  | .str x => .str x
  | _ => .non
theorem flB_ok' {g : Gm} {w : Wd} {H : Hp} {u : Value} {d : D} (h : flB u d = true) : RelV (flVal d) u ∧ Is g.K g.mg w H d (flVal d) := by
  cases d with
  | int i =>
    cases u <;> simp only [flB] at h <;> first | cases h | skip
    exact ⟨⟨_, by rw [of_decide_eq_true h]⟩, rfl⟩
  | str x =>
    cases u <;> simp only [flB] at h <;> first | cases h | skip
    exact ⟨⟨_, by rw [of_decide_eq_true h]⟩, rfl⟩
  | _ => simp [flB] at h
theorem flBs_ok {g : Gm} {w : Wd} {H : Hp} : ∀ {us : List Value} {ds : List D}, flBs us ds = true → Vals (ds.map flVal) us ∧ IsL g.K g.mg w H ds (ds.map flVal)
  | [], [], _ => ⟨.nil, IsL.nil⟩
  | [], _ :: _, h => by simp [flBs] at h
  | _ :: _, [], h => by simp [flBs] at h
  | u :: us, d :: ds, h => by
    simp only [flBs, Bool.and_eq_true] at h
    obtain ⟨a, b⟩ := flB_ok' (g := g) (w := w) (H := H) h.1
    obtain ⟨c, e⟩ := flBs_ok (g := g) (w := w) (H := H) h.2
    exact ⟨.cons a c, IsL.cons b e⟩
theorem conB_ok {g : Gm} (X : g.K.In h) (G : h.Ns mainGlobals g.mg) {x : Str} {d : D} (c : conB g.K x d = true) : ∃ u v, g.mg x = some u ∧ RelV v u ∧ ∀ w H, RepH g w H → Is g.K g.mg w H d v := by
  unfold conB at c
  split at c
  · rename_i u hu
    have hm : g.mg x = some u := mg_of X G hu
    split at c
    · rename_i ds
      split at c
      · rename_i a
        split at c
        · rename_i n dd its k sl hk
          simp only [Bool.and_eq_true, beq_iff_eq, decide_eq_true_eq] at c
          obtain ⟨⟨rfl, hz⟩, hf⟩ := c
          refine ⟨.ref a, .ref a, hm, rfl, fun w H R => ?_⟩
          obtain ⟨r, i⟩ := flBs_ok (g := g) (w := w) (H := H) hf
          exact ⟨a, _, rfl, .inr ⟨_, its, k, hk, rfl, rfl, Nat.le_trans hz (by decide), r⟩, i⟩
        · cases c
      · cases c
    · obtain ⟨v, r, _⟩ := flB_ok (g := g) (w := ⟨[], [], fun _ => False⟩) (H := fun _ => none) c
      refine ⟨u, flVal d, hm, (flB_ok' (g := g) (w := ⟨[], [], fun _ => False⟩) (H := fun _ => none) c).1, fun w H R => (flB_ok' c).2⟩
  · cases c
theorem clsB_ok {g : Gm} (X : g.K.In h) (G : h.Ns mainGlobals g.mg) {c : Str} {ci : CI} (q : clsB g.K c ci = true) : ClF g c ci (He.ga g.K c) ∧ (∀ m, ci.meths.contains m = true → Meth g.K (He.ga g.K c) m (He.ma g.K (He.ga g.K c) m)) ∧ (ci.ini = true → Mk g.K (He.ga g.K c) (He.ma g.K (He.ga g.K c) "__init__")) := by
  unfold clsB at q
  simp only [Bool.and_eq_true, Bool.or_eq_true, Bool.not_eq_true', decide_eq_true_eq] at q
  obtain ⟨⟨⟨⟨⟨⟨⟨q1, q2⟩, q3⟩, q4⟩, q5⟩, q6⟩, q7⟩, q8⟩ := q
  have kit : ∀ T : Bt, kitOne g.K (.ref (He.ga g.K c)) (.type (btN T)) = some false ∧ kitOne g.K (.type (btN T)) (.ref (He.ga g.K c)) = some false := fun T => by
    rw [List.all_eq_true] at q7
    have := q7 T (by cases T <;> simp)
    rw [Bool.and_eq_true, decide_eq_true_eq, decide_eq_true_eq] at this
    exact this
  refine ⟨⟨mg_of X G (of_decide_eq_true q1), He.cls_ok q2, fun f hf => ?_, of_decide_eq_true q5, q6, fun T => (kit T).1, fun T => (kit T).2⟩, fun m hm => ?_, fun hi => ?_⟩
  · rw [List.all_eq_true] at q3
    exact He.noat_ok (q3 f (by simpa using hf))
  · rw [List.all_eq_true] at q4
    exact He.meth_ok (q4 m (by simpa using hm))
  · rcases q8 with q8 | q8
    · rw [q8] at hi; cases hi
    · exact He.mkr_ok q8
theorem propB_ok {c f : Str} (q : propB K c f = true) : ∃ p, PropOf K (He.ga K c) f p (getterOf K (He.ga K c) f) := by
  unfold propB at q
  split at q
  · rename_i p hp
    simp only [Bool.and_eq_true, decide_eq_true_eq] at q
    obtain ⟨⟨q1, q2⟩, q3⟩ := q
    split at q3
    · rename_i gg rest hr
      refine ⟨p, hp, of_decide_eq_true q1, q2, rest, ?_⟩
      unfold getterOf
      rw [hp]
      simp only
      rw [hr]
    · cases q3
  · cases q
theorem lookup_mem' {α : Type} {x : Str} {a : α} : ∀ {l : List (Str × α)}, l.lookup x = some a → (x, a) ∈ l
  | [], h => by cases h
  | (y, b) :: l, h => by
    rw [List.lookup_cons] at h
    split at h
    · rename_i e
      cases h
      rw [eq_of_beq e]; exact List.mem_cons_self
    · exact List.mem_cons_of_mem _ (lookup_mem' h)
end
end M

set_option Elab.async false
set_option linter.all false
set_option maxRecDepth 100000
set_option maxHeartbeats 2000000
/-! XC: an own exception whose __init__ says super().__init__(f'..') and keeps its arguments. -/
namespace M
open PySem PySem.Spec L2 PySem.W PyProof.Rows
open Builtin Builtin.ObjectAttr
/-! ### text of such an __init__ -/
def fsPart (ps : List Str) : Expr → Bool
  | .Constant (.str m) _ _ => decide (m.length ≤ 1000)
  | .FormattedValue (.Name x _) c none _ => decide (c = -1) && ps.contains x && x != "__debug__" && x != "self"
  | _ => false
def stPart (ps : List Str) : Stmt → Option (Str × Str)
  | .Assign [.Attribute (.Name sf _) fl _] (.Name y _) _ => if sf == "self" && ps.contains y && y != "__debug__" && y != "self" then some (fl, y) else none
  | _ => none
structure XTxt where
  parts : List Expr
  sts : List (Str × Str)
def supPart : Stmt → Option (List Expr)
  | .Expr (.Call (.Attribute (.Call (.Name sp _) [] [] _) i p2) [.JoinedStr (a :: b :: r) _] [] p4) _ => if sp == "super" && i == "__init__" && p2.endLine == p4.line then some (a :: b :: r) else none
  | _ => none
section
variable {prog : Program} {w : World} {A : Around} {E : Value → Shared → Prop} {h : Heap} {g : Array GenState} {d : Drawn} {t : Nat} {os : OsState}
variable {nm q : Str} {C N : Addr} {bs bm bmB : List Value} {hdct : Bool} {sn : List Str} {sub : List Value} {ab : Bool} {col : Option Bool} {dd : Option Addr} {k0 k1 k2 k3 k5 : Option Value} {B newId initId : String}
/-- ValueError.__init__ bound to e, called -/
theorem xc_call_bw (FB : ExcBaseFacts B newId initId bmB) {u e t0 : Addr} {rest : List Value} {Q : Value → Shared → Prop}
    (hC : h.get? C = some (excClassObj nm q C N bs bm hdct sn sub ab col dd k0 k1 k2 k3 k5 newId)) (he : h.get? e = some (HandSPX.excO C t0)) (hu : h.get? u = some (kxs_mw initId e)) (hrest : rest.length ≤ sizeLine)
    (hq : ∀ h' t1, (∀ b o, b ≠ e → h.get? b = some o → h'.get? b = some o) → h'.get? e = some (HandSPX.excO C t1) → Q .none ⟨h', g, d, t, os⟩) :
    wpAny (model prog w) A (call (.ref u) rest) Q E ⟨h, g, d, t, os⟩ := by
  refine wpAny_call (codeAny_of_tree ?_)
  show wpAny _ A.in1 (callAny (.ref u) ⟨rest, []⟩) _ _ _
  simp only [callAny]
  refine wpAny_bind (wpAny_load hu ?_)
  simp only [kxs_mw, show (Value.type "method-wrapper" == Value.type "method" || Value.type "method-wrapper" == Value.type "builtin_function_or_method" || Value.type "method-wrapper" == Value.type "method-wrapper") = true by decide, if_true]
  refine KFB.if_so (by decide) ?_
  refine wpAny_bind (check_bound_init FB.toExcCallFacts hC he rfl ?_)
  refine wpAny_bind (wpAny_pure (wpAny_pure ?_))
  refine ⟨plainId_quiet FB.init.plain _, codeAny_builtin FB.initEntry ?_⟩
  exact exc_init_tree (cls := .ref C) (t0 := t0) (dv := none) (c2 := .none) (c3 := .none) (b4 := .bool false) he hrest fun h' k e' _ => hq h' _ k e'
end
/-! ### later stores -/
section
variable {prog : Program} {w : World} {A : Around} {E : Value → Shared → Prop} {R : Result → Shared → Prop} {hp : Heap} {g : Array GenState} {d : Drawn} {t : Nat} {os : OsState}
theorem xc_osa_old {K : Frag} {name : Str} {tk : Tok} {v : Value} {x C dx : Addr} {fv : Array Value} {cd : ClassData} {m0 : Str → Option Value} {nl : List Str}
    (X : K.In hp) (hx : hp.get? x = some { cls := .ref C, dict := some dx, data := .fields fv }) (hns : hp.Ns1 dx m0) (hw : Within m0 nl) (hz : nl.length ≤ 1000) (hcd : clsIn K C = some cd) (hm : HandSPX.refsVE cd.mro = true) (hh : cd.hasDict = true)
    (ha : findIn K (.ref C) name = some none)
    (hq : ∀ h' tk', (∀ b o, b ≠ dx → hp.get? b = some o → h'.get? b = some o) → h'.Ns1 dx (fun y => if y = name then some v else m0 y) → R (.ok (.ret .none)) ⟨h', g, d, tk', os⟩) :
    codeAny (model prog w) A (.call (.builtin "object.__setattr__") ⟨[.ref x, .str name tk, v], []⟩) R ⟨hp, g, d, t, os⟩ := by
  obtain ⟨oD, esD, epD, hoD, hdD, _⟩ := hns.count hw
  have I : InstAt hp x { cls := .ref C, dict := some dx, data := .fields fv } C (some oD) := ⟨hx, rfl, rfl, hoD⟩
  have SF := F.store_object
  have ne := HandSPX.refsVE_ne hm
  have hob : cd.mro.contains (.type "object") = true := (HandSPX.refsVE_contains "object" _ hm).trans (by decide +kernel)
  have sub : Looks (model prog w) hp (isInstance (.ref x) (.type "object")) true := I.type.andThen (looks_mroIn X (by unfold mroIn; rw [hcd, Option.bind_some, if_neg (by rw [ne]; decide), hob]))
  refine codeAny_call_builtin SF.slot.plain SF.entry (@check_slot (model prog w) _ _ ⟨hp, g, d, t, os⟩ "object.__setattr__" "object" "__setattr__" (.ref x) [.str name tk, v] [] _ SF.kind SF.split sub (SF.args (.ref x) (.str name tk) v) ?_)
  have hmr : Looks (model prog w) hp (mroOf (.ref C)) cd.mro := (looks_clsIn X hcd).andThen .now
  have L3 : Looks (model prog w) hp (storeTaker? none) none := .now
  have hcls : Looks (model prog w) hp (classData C) cd := looks_clsIn X hcd
  rw [osa_eq, refuse_eq]
  refine wpAny_bind (wpAny_bind (I.type.at (wpAny_bind (hmr.at ?_))))
  rw [HandSPX.refsVE_pass _ _ hm]
  refine wpAny_pure (wpAny_bind (I.type.at (wpAny_bind ((looks_findIn X ha).at (wpAny_bind (L3.at ?_))))))
  show wpAny _ _ (storeInOwnDict (.ref x) (.ref C) (.str name tk) name v false) _ _ _
  obtain ⟨nm, bs, mro, ns, qn, hd, sn, sb, ab, col, del⟩ := cd
  dsimp only at hh
  subst hh
  unfold storeInOwnDict ownDictForStores
  repeat (first | with_reducible refine ESX.store_in_old hns hw hz ?_ | with_reducible refine wpAny_loadPart_at hx ?_ | with_reducible refine hcls.at ?_ | wp_step)
  intro h' tk' hn' hs
  exact hq h' tk' (fun b o hb ho => (hs.2 b hb).trans ho) hn'
end
/-! ### what is printed -/
/-- v is made a text, whatever is new in the heap -/
def FmtV (v : Value) : Prop := (∃ x tk, v = .str x tk ∧ x.length ≤ 1000) ∨ ∃ i tk, v = .int i tk ∧ i.natAbs.log2 < 1920
section
variable {prog : Program} {w : World} {A : Around} {E : Value → Shared → Prop} {s : Shared} {env : Env}
theorem xc_fmt {v : Value} {Q : Value → Shared → Prop} (hv : FmtV v) (h : ∀ x u tk, x.length ≤ 10000 → Q (.str x u) { s with toks := tk }) : wpAny (model prog w) A (formatField v Str.empty) Q E s := by
  rcases hv with ⟨x, tk, rfl, hz⟩ | ⟨i, tk, rfl, hz⟩
  · exact wpAny_formatField_str (h x tk s.toks (by omega)) (h x s.toks (s.toks + 1) (by omega)) (by rw [sizeLine_eq]; omega)
  · exact wpAny_formatField_int hz (h _ _ _ (by have := int_text_length_le (k := 1920) (by decide) hz; have e := PySem.ofString_length (toString i); show (Str.ofString (toString i)).length ≤ _; omega))
/-- the parts of the text -/
theorem xc_joins {ps : List Str} {L : Addr} {m : Str → Option Value} (hk : env.scope.kind = .function) (hl : ∀ y ∈ ps, env.kindOf y = some .local) (hm : ∀ y ∈ ps, ∃ u, m y = some u ∧ FmtV u) (hL : env.locals = L) :
    ∀ {es : List Expr} (acc : Str) (s : Shared) (R : Str → Shared → Prop), es.all (fsPart ps) = true → s.heap.Ns L m → acc.length + 10000 * es.length ≤ sizeLine →
      (∀ out tk, out.length ≤ sizeLine → R out { s with toks := tk }) → Joins (model prog w) A E (evalEach es env) acc R s
  | [], acc, s, R, _, _, hz, k => by
    have e0 : evalEach [] env = [] := by first | rfl | simp [evalEach]
    rw [e0]
    exact k acc s.toks (by simp at hz; exact hz)
  | e :: es, acc, s, R, he, hn, hz, k => by
    have e0 : evalEach (e :: es) env = eval e env :: evalEach es env := by first | rfl | simp [evalEach]
    rw [e0]
    rw [List.all_cons, Bool.and_eq_true] at he
    rw [List.length_cons] at hz
    have next : ∀ x u tk, x.length ≤ 10000 → ∃ y t', (Value.str x u : Value) = .str y t' ∧ (acc ++ y).length ≤ sizeLine ∧ Joins (model prog w) A E (evalEach es env) (acc ++ y) R { s with toks := tk } := fun x u tk hx => by
      have hlen : (acc ++ x).length = acc.length + x.length := strLen_append _ _
      refine ⟨x, u, rfl, by rw [hlen]; omega, xc_joins hk hl hm hL (acc ++ x) { s with toks := tk } R he.2 hn (by rw [hlen]; omega) fun out tk' ho => k out tk' ho⟩
    have he1 := he.1
    unfold fsPart at he1
    split at he1
    · rename_i mm j pos
      exact Calls.Constant_str (next _ _ _ (by have := of_decide_eq_true he1; omega))
    · rename_i y py c pos
      simp only [Bool.and_eq_true, decide_eq_true_eq, bne_iff_ne, ne_eq] at he1
      obtain ⟨⟨⟨hc, hy⟩, hd1⟩, hd2⟩ := he1
      subst hc
      have hy' : y ∈ ps := by simpa using hy
      obtain ⟨u, hu, hf⟩ := hm y hy'
      refine wpAny_FormattedValue_plain (wpAny_Name (wpAny_loadName_local hk (hl y hy') (by rw [hL]; exact hn) hu ?_) (by simpa using hd1))
      exact xc_fmt hf fun x u tk hx => next x u tk hx
    · cases he1
end
/-! ### the facts of such a class -/
structure XF (P : Program) (K : Frag) (mg : Str → Option Value) (c : Str) (flds ps : List Str) (C fI cc cda : Addr) (fd : FuncData) (bd : Stmt) (sts : List Stmt) : Prop where
  gC : mg c = some (.ref C)
  cls : ∃ nm q N bs bm sn sub ab col dd k0 k1 k2 k3 k5, K.lookup C = some (excClassObj nm q C N bs bm true sn sub ab col dd k0 k1 k2 k3 k5 "ValueError.__new__") ∧ HandSPX.refsVE bm = true
  sa : findIn K (.ref C) "__setattr__" = some (some (.builtin "object.__setattr__"))
  ga : findIn K (.ref C) "__getattribute__" = some (some (.builtin "BaseException.__getattribute__"))
  gg : findIn K (.ref C) "__getattr__" = some none
  hd : hasDictIn K C = true
  noN : ∀ f ∈ flds, findIn K (.ref C) f = some none
  iC : findIn K (.ref C) "__init__" = some (some (.ref fI))
  tC : typeIn K (.ref fI) = some (.type "function")
  kC : keepIn K (.ref C) = true
  exC : subIn K (.ref C) (.type "BaseException") = some true
  veC : subIn K (.ref C) (.type "ValueError") = some true
  tyC : typeIn K (.ref C) = some (.type "type")
  selfC : mroIn K C (.ref C) = some true
  sup : ks_superIn K C C "__init__" = some (some (.builtin "ValueError.__init__"))
  noSup : nsIn K mainGlobals "super" = some none
  noTp : nsIn K cStatics "thirdparty.any" = some none
  fn : ∃ oc od osl, K.lookup fI = some ⟨oc, od, .func fd, osl⟩
  cell : ∃ cl cld csl, K.lookup cc = some ⟨cl, cld, .cell (some (.ref C)), csl⟩
  code : fd.code = .ref cda ∧ codeIn K fd.code fd.qualname = true
  file : ∃ ccl cdd vs ccs f tf, K.lookup cda = some ⟨ccl, cdd, .fields vs, ccs⟩ ∧ vs[2]? = some (.str f tf) ∧ ((P.main.file : Str) == f) = true
  top : (P.main.scope.names.lookup ("super" : Str)).isSome = false
  clo : fd.closure = [(("__class__" : Str), cc)]
  glo : fd.globals = mainGlobals
  blt : fd.builtins = builtinsNs
  skind : fd.scope.kind = .function
  sco : fd.scope.isCoroutine = false
  sgen : fd.scope.isGenerator = false
  scell : ∀ x ∈ fd.scope.names, x.2 ≠ .cell
  ssup : fd.scope.names.lookup ("super" : Str) = some .globalImplicit
  scls : fd.scope.names.lookup ("__class__" : Str) = some .free
  sloc : ∀ y ∈ ("self" :: ps : List Str), fd.scope.names.lookup y = some .local
  head : ∃ ar, (fd.params.posonlyargs ++ fd.params.args).head? = some ar ∧ ar.arg = ("self" : Str)
  body : fd.body = .stmts (bd :: sts)
  parts : ∃ es, supPart bd = some es ∧ es.all (fsPart ps) = true ∧ es.length ≤ 100
  stores : sts.map (stPart ps) = (flds.zip ps).map some
  bind : ∀ (s : Shared) (us : List Value), us.length = ("self" :: ps : List Str).length → BindsTo s fd ⟨us, []⟩ (("self" :: ps : List Str).zip us)
  nd : ("self" :: ps : List Str).Nodup
  ndf : flds.Nodup
  len : flds.length = ps.length
  ne : flds ≠ []
theorem supPart_eq {bd : Stmt} {es : List Expr} (h : supPart bd = some es) : ∃ a b r p0 p1 p2 p3 p4 p5, es = a :: b :: r ∧ bd = .Expr (.Call (.Attribute (.Call (.Name "super" p0) [] [] p1) "__init__" p2) [.JoinedStr (a :: b :: r) p3] [] p4) p5 ∧ (p2.endLine == p4.line) = true := by
  unfold supPart at h
  split at h
  · rename_i sp p0 p1 i p2 a b r p3 p4 p5
    split at h
    · rename_i hc
      simp only [Bool.and_eq_true, beq_iff_eq] at hc
      obtain ⟨⟨rfl, rfl⟩, hl⟩ := hc
      cases h
      exact ⟨a, b, r, p0, p1, p2, p3, p4, p5, rfl, rfl, by simpa using hl⟩
    · cases h
  · cases h
theorem mcall_eq {env : Env} {o x : Expr} {name : Str} {apos pos : Pos} (hl : (apos.endLine == pos.line) = true) (hs : starEach [x] env = [(false, eval x env)]) : eval (.Call (.Attribute o name apos) [x] [] pos) env = (do
      let ov ← attributeBase o name env (eval o env)
      standAt apos.atName
      let (f, first) ← holding [ov] (getMethod ov name (do return (← importBound o env).getD true))
      callWith pos f first (backTo pos (starEach [x] env)) []) := by
  have hf : ∀ n, n = 1 → methodCallForm n (backTo pos (starEach [x] env)) (backToKw pos (keywordEach [] env)) = true := fun n hn => by rw [hs, hn]; rfl
  have e1 : methodCallPos true o env apos pos = pure pos := by
    unfold methodCallPos
    simp only [hl, Bool.or_true, if_true]
  rw [arm_eval_Call]
  unfold methodCall
  rw [show [x].length + ([] : List _).length = 1 from rfl, hf 1 rfl]
  simp only [e1, pure_bind]
  rfl
theorem stPart_eq {ps : List Str} {st : Stmt} {fl y : Str} (h : stPart ps st = some (fl, y)) : ∃ p1 p2 p3 p4, st = .Assign [.Attribute (.Name "self" p1) fl p2] (.Name y p3) p4 ∧ y ∈ ps ∧ y ≠ "__debug__" := by
  unfold stPart at h
  split at h
  · rename_i sf p1 f2 p2 y2 p3 p4
    split at h
    · rename_i hc
      simp only [Bool.and_eq_true, beq_iff_eq, bne_iff_ne, ne_eq] at hc
      obtain ⟨⟨⟨rfl, h1⟩, h2⟩, h3⟩ := hc
      cases h
      exact ⟨p1, p2, p3, p4, rfl, by simpa using h1, h2⟩
    · cases h
  · cases h
section
variable {P : Program} {w : World} {A : Around} {E : Value → Shared → Prop} {R : Result → Shared → Prop} {s : Shared} {K : Frag} {mg mb : Str → Option Value} {c : Str} {flds ps : List Str} {C fI cc cda : Addr} {fd : FuncData} {bd : Stmt} {sts : List Stmt}
theorem lk_zip : ∀ {ns : List Str} {us : List Value} {y : Str}, us.length = ns.length → y ∈ ns → ∃ u, (ns.zip us).lookup y = some u ∧ u ∈ us
  | n :: ns, u :: us, y, hl, hy => by
    rw [List.zip_cons_cons, List.lookup_cons]
    by_cases e : y = n
    · exact ⟨u, by rw [e]; simp, List.mem_cons_self⟩
    · have : (y == n) = false := by simpa using e
      rw [this]
      obtain ⟨v, h1, h2⟩ := lk_zip (ns := ns) (us := us) (by simpa using hl) (by simpa [e] using hy)
      exact ⟨v, h1, List.mem_cons_of_mem _ h2⟩
  | [], _, y, _, hy => by cases hy
  | _ :: _, [], _, hl, _ => by simp at hl

theorem map_lk : ∀ {ns : List Str} {us : List Value}, ns.Nodup → us.length = ns.length → ns.map (fun n => ((ns.zip us).lookup n).getD .none) = us
  | [], [], _, _ => rfl
  | [], _ :: _, _, h => by simp at h
  | _ :: _, [], _, h => by simp at h
  | n :: ns, u :: us, hnd, hl => by
    rw [List.nodup_cons] at hnd
    rw [List.map_cons, List.zip_cons_cons]
    congr 1
    · rw [List.lookup_cons]; simp
    · refine Eq.trans (List.map_congr_left fun y hy => ?_) (map_lk hnd.2 (by simpa using hl))
      have : (y == n) = false := by rw [beq_eq_false_iff_ne]; rintro rfl; exact hnd.1 hy
      rw [List.lookup_cons, this]
def fdm : List (Str × Value) → Str → Option Value
  | [], _ => none
  | (n, v) :: r, y => if y = n then some v else fdm r y
theorem fdm_within : ∀ acc : List (Str × Value), Within (fdm acc) (acc.map (·.1))
  | [] => Within.nil
  | (n, v) :: r => Within.cons n v (fdm_within r)
theorem fdm_lookup : ∀ (acc : List (Str × Value)) (y : Str), fdm acc y = acc.lookup y
  | [], _ => rfl
  | (n, v) :: r, y => by
    rw [List.lookup_cons]
    show (if y = n then some v else fdm r y) = _
    by_cases e : y = n
    · rw [if_pos e]; simp [e]
    · rw [if_neg e, fdm_lookup r y]
      have : (y == n) = false := by simpa using e
      rw [this]
/-- how far the stores are -/
structure XS (h0 h : Heap) (x C t1 : Addr) (acc : List (Str × Value)) (dx : Addr) : Prop where
  keep : ∀ b o, b ≠ x → h0.get? b = some o → h.get? b = some o
  big : h0.objs.size ≤ dx
  dne : dx ≠ x
  obj : h.get? x = some { cls := .ref C, dict := some dx, data := .fields #[.ref t1, .none, .none, .none, .bool false, .none] }
  ns : h.Ns1 dx (fdm acc)
def mv (m : Str → Option Value) (y : Str) : Value := (m y).getD .none
def xEnv (fd : FuncData) (L fI : Addr) : Env := callEnv fd L fI
theorem kept_but' {h h' : Heap} {x : Addr} (X : K.In h) (hx : K.lookup x = none) (k : ∀ b o, b ≠ x → h.get? b = some o → h'.get? b = some o) : K.In h' := fun a o e =>
  k a o (fun z => by rw [z, hx] at e; cases e) (X a o e)
theorem ns_but {h h' : Heap} {x L : Addr} {m : Str → Option Value} (hn : h.Ns L m) (hL : L ≠ x) (k : ∀ b o, b ≠ x → h.get? b = some o → h'.get? b = some o) : h'.Ns L m := by
  obtain ⟨o, es, ep, h1, r⟩ := hn
  exact ⟨o, es, ep, k _ _ hL h1, r⟩
theorem xc_stores (T : XF P K mg c flds ps C fI cc cda fd bd sts) {x t1 L : Addr} {m : Str → Option Value} {h0 : Heap} (X : K.In h0) (hnx : K.lookup x = none) (hn : h0.Ns L m) (hLx : L ≠ x) (hself : m "self" = some (.ref x)) (hm : ∀ y ∈ ps, ∃ u, m y = some u)
    {Q : Flow → Shared → Prop} : ∀ {sts' : List Stmt} {fs ys : List Str} {acc : List (Str × Value)} {dx : Addr} {s : Shared}, sts'.map (stPart ps) = (fs.zip ys).map some → (∀ f ∈ fs, f ∈ flds) → fs.length = ys.length → acc.length + fs.length ≤ 100 → XS h0 s.heap x C t1 acc dx →
    (∀ h' tk, XS h0 h' x C t1 ((fs.zip (ys.map (mv m))).reverse ++ acc) dx → Q .next { s with heap := h', toks := tk }) → wpAny (model P w) A (execs sts' (xEnv fd L fI)) Q E s
  | [], fs, ys, acc, dx, s, hst, _, hlen, _, S, hq => by
    have hz : fs.zip ys = [] := by
      cases h : fs.zip ys with
      | nil => rfl
      | cons a r => rw [h] at hst; cases hst
    have hfs : fs = [] := by
      cases fs with
      | nil => rfl
      | cons a r => cases ys with
        | nil => simp at hlen
        | cons b t => simp at hz
    subst hfs
    have hys : ys = [] := by cases ys with
      | nil => rfl
      | cons b t => simp at hlen
    subst hys
    exact wpAny_execs_nil (hq s.heap s.toks S)
  | st :: r, fs, ys, acc, dx, s, hst, hsub, hlen, hz, S, hq => by
    cases fs with
    | nil => simp at hst
    | cons f fs =>
      cases ys with
      | nil => simp at hlen
      | cons y ys =>
        rw [List.zip_cons_cons, List.map_cons, List.map_cons] at hst
        obtain ⟨h1, h2⟩ := List.cons.inj hst
        obtain ⟨p1, p2, p3, p4, rfl, hy, hdb⟩ := stPart_eq h1
        obtain ⟨u, hu⟩ := hm y hy
        obtain ⟨nm, q, N, bs, bm, sn, sub, ab, col, dd, k0, k1, k2, k3, k5, hC, hbm⟩ := T.cls
        have hcl : clsIn K C = some { name := nm, bases := bs, mro := .ref C :: bm, ns := N, qualname := q, hasDict := true, slotNames := sn, subclasses := sub, abstract := ab, collection := col, hasDel := false } := by unfold clsIn; rw [hC] <;> rfl
        have hn1 := ns_but hn hLx S.keep
        have X1 := kept_but' X hnx S.keep
        have hkd : (xEnv fd L fI).scope.kind = .function := T.skind
        refine wpAny_execs_cons (plainObj_wpAny_Assign_Attribute ?_)
        refine wpAny_Name (wpAny_loadName_local hkd (T.sloc y (List.mem_cons_of_mem _ hy)) hn1 hu ?_) (by simpa using hdb)
        refine wpAny_Name (wpAny_loadName_local hkd (T.sloc "self" List.mem_cons_self) hn1 hself ?_) (by decide)
        obtain ⟨oD, esD, epD, hoD, hdD, _⟩ := S.ns.count (fdm_within acc)
        have hlz : (acc.map (·.1)).length ≤ 1000 := by rw [List.length_map]; simp at hz; omega
        refine set_plain X1 (ox := { cls := .ref C, dict := some dx, data := .fields #[.ref t1, .none, .none, .none, .bool false, .none] }) (od := some oD) ⟨S.obj, rfl, rfl, hoD⟩ T.sa ?_
        refine xc_osa_old X1 S.obj S.ns (fdm_within acc) hlz hcl (show HandSPX.refsVE (.ref C :: bm) = true from hbm) rfl (T.noN f (hsub f List.mem_cons_self)) fun h' tk' k' n' => ?_
        have S' : XS h0 h' x C t1 ((f, u) :: acc) dx := ⟨fun b o hb e => k' b o (fun z => absurd (Nat.lt_of_lt_of_le (Heap.lt_size e) S.big) (by rw [z]; exact Nat.lt_irrefl _)) (S.keep b o hb e), S.big, S.dne, k' x _ (Ne.symm S.dne) S.obj, n'⟩
        refine xc_stores T X hnx hn hLx hself hm (s := { s with heap := h', toks := tk' }) h2 (fun f hf => hsub f (List.mem_cons_of_mem _ hf)) (by simpa using hlen) (by simp at hz ⊢; omega) S' fun h2 tk2 S2 => ?_
        refine hq h2 tk2 ?_
        have e : ((f :: fs).zip ((y :: ys).map (mv m))).reverse ++ acc = (fs.zip (ys.map (mv m))).reverse ++ (f, u) :: acc := by
          rw [List.map_cons, List.zip_cons_cons, List.reverse_cons, List.append_assoc]
          have e2 : mv m y = u := by unfold mv; rw [hu]; rfl
          rw [e2]; rfl
        rw [e]; exact S2

def bnd (ps : List Str) (x : Addr) (us : List Value) : List (Str × Value) := ("self" :: ps : List Str).zip (.ref x :: us)
/-- what __init__ leaves of a fresh exception at x -/
structure XEnd (h h' : Heap) (x C t1 dx : Addr) (l : List (Str × Value)) : Prop where
  keep : ∀ b o, b ≠ x → h.get? b = some o → h'.get? b = some o
  obj : h'.get? x = some { cls := .ref C, dict := some dx, data := .fields #[.ref t1, .none, .none, .none, .bool false, .none] }
  dbig : h.objs.size ≤ dx
  dne : dx ≠ x
  ns : h'.Ns1 dx (fdm l)
theorem xc_init (T : XF P K mg c flds ps C fI cc cda fd bd sts) {x t0 : Addr} {us : List Value} (X : K.In s.heap) (hG : s.heap.Ns mainGlobals mg) (hB : s.heap.Ns builtinsNs mb) (hmb : mb "super" = bootBuiltins "super") (hlim : s.heap.NoLimit) (hx : s.heap.get? x = some (HandSPX.excO C t0)) (hnx : K.lookup x = none) (hroom : A.depth < recursionLimit)
    (hus : us.length = ps.length) (hf : ∀ u ∈ us, FmtV u) (hps : ps.length ≤ 50) (hq : ∀ h' tk t1 dx, XEnd s.heap h' x C t1 dx (flds.zip us).reverse → R (.ok (.ret .none)) { s with heap := h', toks := tk }) :
    codeAny (model P w) A (.call (.ref fI) ⟨.ref x :: us, []⟩) R s := by
  obtain ⟨oc, od, osl, lk⟩ := T.fn
  obtain ⟨hcd1, hcd2⟩ := T.code
  obtain ⟨nm, q, N, bs, bm, sn, sub, ab, col, dd, k0, k1, k2, k3, k5, hC, hbm⟩ := T.cls
  have hcl : clsIn K C = some { name := nm, bases := bs, mro := .ref C :: bm, ns := N, qualname := q, hasDict := true, slotNames := sn, subclasses := sub, abstract := ab, collection := col, hasDel := false } := by unfold clsIn; rw [hC] <;> rfl
  obtain ⟨es, hsup, hparts, hplen⟩ := T.parts
  obtain ⟨a, b, r, p0, p1, p2, p3, p4, p5, rfl, rfl, hline⟩ := supPart_eq hsup
  obtain ⟨ar, har, hare⟩ := T.head
  obtain ⟨ccl, cdd, vs, ccs, f, tf, hcda, hvs, hfile⟩ := T.file
  obtain ⟨cl, cld, csl, hcell⟩ := T.cell
  have hxu : (Value.ref x :: us).length = ("self" :: ps : List Str).length := by simp [hus]
  have hrev : ∀ y, (bnd ps x us).reverse.lookup y = (bnd ps x us).lookup y := lookup_reverse_of_nodup _ (by unfold bnd; rw [List.map_fst_zip (by omega)]; exact T.nd)
  have hm : ∀ y ∈ ("self" :: ps : List Str), ∃ u, (bnd ps x us).reverse.lookup y = some u ∧ u ∈ (Value.ref x :: us) := fun y hy => by
    rw [hrev]
    exact lk_zip hxu hy
  have hself : (bnd ps x us).reverse.lookup ("self" : Str) = some (.ref x) := by
    rw [hrev]; unfold bnd
    rw [List.zip_cons_cons, List.lookup_cons]; simp
  have hkd : (xEnv fd s.heap.objs.size fI).scope.kind = .function := T.skind
  have hmp : ∀ y ∈ ps, ∃ u, (bnd ps x us).reverse.lookup y = some u ∧ FmtV u := fun y hy => by
    have nd := T.nd
    rw [List.nodup_cons] at nd
    have hne : (y == ("self" : Str)) = false := by
      rw [beq_eq_false_iff_ne]; rintro rfl; exact nd.1 hy
    obtain ⟨u, h1, h2⟩ := lk_zip hus hy
    exact ⟨u, by rw [hrev]; unfold bnd; rw [List.zip_cons_cons, List.lookup_cons, hne]; exact h1, hf u h2⟩
  refine ks_codeAny_call_defAt (fd := fd) (binds := bnd ps x us) hroom (X _ _ lk) rfl hlim (codeRec_of X hcd2) T.body (T.bind s _ hxu) T.scell (fun y hy => T.sloc _ (List.of_mem_zip hy).1) (fun h₀ hns hk => ?_) T.sco T.sgen T.skind
  have X0 : K.In h₀ := X.keeps hk
  show PySem.wpAt _ _ (.func _ (xEnv fd s.heap.objs.size fI)) (execs _ (xEnv fd s.heap.objs.size fI)) _ _ _
  have hx0 := hk _ _ hx
  have hLx : s.heap.objs.size ≠ x := Nat.ne_of_gt (Heap.lt_size hx)
  have hcx : x ≠ C := fun z => by rw [z, hC] at hnx; cases hnx
  have I0 : InstAt h₀ x (HandSPX.excO C t0) C none := ⟨hx0, rfl, rfl, trivial⟩
  refine ks_wpAt_execs_cons (ks_wpAt_Expr_any (ks_wpAt_MethodCall (ks_wpAt_super_base T.ssup T.scls (by decide) rfl (hk _ _ (X _ _ lk)) rfl har hcd1 (hk _ _ (X _ _ hcda)) rfl hvs hfile T.top ?_) (mcall_eq hline rfl)) (by unfold interactive; rw [hkd]; rfl) (by rfl))
  have hg0 : h₀.Ns (xEnv fd s.heap.objs.size fI).globals mg := by show h₀.Ns fd.globals mg; rw [T.glo]; exact hG.keeps hk
  have hb0 : h₀.Ns (xEnv fd s.heap.objs.size fI).builtins mb := by show h₀.Ns fd.builtins mb; rw [T.blt]; exact hB.keeps hk
  have hcl0 : (xEnv fd s.heap.objs.size fI).cells.lookup ("__class__" : Str) = some cc := by show fd.closure.lookup _ = _; rw [T.clo]; simp
  refine ks_loadName_global hkd T.ssup (Calls.loadGlobal_builtin hg0 (mg_none_of X hG T.noSup) hb0 (hmb.trans rfl) ⟨rfl, ?_⟩)
  refine wpAny_loadName_free hkd T.scls hcl0 ⟨_, X0 _ _ hcell, rfl⟩ ?_
  rw [hare]
  refine wpAny_loadName_local hkd (T.sloc "self" List.mem_cons_self) hns hself ?_
  refine ks_wpAny_isType_cls (X0 _ _ hC) rfl ⟨rfl, ?_⟩
  refine ks_wpAny_call_super (X0 _ _ hC) rfl hx0 rfl (fun c e => by cases e) (looks_mroIn X0 T.selfC) (fun h1 so1 k1 => ?_)
  have k01 : ∀ b o, s.heap.get? b = some o → h1.get? b = some o := fun b o e => k1 b o (hk b o e)
  have X1 : K.In h1 := X.keeps k01
  have I1 : InstAt h1 x (HandSPX.excO C t0) C none := ⟨k1 _ _ hx0, rfl, rfl, trivial⟩
  have hsup' := T.sup
  unfold ks_superIn at hsup'
  rw [hcl] at hsup'
  refine kxs_getMethod kxs_ValueError so1 (looks_opaque X1 T.noTp) (l₀ := .ref C :: bm) (fun A Q E s k q => wpAny_bind ((looks_clsIn X1 hcl) A _ E s k (wpAny_pure q))) rfl X1 hsup' (I1.type.andThen (looks_subIn X1 T.veC)) hcx (by decide) ?_
  have hu2 : (h1.push (kxs_mw "ValueError.__init__" x)).get? h1.objs.size = some (kxs_mw "ValueError.__init__" x) := Heap.get?_push_at rfl rfl
  have k2 : ∀ b o, h1.get? b = some o → (h1.push (kxs_mw "ValueError.__init__" x)).get? b = some o := fun b o e => Heap.get?_push_of_some _ e
  show wpAny _ _ (callWith p4 (.ref h1.objs.size) [] (backTo p4 (starEach [.JoinedStr (a :: b :: r) p3] (xEnv fd s.heap.objs.size fI))) []) _ _ _
  refine kxs_callWith (i := "ValueError.__init__") (x := x) rfl (Calls.evalArgs_plain ?_)
  have hn2 : (h1.push (kxs_mw "ValueError.__init__" x)).Ns (xEnv fd s.heap.objs.size fI).locals (fun y => (bnd ps x us).reverse.lookup y) := (hns.keeps k1).keeps k2
  refine Calls.spliced_cons (wpAny_JoinedStr (pos := p3) (xc_joins (L := s.heap.objs.size) hkd (fun y hy => T.sloc y (List.mem_cons_of_mem _ hy)) hmp rfl Str.empty _ _ hparts hn2 (by have : (Str.empty : Str).length = 0 := rfl; rw [this, sizeLine_eq]; omega) fun out tk ho => ⟨ho, ?_⟩))
  refine Calls.spliced_nil ⟨hu2, ?_⟩
  show wpAny _ _ (call (.ref h1.objs.size) [_]) _ _ _
  refine xc_call_bw F.excBase_ValueError (X1.keeps k2 _ _ hC) (k2 _ _ (k1 _ _ hx0)) hu2 (by show 1 ≤ sizeLine; decide) fun h3 t1 k3 hx3 => ?_
  have kk : ∀ b o, b ≠ x → s.heap.get? b = some o → h3.get? b = some o := fun b o hb e => k3 b o hb (k2 _ _ (k01 b o e))
  have kk0 : ∀ b o, b ≠ x → h₀.get? b = some o → h3.get? b = some o := fun b o hb e => k3 b o hb (k2 _ _ (k1 b o e))
  have X3 := kept_but' X hnx kk
  have hn3 : h3.Ns s.heap.objs.size (fun y => (bnd ps x us).reverse.lookup y) := ns_but hns hLx kk0
  -- the stores
  have hst := T.stores
  have hlen := T.len
  have hne := T.ne
  have hnd := T.noN
  show PySem.wpAt _ _ _ (execs sts (xEnv fd s.heap.objs.size fI)) _ _ _
  refine wpAt_of_wpAny ?_
  cases sts with
  | nil =>
    cases flds with
    | nil => exact absurd rfl hne
    | cons f fs => cases ps with
      | nil => simp at hlen
      | cons y ys => simp at hst
  | cons st r' =>
    cases flds with
    | nil => simp at hst
    | cons f fs =>
      cases ps with
      | nil => simp at hlen
      | cons y ys =>
        rw [List.zip_cons_cons, List.map_cons, List.map_cons] at hst
        obtain ⟨h1', h2'⟩ := List.cons.inj hst
        obtain ⟨q1, q2, q3, q4, rfl, hy, hdb⟩ := stPart_eq h1'
        obtain ⟨u, hu, _⟩ := hmp y hy
        refine wpAny_execs_cons (plainObj_wpAny_Assign_Attribute ?_)
        refine wpAny_Name (wpAny_loadName_local hkd (T.sloc y (List.mem_cons_of_mem _ hy)) hn3 hu ?_) (by simpa using hdb)
        refine wpAny_Name (wpAny_loadName_local hkd (T.sloc "self" List.mem_cons_self) hn3 hself ?_) (by decide)
        refine set_plain X3 (ox := HandSPX.excO C t1) (od := none) ⟨hx3, rfl, rfl, trivial⟩ T.sa ?_
        refine HandSPX.exc_osa X3 hx3 hcl (show HandSPX.refsVE (.ref C :: bm) = true from hbm) rfl (hnd f List.mem_cons_self) (fun h4 tk4 dx k4 dn dne hx4 hn4 => ?_)
        have z3 : s.heap.objs.size ≤ h3.objs.size := by
          exact Nat.le_of_lt hn3.lt
        have S : XS h3 h4 x C t1 [(f, u)] dx := ⟨k4, dn, dne, hx4, by
          have e : fdm [(f, u)] = fun y => if y = f then some u else none := rfl
          rw [e]; exact hn4⟩
        refine xc_stores T X3 hnx hn3 hLx hself (fun y hy => by obtain ⟨u, h, _⟩ := hmp y hy; exact ⟨u, h⟩) (s := { s with heap := h4, toks := tk4 }) (fs := fs) (ys := ys) (acc := [(f, u)]) h2' (fun f hf => List.mem_cons_of_mem _ hf) (by simpa using hlen) (by simp at hps hlen ⊢; omega) S fun h5 tk5 S5 => ?_
        refine hq h5 tk5 t1 dx ⟨fun b o hb e => S5.keep b o hb (kk b o hb e), S5.obj, Nat.le_trans z3 S5.big, S5.dne, ?_⟩
        have e : ((f :: fs).zip us).reverse = (fs.zip (ys.map (mv fun y_1 => (bnd (y :: ys) x us).reverse.lookup y_1))).reverse ++ [(f, u)] := by
          have hm2 : (y :: ys).map (mv fun y_1 => (bnd (y :: ys) x us).reverse.lookup y_1) = us := by
            have nd := T.nd
            rw [List.nodup_cons] at nd
            refine Eq.trans (List.map_congr_left fun z hz => ?_) (map_lk nd.2 hus)
            have : (z == ("self" : Str)) = false := by rw [beq_eq_false_iff_ne]; rintro rfl; exact nd.1 hz
            unfold mv
            show ((bnd (y :: ys) x us).reverse.lookup z).getD Value.none = _
            rw [hrev]; unfold bnd; rw [List.zip_cons_cons, List.lookup_cons, this]
          have hm3 : mv (fun y_1 => (bnd (y :: ys) x us).reverse.lookup y_1) y = u := by
            show ((bnd (y :: ys) x us).reverse.lookup y).getD Value.none = u
            rw [hu]; rfl
          rw [List.map_cons, hm3] at hm2
          conv => lhs; rw [← hm2]
          rw [List.zip_cons_cons, List.reverse_cons]
        rw [e]; exact S5.ns

/-- a made exception -/
structure XMade (h h' : Heap) (e C d : Addr) (l : List (Str × Value)) : Prop where
  keep : ∀ b o, h.get? b = some o → h'.get? b = some o
  new : h.objs.size ≤ e
  obj : ∃ oe vs, h'.get? e = some oe ∧ oe.cls = .ref C ∧ oe.dict = some d ∧ oe.data = .fields vs ∧ vs[1]? = some .none
  dbig : h.objs.size ≤ d
  dne : d ≠ e
  ns : h'.Ns1 d (fdm l)
theorem xc_made (T : XF P K mg c flds ps C fI cc cda fd bd sts) {us : List Value} (X : K.In s.heap) (hG : s.heap.Ns mainGlobals mg) (hB : s.heap.Ns builtinsNs mb) (hmb : mb "super" = bootBuiltins "super") (hlim : s.heap.NoLimit) (hroom : A.depth + 1 < recursionLimit)
    (hus : us.length = ps.length) (hf : ∀ u ∈ us, FmtV u) (hps : ps.length ≤ 50) (hq : ∀ h' tk e d, XMade s.heap h' e C d (flds.zip us).reverse → R (.ok (.ret (.ref e))) { s with heap := h', toks := tk }) :
    codeAny (model P w) A (.call (.ref C) ⟨us, []⟩) R s := by
  obtain ⟨nm, q, N, bs, bm, sn, sub, ab, col, dd, k0, k1, k2, k3, k5, hC, hbm⟩ := T.cls
  obtain ⟨hp, g, dr, tk, os⟩ := s
  have k : ∀ b o, hp.get? b = some o → ((hp.push (kdv_tup us)).push (HandSPX.excO C hp.objs.size)).get? b = some o := fun b o e => Heap.get?_push_of_some _ (Heap.get?_push_of_some _ e)
  have hget : ((hp.push (kdv_tup us)).push (HandSPX.excO C hp.objs.size)).get? (hp.objs.size + 1) = some (HandSPX.excO C hp.objs.size) := by heap_get
  have hnx : K.lookup (hp.objs.size + 1) = none := by
    cases e : K.lookup (hp.objs.size + 1) with
    | none => rfl
    | some o =>
      have z : hp.get? (hp.objs.size + 1) = some o := X _ _ e
      exact absurd (Nat.lt_of_succ_lt (Heap.lt_size z)) (Nat.lt_irrefl _)
  have hrest : us.length ≤ sizeLine := by rw [hus, sizeLine_eq]; omega
  refine HandSPX.call_own F.excBase_ValueError (fun X => HandSPX.refsVE_contains X bm hbm) (X _ _ hC) (looks_findIn X T.iC) (fun self => bind_fn X self T.tC) hrest ?_
  refine xc_init (s := ⟨(hp.push (kdv_tup us)).push (HandSPX.excO C hp.objs.size), g, dr, tk, os⟩) T (X.keeps k) (hG.keeps k) (hB.keeps k) hmb (hlim.keeps k) hget hnx ?_ hus hf hps fun h' tk' t1 dx ⟨k', hx, dn, dne, hns⟩ => ?_
  · show A.depth + 1 < recursionLimit
    exact hroom
  · have old : ∀ b o, hp.get? b = some o → h'.get? b = some o := fun b o e => k' b o (Nat.ne_of_lt (Nat.lt_succ_of_lt (Heap.lt_size e))) (k b o e)
    have z : hp.objs.size + 1 + 1 ≤ dx := by
      first
        | (simpa only [Heap.size_push] using dn)
        | exact dn
        | (have q := dn; rw [Heap.size_push, Heap.size_push] at q; exact q)
    exact ⟨rfl, hq h' tk' (hp.objs.size + 1) dx ⟨old, Nat.le_succ _, ⟨_, _, hx, rfl, rfl, rfl, rfl⟩, Nat.le_trans (Nat.le_trans (Nat.le_succ _) (Nat.le_succ _)) z, dne, hns⟩⟩
end
theorem relO_zip : ∀ {fl : List Str} {vs : List V} {us : List Value} (f : Str), Vals vs us → RelO (List.lookup f (fl.zip vs)) (List.lookup f (fl.zip us))
  | [], _, _, _, _ => trivial
  | _ :: _, [], _, _, h => by cases h; trivial
  | n :: fl, v :: vs, _, f, h => by
    cases h with
    | cons r h =>
      rw [List.zip_cons_cons, List.zip_cons_cons, List.lookup_cons, List.lookup_cons]
      by_cases e : f = n
      · have : (f == n) = true := by simpa using e
        rw [this]; exact r
      · have : (f == n) = false := by simpa using e
        rw [this]; exact relO_zip f h
theorem fmt_of {g : Gm} {w : Wd} {H : Hp} : ∀ {ds : List D} {vs : List V} {us : List Value}, IsL g.K g.mg w H ds vs → Vals vs us → ds.all fmtD = true → ∀ u ∈ us, FmtV u
  | [], _, _, i, r, _ => by
    rw [i.of_nil] at r
    cases r
    intro u hu; cases hu
  | d :: ds, _, _, i, r, h => by
    obtain ⟨v, vs', rfl, i1, i2⟩ := i.of_cons
    rw [List.all_cons, Bool.and_eq_true] at h
    cases r with
    | cons r1 r2 =>
      intro u hu
      rcases List.mem_cons.mp hu with rfl | hu
      · cases d with
        | str x =>
          unfold Is at i1; subst i1
          obtain ⟨t, rfl⟩ := r1
          exact .inl ⟨x, t, rfl, of_decide_eq_true h.1⟩
        | int j =>
          unfold Is at i1; subst i1
          obtain ⟨t, rfl⟩ := r1
          refine .inr ⟨j, t, rfl, ?_⟩
          have z : j.natAbs < 2 ^ 64 := of_decide_eq_true h.1
          by_cases z0 : j.natAbs = 0
          · rw [z0]; decide
          · have := (Nat.log2_lt z0).mpr z
            omega
        | _ => simp [fmtD] at h
      · exact fmt_of i2 r2 h.2 u hu

theorem xc_raise {g : Gm} {c : Str} {flds ps : List Str} {C fI cc cda : Addr} {fd : FuncData} {bd : Stmt} {sts : List Stmt} {X : Cx} (hK : X.K = g.K) (hM : X.mg = g.mg) (T : XF X.prog X.K X.mg c flds ps C fI cc cda fd bd sts) (hps : ps.length ≤ 50) (hr : Room 1 X.A) : RaiseF g c flds X := by
  refine ⟨C, by rw [← hM]; exact T.gC, fun a es p pos t hg hdb hst hpl ha => ?_⟩
  intro pins s σ H Q I h
  refine wpAny_Call_Name_kw (ld_glob I hg T.gC ?_ hdb)
  refine PySem.W.callWith_K (h₀ := X.base) I.ok.mod.kin T.kC (thn (ha.run pos pins s σ H _ I h) fun us s1 hh => ?_) hst hpl
  obtain ⟨vs, H1, I1, r1, hlen, ⟨w, ds, hi, hfm⟩, q1⟩ := hh
  refine ⟨I1.kIn, ?_⟩
  show wpAny _ _ (call (.ref C) us) _ _ _
  have hlim := I1.nolimit
  have hfv := fmt_of (g := g) hi r1 hfm
  obtain ⟨mb, hb1, hb2⟩ := I1.mod.blt
  have hul : us.length = ps.length := by rw [← r1.length, hlen, T.len]
  have hG := I1.mod.glob.keeps I1.bk
  have hB := hb1.keeps I1.bk
  have hKin := I1.kIn
  obtain ⟨hp, gg, dr, tk, os⟩ := s1
  refine wpAny_call (xc_made T hKin hG hB (hb2 _ (by decide)) hlim (by have := hr.dp; omega) hul hfv hps fun h' tk' e d M => ?_)
  show MkP X pins σ Q (.ref e) ⟨h', gg, dr, tk', os⟩
  obtain ⟨oe, fv, hoe, hc, hd, hdat, h1⟩ := M.obj
  have hns := M.ns
  obtain ⟨G', g1, g2⟩ := restrict h' fun b => decide (b ≠ e)
  have gk : ∀ b, b ≠ e → G'.get? b = h'.get? b := fun b hb => g1 b (decide_eq_true hb)
  have ge : G'.get? e = none := g2 e (by simp)
  have old : ∀ b o, hp.get? b = some o → G'.get? b = some o := fun b o q => (gk b (Nat.ne_of_lt (Nat.lt_of_lt_of_le (Heap.lt_size q) M.new))).trans (M.keep b o q)
  have hnd : (flds.zip us).map (·.1) = flds := List.map_fst_zip (by rw [hul, T.len]; exact Nat.le_refl _)
  have ob : ObjOk X.prog X.w (upd H1 d (.xd (flds.zip vs))) G' d (.xd (flds.zip vs)) :=
    ⟨_, hns.at (fun o q => (gk d M.dne).trans q), fun f => by
      rw [fdm_lookup, lookup_reverse_of_nodup _ (by rw [hnd]; exact T.ndf)]
      exact relO_zip f r1⟩
  have J : Inv X pins σ (upd H1 d (.xd (flds.zip vs))) ⟨G', gg, dr, tk', os⟩ := I1.laid (t' := tk') old M.dbig ob
  refine ⟨e, oe, fv, ⟨G', gg, dr, tk', os⟩, _, .ref C, some d, rfl, J, fun b o q => ?_, ge, hoe, ⟨hc, hd⟩, hdat, h1, ?_, rfl, I1.bare, raises_own T.exC T.tyC, q1 d (I1.hok.fresh M.dbig)⟩
  · by_cases hb : b = e
    · have q' : G'.get? b = some o := q
      rw [hb, ge] at q'; cases q'
    · exact (gk b hb).symm.trans q
  · rw [upd_ne (Ne.symm M.dne)]
    exact I1.hok.fresh M.new
end M

set_option Elab.async false
set_option linter.all false
set_option maxRecDepth 100000
/-! XB: the facts of own exceptions as one look. -/
namespace M
open PySem PySem.Spec L2 PySem.W
structure ExP where
  c : Str
  flds : List Str
  ps : List Str
  qual : Str
  st : Stmt
def ExP.adr (K : Frag) (p : ExP) : Addr := He.ma K (He.ga K p.c) "__init__"
abbrev XW := Option (Str × Str × Arguments × FuncBody × Scope × Addr × List Str × Addr)
def fnX (K : Frag) (a : Addr) : XW := match K.lookup a with
  | some ⟨_, _, .func fd, _⟩ => some (fd.name, fd.qualname, fd.params, fd.body, fd.scope, fd.globals, fd.closure.map (·.1), fd.builtins)
  | _ => none
def ExP.val (p : ExP) : XW := some ("__init__", p.qual, stArgs p.st, .stmts (stBody p.st), stScope p.st, mainGlobals, [("__class__" : Str)], builtinsNs)
def xcls (K : Frag) (C : Addr) : Bool := match K.lookup C with
  | some ⟨.type "type", _, .cls cd, sl⟩ => match cd.mro, sl.toList with
    | .ref C' :: bm, [_, _, _, _, some (.builtin n), _] => C' == C && n == "ValueError.__new__" && !cd.hasDel && HandSPX.refsVE bm && cd.hasDict
    | _, _ => false
  | _ => false
def xfn (file : Str) (K : Frag) (C f : Addr) : Bool := match K.lookup f with
  | some ⟨_, _, .func fd, _⟩ => (match fd.defaults with
    | .none => true
    | _ => false) && codeIn K fd.code fd.qualname && (match fd.closure with
    | [(_, cc)] => match K.lookup cc with
      | some ⟨_, _, .cell (some (.ref D)), _⟩ => D == C
      | _ => false
    | _ => false) && (match fd.code with
    | .ref cda => match K.lookup cda with
      | some ⟨_, _, .fields vs, _⟩ => match (vs[2]? : Option Value) with
        | some (.str f2 _) => decide (file = f2)
        | _ => false
      | _ => false
    | _ => false)
  | _ => false
def xB (file : Str) (K : Frag) (p : ExP) : Bool :=
  let C := He.ga K p.c
  let f := He.ma K C "__init__"
  eqOV (nsIn K mainGlobals p.c) (some (some (.ref C))) && xcls K C && eqOV (findIn K (.ref C) "__setattr__") (some (some (.builtin "object.__setattr__"))) &&
  eqOV (findIn K (.ref C) "__getattribute__") (some (some (.builtin "BaseException.__getattribute__"))) && eqOV (findIn K (.ref C) "__getattr__") (some none) && hasDictIn K C &&
  p.flds.all (fun x => eqOV (findIn K (.ref C) x) (some none)) && eqOV (findIn K (.ref C) "__init__") (some (some (.ref f))) && decide (typeIn K (.ref f) = some (.type "function")) && keepIn K (.ref C) &&
  decide (subIn K (.ref C) (.type "BaseException") = some true) && decide (subIn K (.ref C) (.type "ValueError") = some true) && decide (typeIn K (.ref C) = some (.type "type")) && decide (mroIn K C (.ref C) = some true) &&
  eqOV (ks_superIn K C C "__init__") (some (some (.builtin "ValueError.__init__"))) && eqOV (nsIn K mainGlobals "super") (some none) && eqOV (nsIn K cStatics "thirdparty.any") (some none) && xfn file K C f
/-- what the text alone tells -/
structure XT (p : ExP) : Prop where
  skind : (stScope p.st).kind = .function
  sco : (stScope p.st).isCoroutine = false
  sgen : (stScope p.st).isGenerator = false
  scell : ∀ x ∈ (stScope p.st).names, x.2 ≠ .cell
  ssup : (stScope p.st).names.lookup ("super" : Str) = some .globalImplicit
  scls : (stScope p.st).names.lookup ("__class__" : Str) = some .free
  sloc : ∀ y ∈ ("self" :: p.ps : List Str), (stScope p.st).names.lookup y = some .local
  head : ∃ ar, ((stArgs p.st).posonlyargs ++ (stArgs p.st).args).head? = some ar ∧ ar.arg = ("self" : Str)
  body : ∃ bd sts, stBody p.st = bd :: sts ∧ (∃ es, supPart bd = some es ∧ es.all (fsPart p.ps) = true ∧ es.length ≤ 100) ∧ sts.map (stPart p.ps) = (p.flds.zip p.ps).map some
  bind : ∀ (fd : FuncData), fd.params = stArgs p.st → fd.scope = stScope p.st → fd.defaults = .none → ∀ (s : Shared) (us : List Value), us.length = ("self" :: p.ps : List Str).length → BindsTo s fd ⟨us, []⟩ (("self" :: p.ps : List Str).zip us)
  nd : ("self" :: p.ps : List Str).Nodup
  ndf : p.flds.Nodup
  len : p.flds.length = p.ps.length
  ne : p.flds ≠ []
  few : p.ps.length ≤ 50
theorem xf_of {P : Program} {file : Str} {K : Frag} {h : Heap} {mg : Str → Option Value} {p : ExP} (hfile : P.main.file = file) (htop : (P.main.scope.names.lookup ("super" : Str)).isSome = false) (X : K.In h) (G : h.Ns mainGlobals mg) (b : xB file K p = true) (e : fnX K (p.adr K) = p.val) (t : XT p) :
    ∃ C fI cc cda fd bd sts, XF P K mg p.c p.flds p.ps C fI cc cda fd bd sts := by
  unfold xB at b
  simp only [Bool.and_eq_true] at b
  obtain ⟨⟨⟨⟨⟨⟨⟨⟨⟨⟨⟨⟨⟨⟨⟨⟨⟨b1, b2⟩, b3⟩, b4⟩, b5⟩, b6⟩, b7⟩, b8⟩, b9⟩, b10⟩, b11⟩, b12⟩, b13⟩, b14⟩, b15⟩, b16⟩, b17⟩, b18⟩ := b
  rw [List.all_eq_true] at b7
  unfold ExP.adr at e
  unfold xfn at b18
  unfold fnX at e
  split at b18
  · rename_i oc od fd osl hfd
    rw [hfd] at e
    simp only [Bool.and_eq_true] at b18
    obtain ⟨⟨⟨q0, q1⟩, q2⟩, q3⟩ := b18
    have q0' : fd.defaults = .none := by
      split at q0
      · assumption
      · cases q0
    unfold ExP.val at e
    have e := Option.some.inj e
    simp only [Prod.mk.injEq] at e
    obtain ⟨e1, e2, e3, e4, e5, e6, e7, e8⟩ := e
    split at q2
    · rename_i nm cc hclo
      rw [hclo] at e7
      simp only [List.map_cons, List.map_nil, List.cons.injEq, and_true] at e7
      subst e7
      split at q2
      · rename_i cl cld D csl hcell
        rw [beq_iff_eq] at q2
        subst q2
        split at q3
        · rename_i cda hcda
          split at q3
          · rename_i ccl cdd vs ccs hco
            split at q3
            · rename_i f2 tf hv
              have hf2 := of_decide_eq_true q3
              obtain ⟨bd, sts, hb, hparts, hst⟩ := t.body
              refine ⟨He.ga K p.c, He.ma K (He.ga K p.c) "__init__", cc, cda, fd, bd, sts, ?_⟩
              exact {
                gC := mg_of X G (of_decide_eq_true b1)
                cls := by
                  unfold xcls at b2
                  split at b2
                  · rename_i dd cd sl ho
                    split at b2
                    · rename_i C' bm k0 k1 k2 k3 n k5 hm hs
                      simp only [Bool.and_eq_true, beq_iff_eq, Bool.not_eq_true'] at b2
                      obtain ⟨⟨⟨⟨c1, rfl⟩, hdel⟩, ht⟩, hdc⟩ := b2
                      subst c1
                      obtain ⟨nm, bs, mro, ns, qn, hd, sn, sub, ab, col, del⟩ := cd
                      dsimp only at hm hdel hdc
                      subst hm hdel hdc
                      have hsl : sl = #[k0, k1, k2, k3, some (.builtin "ValueError.__new__"), k5] := by
                        obtain ⟨l⟩ := sl
                        simp only at hs
                        rw [hs]
                      subst hsl
                      exact ⟨nm, qn, ns, bs, bm, sn, sub, ab, col, dd, k0, k1, k2, k3, k5, ho, ht⟩
                    · cases b2
                  · cases b2
                sa := of_decide_eq_true b3
                ga := of_decide_eq_true b4
                gg := of_decide_eq_true b5
                hd := b6
                noN := fun f hf => of_decide_eq_true (b7 f hf)
                iC := of_decide_eq_true b8
                tC := of_decide_eq_true b9
                kC := b10
                exC := of_decide_eq_true b11
                veC := of_decide_eq_true b12
                tyC := of_decide_eq_true b13
                selfC := of_decide_eq_true b14
                sup := of_decide_eq_true b15
                noSup := of_decide_eq_true b16
                noTp := of_decide_eq_true b17
                fn := ⟨_, _, _, hfd⟩
                cell := ⟨_, _, _, hcell⟩
                code := ⟨hcda, q1⟩
                file := ⟨_, _, vs, _, f2, tf, hco, hv, by rw [hfile, hf2]; simp⟩
                top := htop
                clo := hclo
                glo := e6
                blt := e8
                skind := by rw [e5]; exact t.skind
                sco := by rw [e5]; exact t.sco
                sgen := by rw [e5]; exact t.sgen
                scell := by rw [e5]; exact t.scell
                ssup := by rw [e5]; exact t.ssup
                scls := by rw [e5]; exact t.scls
                sloc := by rw [e5]; exact t.sloc
                head := by rw [e3]; exact t.head
                body := by rw [e4, hb]
                parts := hparts
                stores := hst
                bind := t.bind fd e3 e5 q0'
                nd := t.nd
                ndf := t.ndf
                len := t.len
                ne := t.ne }
            · cases q3
          · cases q3
        · cases q3
      · cases q2
    · cases q2
  · cases b18
end M

set_option Elab.async false
set_option linter.all false
set_option maxRecDepth 100000
/-! N25: from the head's facts to what the defs stand in. -/
namespace M
open PySem PySem.Spec L2 PySem.W
/-- what the text alone tells of a def -/
structure FnT (pg : Pg) (p : FnP) : Prop where
  sc : C8.scC p.d.N p.d.ps (stScope p.d.st) = true
  res : (resSs pg 40 p.d.gam (stBody p.d.st)).map (·.is) = some p.d.ir
  bind : ∀ (K : Frag) (fa : Addr) (fd : FuncData), FunD K p.d.f p.qual (stArgs p.d.st) (stBody p.d.st) (stScope p.d.st) (p.dfl.map (He.Dv.v K)) [] fa fd → Binds K fd p.d.ps []
def findP (fp : List FnP) (c f : Str) : Option FnP := fp.find? fun p => decide (p.d.c = c) && decide (p.d.f = f)
def covB (pg : Pg) (fp : List FnP) : Bool :=
  pg.fns.all (fun f => (findP fp "" f).isSome) && pg.cls.all (fun q => decide (q.1 ≠ "") &&
    q.2.meths.all (fun m => (findP fp q.1 m).any fun p => !p.prp) && q.2.props.all (fun m => (findP fp q.1 m).any fun p => p.prp) && (!q.2.ini || (findP fp q.1 "__init__").any fun p => !p.prp))
/-! ### the hook -/
def obsM (n : Nat) (pg : Pg) (fp : List FnP) (xs : List ExP) (file : Str) (tf : List (Frag → Addr)) (ex : Frag → Bool) (g : Addr → Option Obj) : Bool × List He.FnW × List XW :=
  let K := He.frT g (He5.asA g n)
  (pgB pg K && (fp.all fun p => p.da.ok K) && (xs.all (xB file K) && ex K) && (tf.all fun a => codeHdIn K (cTa K (a K)).1 (cTa K (a K)).2 && (match g (cTa K (a K)).2 with
    | some o => He.emptyTab o
    | none => false)), fp.map (fun p => He5.fnA K (p.adr K)), xs.map fun p => fnX K (p.adr K))
def valM (fp : List FnP) (xs : List ExP) : Bool × List He.FnW × List XW := (true, fp.map (fun p => p.da.val), xs.map fun p => p.val)
structure SaysM (pg : Pg) (fp : List FnP) (xs : List ExP) (file : Str) (tf : List (Frag → Addr)) (ex : Frag → Bool) (h : Heap) (K : Frag) : Prop where
  pg : pgB pg K = true
  ok : ∀ p ∈ fp, p.da.ok K = true
  fn : ∀ p ∈ fp, He5.fnA K (p.adr K) = p.da.val
  ex : ex K = true
  xb : ∀ p ∈ xs, xB file K p = true
  xn : ∀ p ∈ xs, fnX K (p.adr K) = p.val
  hd : ∀ a ∈ tf, codeHdIn K (cTa K (a K)).1 (cTa K (a K)).2 = true
  out : ∀ a ∈ tf, K.lookup (cTa K (a K)).2 = none
  empty : ∀ a ∈ tf, h.get? (cTa K (a K)).2 = some { cls := .none, data := .fields #[] }
theorem saysM_of {n : Nat} {pg : Pg} {fp : List FnP} {xs : List ExP} {file : Str} {tf : List (Frag → Addr)} {ex : Frag → Bool} {h : Heap} (e : obsM n pg fp xs file tf ex h.get? = valM fp xs) : SaysM pg fp xs file tf ex h (He.frT h.get? (He5.asA h.get? n)) := by
  have e1 := congrArg Prod.fst e
  have e2 := congrArg (fun z => z.2.1) e
  have e5 := congrArg (fun z => z.2.2) e
  simp only [obsM, valM, Bool.and_eq_true] at e1 e2 e5
  obtain ⟨⟨⟨q1, q2⟩, q5, q3⟩, q4⟩ := e1
  rw [List.all_eq_true] at q2 q4 q5
  have key : ∀ a ∈ tf, codeHdIn (He.frT h.get? (He5.asA h.get? n)) (cTa (He.frT h.get? (He5.asA h.get? n)) (a (He.frT h.get? (He5.asA h.get? n)))).1 (cTa (He.frT h.get? (He5.asA h.get? n)) (a (He.frT h.get? (He5.asA h.get? n)))).2 = true ∧
      ∃ o, h.get? (cTa (He.frT h.get? (He5.asA h.get? n)) (a (He.frT h.get? (He5.asA h.get? n)))).2 = some o ∧ He.emptyTab o = true := fun a ha => by
    have := q4 a ha
    rw [Bool.and_eq_true] at this
    refine ⟨this.1, ?_⟩
    have h4 := this.2
    split at h4
    · rename_i o ho; exact ⟨o, ho, h4⟩
    · cases h4
  refine ⟨q1, q2, fun p hp => ?_, q3, q5, fun p hp => ?_, fun a ha => (key a ha).1, fun a ha => ?_, fun a ha => ?_⟩
  · obtain ⟨i, hi, e3⟩ := List.mem_iff_getElem.mp hp
    have e4 : (fp.map fun p => He5.fnA (He.frT h.get? (He5.asA h.get? n)) (p.adr (He.frT h.get? (He5.asA h.get? n))))[i]? = (fp.map fun p => p.da.val)[i]? := by rw [e2]
    rw [List.getElem?_map, List.getElem?_map, List.getElem?_eq_getElem hi, e3] at e4
    exact Option.some.inj e4
  · obtain ⟨i, hi, e3⟩ := List.mem_iff_getElem.mp hp
    have e4 : (xs.map fun p => fnX (He.frT h.get? (He5.asA h.get? n)) (p.adr (He.frT h.get? (He5.asA h.get? n))))[i]? = (xs.map fun p => p.val)[i]? := by rw [e5]
    rw [List.getElem?_map, List.getElem?_map, List.getElem?_eq_getElem hi, e3] at e4
    exact Option.some.inj e4
  · obtain ⟨_, o, q, z⟩ := key a ha
    exact He.frT_none q z
  · obtain ⟨_, o, q, z⟩ := key a ha
    rw [q, He.emptyTab_eq z]
def hookM (n : Nat) (pg : Pg) (fp : List FnP) (xs : List ExP) (file : Str) (tf : List (Frag → Addr)) (ex : Frag → Bool) : PySem.W.Hook where
  α := Bool × List He.FnW × List XW
  obs := fun s => obsM n pg fp xs file tf ex s.heap.get?
  val := fun _ => valM fp xs
  says := fun _ h => ∃ K : Frag, K.In h ∧ SaysM pg fp xs file tf ex h K
  of := fun _ _ e => ⟨_, He.frT_in, saysM_of e⟩
  keeps := fun _ _ _ ⟨K, hK, c⟩ k => ⟨K, PySem.W.Frag.In.keeps hK k, ⟨c.pg, c.ok, c.fn, c.ex, c.xb, c.xn, c.hd, c.out, fun p hp => k _ _ (c.empty p hp)⟩⟩
theorem obsM_eq {n : Nat} {pg : Pg} {fp : List FnP} {xs : List ExP} {file : Str} {tf : List (Frag → Addr)} {ex : Frag → Bool} {g : Addr → Option Obj} {s : Shared} (h : ∀ a, g a = s.heap.get? a) : obsM n pg fp xs file tf ex g = (hookM n pg fp xs file tf ex).obs s := by
  have e : g = s.heap.get? := funext h
  rw [e] <;> rfl
/-! ### what follows -/
theorem findP_map {fp : List FnP} {c f : Str} {p : FnP} (h : findP fp c f = some p) : findFn (fp.map (·.d)) c f = some p.d ∧ p ∈ fp ∧ p.d.c = c ∧ p.d.f = f := by
  have h1 := List.find?_some h
  simp only [Bool.and_eq_true, decide_eq_true_eq] at h1
  refine ⟨?_, List.mem_of_find?_eq_some h, h1.1, h1.2⟩
  unfold findFn
  rw [List.find?_map]
  unfold findP at h
  have : (fun d : FnD => decide (d.c = c) && decide (d.f = f)) ∘ (fun p : FnP => p.d) = fun p : FnP => decide (p.d.c = c) && decide (p.d.f = f) := rfl
  rw [this, h]; rfl
section
variable {pg : Pg} {fp : List FnP} {xs : List ExP} {file : Str} {tf : List (Frag → Addr)} {ex : Frag → Bool} {h base : Heap} {g : Gm}
theorem fnX_of (c : SaysM pg fp xs file tf ex h g.K) (T : ∀ p ∈ fp, FnT pg p) (cd : ∀ p ∈ fp, p.d.gen = true → GxR.TabB base g.mg (cTa g.K (p.adr g.K)).1 (cTa g.K (p.adr g.K)).2 ∧ (cTa g.K (p.adr g.K)).2 ∈ g.G) (cdL : ∀ p ∈ fp, p.d.lam = true → LamX.TabB base g.mg (cTa g.K (p.adr g.K)).1 (cTa g.K (p.adr g.K)).2 ∧ ((cTa g.K (p.adr g.K)).2, p.qual ++ ".<locals>." ++ "<lambda>") ∈ g.T ∧ ∀ q ∈ g.T, q.1 = (cTa g.K (p.adr g.K)).2 → q.2 = p.qual ++ ".<locals>." ++ "<lambda>") {p : FnP} (hp : p ∈ fp) : FnX base g pg p.d (p.adr g.K) := by
  obtain ⟨fd, F⟩ := He5.DefA.funD (d := p.da) (c.fn p hp) (c.ok p hp)
  have t := T p hp
  refine ⟨⟨fd, _, _, _, _, _, F, fun cdv hcdv hgen => ?_, fun cdv hcdv hlam => ?_, t.bind g.K _ fd F⟩, C8.fnScope_by t.sc, ?_⟩
  · obtain ⟨oc, od, dV, kV, doc, pm, an, cdv', ct, osl, hfd, lk, hcd, _, _⟩ := F.ex
    obtain ⟨cc, hc⟩ := He.codeIn_ref hcd
    have e1 : fd.code = .ref cc := by rw [hfd, ← hc]
    obtain ⟨t1, t2⟩ := cd p hp hgen
    have lk' : g.K.lookup (p.adr g.K) = some ⟨oc, od, .func fd, osl⟩ := lk
    have e2 : (cTa g.K (p.adr g.K)) = (cc, He.tabOf g.K cc) := by
      unfold cTa
      rw [lk']
      simp only [e1]
    rw [e2] at t1 t2
    exact ⟨cc, _, by rw [← hcdv, e1], t1, t2⟩
  · obtain ⟨oc, od, dV, kV, doc, pm, an, cdv', ct, osl, hfd, lk, hcd, _, _⟩ := F.ex
    obtain ⟨cc, hc⟩ := He.codeIn_ref hcd
    have e1 : fd.code = .ref cc := by rw [hfd, ← hc]
    obtain ⟨t1, t2, t3⟩ := cdL p hp hlam
    have lk' : g.K.lookup (p.adr g.K) = some ⟨oc, od, .func fd, osl⟩ := lk
    have e2 : (cTa g.K (p.adr g.K)) = (cc, He.tabOf g.K cc) := by
      unfold cTa
      rw [lk']
      simp only [e1]
    rw [e2] at t1 t2 t3
    exact ⟨cc, _, by rw [← hcdv, e1], t1, t2, t3⟩
  · obtain ⟨r, h1, h2⟩ := Option.map_eq_some_iff.mp t.res
    exact ⟨r, h2⟩
theorem hd_of (X : g.K.In base) (G : base.Ns mainGlobals g.mg) (c : SaysM pg fp xs file tf ex h g.K) (T : ∀ p ∈ fp, FnT pg p) (cov : covB pg fp = true)
    (cd : ∀ p ∈ fp, p.d.gen = true → GxR.TabB base g.mg (cTa g.K (p.adr g.K)).1 (cTa g.K (p.adr g.K)).2 ∧ (cTa g.K (p.adr g.K)).2 ∈ g.G) (cdL : ∀ p ∈ fp, p.d.lam = true → LamX.TabB base g.mg (cTa g.K (p.adr g.K)).1 (cTa g.K (p.adr g.K)).2 ∧ ((cTa g.K (p.adr g.K)).2, p.qual ++ ".<locals>." ++ "<lambda>") ∈ g.T ∧ ∀ q ∈ g.T, q.1 = (cTa g.K (p.adr g.K)).2 → q.2 = p.qual ++ ".<locals>." ++ "<lambda>") : Hd base g pg (fp.map (·.d)) := by
  have hpg := c.pg
  unfold pgB at hpg
  simp only [Bool.and_eq_true, decide_eq_true_eq] at hpg
  obtain ⟨⟨⟨⟨⟨⟨g1, g2⟩, g3⟩, g4⟩, g5⟩, g6⟩, g7⟩ := hpg
  rw [List.all_eq_true] at g1 g2 g3 g4 g5
  unfold covB at cov
  simp only [Bool.and_eq_true] at cov
  obtain ⟨v1, v2⟩ := cov
  rw [List.all_eq_true] at v1 v2
  have cls : ∀ cn ci, pg.cls.lookup cn = some ci → clsB g.K cn ci = true ∧ (∀ f, ci.props.contains f = true → propB g.K cn f = true) ∧ cn ≠ "" ∧ (∀ m, ci.meths.contains m = true → (findP fp cn m).any (fun p => !p.prp) = true) ∧ (∀ m, ci.props.contains m = true → (findP fp cn m).any (fun p => p.prp) = true) ∧ (ci.ini = true → (findP fp cn "__init__").any (fun p => !p.prp) = true) := fun cn ci hc => by
    have hm := lookup_mem' hc
    have q := g4 _ hm
    have r := v2 _ hm
    simp only [Bool.and_eq_true, decide_eq_true_eq, Bool.or_eq_true, Bool.not_eq_true'] at q r
    obtain ⟨⟨⟨r1, r2⟩, r3⟩, r4⟩ := r
    have q2 := q.2
    rw [List.all_eq_true] at q2 r2 r3
    refine ⟨q.1, fun f hf => q2 f (by simpa using hf), r1, fun m hm => r2 m (by simpa using hm), fun m hm => r3 m (by simpa using hm), fun hi => ?_⟩
    rcases r4 with r4 | r4
    · rw [r4] at hi; cases hi
    · exact r4
  have any_of : ∀ {o : Option FnP} {b : FnP → Bool}, o.any b = true → ∃ p, o = some p ∧ b p = true := fun {o b} h => by
    cases o with
    | none => cases h
    | some p => exact ⟨p, rfl, h⟩
  refine ⟨fun S hS => ⟨fun cn ci hc => ?_, fun cn cn' ci ci' C C' hc hc' h1 h2 => ?_, of_decide_eq_true g6, g7⟩, fun f hf => ?_, fun cn ci m hc hm => ?_, fun cn ci f hc hf => ?_, fun cn ci hc hi => ?_⟩
  · unfold Ev.cls at hc
    rw [hS] at hc
    exact ⟨_, (clsB_ok X G (cls cn ci hc).1).1⟩
  · unfold Ev.cls at hc hc'
    rw [hS] at hc hc'
    have e1 := (clsB_ok X G (cls cn ci hc).1).1.at_
    have e2 := (clsB_ok X G (cls cn' ci' hc').1).1.at_
    rw [h1] at e1; cases e1
    rw [h2] at e2; cases e2
    have q := g5 _ (lookup_mem' hc)
    rw [List.all_eq_true] at q
    have q := q _ (lookup_mem' hc')
    simpa using q
  · obtain ⟨p, hp⟩ := Option.isSome_iff_exists.mp (v1 f (by simpa using hf))
    obtain ⟨m1, m2, m3, m4⟩ := findP_map hp
    obtain ⟨a1, a2⟩ := fnB_ok X G (g1 f (by simpa using hf))
    have ea : p.adr g.K = He.ga g.K f := by unfold FnP.adr; rw [if_pos m3, m4]
    have := fnX_of c T cd cdL m2
    rw [ea] at this
    exact ⟨p.d, He.ga g.K f, m1, a1, a2, this⟩
  · obtain ⟨k1, k2, k3, k4, k5, k6⟩ := cls cn ci hc
    obtain ⟨p, hp, hb⟩ := any_of (k4 m hm)
    obtain ⟨m1, m2, m3, m4⟩ := findP_map hp
    obtain ⟨F, M, _⟩ := clsB_ok X G k1
    have ea : p.adr g.K = He.ma g.K (He.ga g.K cn) m := by
      unfold FnP.adr
      rw [if_neg (by rw [m3]; exact k3), if_neg (by simpa using hb), m3, m4]
    have := fnX_of c T cd cdL m2
    rw [ea] at this
    exact ⟨p.d, _, _, m1, F.at_, M m hm, this⟩
  · obtain ⟨k1, k2, k3, k4, k5, k6⟩ := cls cn ci hc
    obtain ⟨p, hp, hb⟩ := any_of (k5 f hf)
    obtain ⟨m1, m2, m3, m4⟩ := findP_map hp
    obtain ⟨F, _, _⟩ := clsB_ok X G k1
    obtain ⟨pp, hpp⟩ := propB_ok (k2 f hf)
    have ea : p.adr g.K = getterOf g.K (He.ga g.K cn) f := by
      unfold FnP.adr
      rw [if_neg (by rw [m3]; exact k3), if_pos hb, m3, m4]
    have := fnX_of c T cd cdL m2
    rw [ea] at this
    exact ⟨p.d, _, pp, _, m1, F.at_, hpp, this⟩
  · obtain ⟨k1, k2, k3, k4, k5, k6⟩ := cls cn ci hc
    obtain ⟨p, hp, hb⟩ := any_of (k6 hi)
    obtain ⟨m1, m2, m3, m4⟩ := findP_map hp
    obtain ⟨F, _, Mk⟩ := clsB_ok X G k1
    have ea : p.adr g.K = He.ma g.K (He.ga g.K cn) "__init__" := by
      unfold FnP.adr
      rw [if_neg (by rw [m3]; exact k3), if_neg (by simpa using hb), m3, m4]
    have := fnX_of c T cd cdL m2
    rw [ea] at this
    exact ⟨p.d, _, _, m1, F.at_, Mk hi, this⟩
end
/-! ### the law's helper that hears -/
def hxB (K : Frag) : Bool :=
  let CB := He.ga K "BadArgument"
  let CN := He.ga K "NoPlan"
  let CE := He.ga K "CaveError"
  fnB K "_law_heard" && eqOV (nsIn K mainGlobals "BadArgument") (some (some (.ref CB))) && eqOV (nsIn K mainGlobals "NoPlan") (some (some (.ref CN))) && eqOV (nsIn K mainGlobals "CaveError") (some (some (.ref CE))) &&
  eqOV (nsIn K mainGlobals "ValueError") (some none) && eqOV (nsIn K mainGlobals "isinstance") (some none) &&
  decide (exmOne K (.ref CB) (.ref CB) = some true) && decide (exmOne K (.ref CN) (.ref CB) = some false) && decide (exmOne K (.ref CN) (.ref CN) = some true) &&
  xfB K CB && xfB K CN && eqOV (findIn K (.ref CB) "__class__") (some (some (.builtin "object.__class__"))) && eqOV (findIn K (.ref CN) "__class__") (some (some (.builtin "object.__class__"))) &&
  eqOV (specialIn K (.builtin "object.__class__") "__get__") (some (some (.builtin "getset_descriptor.__get__"))) && decide (takesIn K (.builtin "object.__class__") = some true) &&
  decide (mroIn K CB (.type "object") = some true) && decide (mroIn K CN (.type "object") = some true) &&
  eqOV (findIn K (.ref CB) "name") (some none) && eqOV (findIn K (.ref CN) "ring") (some none) &&
  decide (kitOne K (.ref CB) (.ref CN) = some false) && decide (kitOne K (.ref CB) (.ref CE) = some true) && decide (kitOne K (.ref CB) (.type "ValueError") = some true) &&
  decide (kitOne K (.ref CN) (.ref CE) = some true) && decide (kitOne K (.ref CN) (.type "ValueError") = some true)
theorem hx_of {K : Frag} {h : Heap} {mg : Str → Option Value} (X : K.In h) (G : h.Ns mainGlobals mg) (b : hxB K = true) : HX K mg (He.ga K "BadArgument") (He.ga K "NoPlan") (He.ga K "CaveError") ∧ mg "_law_heard" = some (.ref (He.ga K "_law_heard")) := by
  unfold hxB at b
  simp only [Bool.and_eq_true, decide_eq_true_eq] at b
  obtain ⟨⟨⟨⟨⟨⟨⟨⟨⟨⟨⟨⟨⟨⟨⟨⟨⟨⟨⟨⟨⟨⟨⟨b1, b2⟩, b3⟩, b4⟩, b5⟩, b6⟩, b7⟩, b8⟩, b9⟩, b10⟩, b11⟩, b12⟩, b13⟩, b14⟩, b15⟩, b16⟩, b17⟩, b18⟩, b19⟩, b20⟩, b21⟩, b22⟩, b23⟩, b24⟩ := b
  have xB := xfB_ok b10
  have xN := xfB_ok b11
  refine ⟨⟨mg_of X G (of_decide_eq_true b2), mg_of X G (of_decide_eq_true b3), mg_of X G (of_decide_eq_true b4), mg_none_of X G (of_decide_eq_true b5), mg_none_of X G (of_decide_eq_true b6), b7, b8, b9,
    ⟨xB.ga, xB.gg, xB.exC, xB.hdC, of_decide_eq_true b12, of_decide_eq_true b14, b15, b16⟩, ⟨xN.ga, xN.gg, xN.exC, xN.hdC, of_decide_eq_true b13, of_decide_eq_true b14, b15, b17⟩, xB, xN, of_decide_eq_true b18, of_decide_eq_true b19, b20, b21, b22, b23, b24⟩, (fnB_ok X G b1).1⟩
/-- what the text alone tells of the helper -/
structure HrdT (p : FnP) : Prop where
  c : p.d.c = ""
  f : p.d.f = "_law_heard"
  q : p.qual = "_law_heard"
  dfl : p.dfl = []
  body : ∃ P, stBody p.d.st = heardB P
  sc : C8.scC ["ask", "e"] ["ask"] (stScope p.d.st) = true
  hs : HScope (stScope p.d.st)
  bind : ∀ (K : Frag) (fa : Addr) (fd : FuncData), FunD K p.d.f p.qual (stArgs p.d.st) (stBody p.d.st) (stScope p.d.st) (p.dfl.map (He.Dv.v K)) [] fa fd → Binds K fd ["ask"] []
theorem heardF_of {K : Frag} {h : Heap} {mg : Str → Option Value} {p : FnP} (X : K.In h) (G : h.Ns mainGlobals mg) (b : hxB K = true) (t : HrdT p) (hok : p.da.ok K = true) (hfn : He5.fnA K (p.adr K) = p.da.val) : HeardF K mg := by
  obtain ⟨HH, hm⟩ := hx_of X G b
  obtain ⟨fd, F⟩ := He5.DefA.funD (d := p.da) hfn hok
  have F : FunD K p.d.f p.qual (stArgs p.d.st) (stBody p.d.st) (stScope p.d.st) (p.dfl.map (He.Dv.v K)) [] (p.adr K) fd := F
  have B := t.bind K _ fd F
  obtain ⟨P, hP⟩ := t.body
  have ea : p.adr K = He.ga K "_law_heard" := by unfold FnP.adr; rw [if_pos t.c, t.f]
  rw [hP, t.f, t.q, t.dfl, ea] at F
  exact ⟨_, _, _, P, _, _, _, fd, hm, F, B, C8.fnScope_by t.sc, HH, t.hs⟩
end M

set_option Elab.async false
set_option linter.all false
set_option maxRecDepth 100000
/-! N26: the end. -/
namespace M
open PySem PySem.Spec L2 PySem.W
theorem rep_start {g : Gm} {H : Hp} (ht : ∀ q ∈ g.T, H q.1 = some (.tbl #[])) (hg : ∀ P ∈ g.G, H P = some (.tbl #[])) : RepH g ⟨[], [], fun _ => False⟩ H :=
  ⟨rfl, List.nodup_nil, fun a ha => (by cases ha), fun a ha => False.elim ha, fun a ha => (by cases ha), fun n a c h => (by simp at h), fun q hq => LamX.TabS.nil (ht q hq), fun P hP => ⟨#[], hg P hP, True.intro⟩⟩
/-- what the law is to come to -/
def LawOk (pg : Pg) (fs : List FnD) (k : Nat) : Prop := ∀ ns : List Int, ns.length ≤ 63 → (∀ z ∈ ns, Builtin.Int.intBits z ≤ 1048576) → ∃ n μ, evCall pg n fs (k + 1) "" "law" [.scr ns] [] = some (.ok (.bl true), μ)
/-- the tables' defs: those that make generators, those that make lambdas (with the name) -/
structure Tf where
  gen : List (Frag → Addr)
  lam : List ((Frag → Addr) × Str)
def Tf.all (t : Tf) : List (Frag → Addr) := t.gen ++ t.lam.map (·.1)
def Tf.G (t : Tf) (K : Frag) : List Addr := t.gen.map fun a => (cTa K (a K)).2
def Tf.T (t : Tf) (K : Frag) : List (Addr × Str) := t.lam.map fun q => ((cTa K (q.1 K)).2, q.2)
def Tf.exB (t : Tf) (K : Frag) : Bool := ((t.G K).all fun P => (t.T K).all fun q => q.1 != P) && (t.T K).all fun q => (t.T K).all fun r => q.1 != r.1 || decide (q.2 = r.2)
def gmOf (t : Tf) (K : Frag) (mg : MG) : Gm := ⟨K, mg, t.T K, t.G K⟩
theorem law_end {l : PySem.W.OpenLaw} {w : World} {K : Frag} {mg : Str → Option Value} {fa : Addr} {h : Heap} {pg : Pg} {fp : List FnP} {xs : List ExP} {file : Str} {t : Tf} {ex : Frag → Bool} {kk n : Nat} (hn : n ≤ 63) (X : K.In h) (G : h.Ns mainGlobals mg) (hfa : mg ("law" : Str) = some (.ref fa)) {hs : List FnP} (c2 : SaysM pg (fp ++ hs) xs file t.all ex h K) (T : ∀ p ∈ fp, FnT pg p) (cov : covB pg fp = true)
    (hgen : ∀ p ∈ fp, p.d.gen = true → (fun K => p.adr K) ∈ t.gen) (hlam : ∀ p ∈ fp, p.d.lam = true → ((fun K => p.adr K), p.qual ++ ".<locals>." ++ "<lambda>") ∈ t.lam) (hex : ∀ K, ex K = true → t.exB K = true ∧ (pg.hrd = true → hxB K = true)) (hhs : pg.hrd = true → ∃ p ∈ hs, HrdT p)
    (hexc : pg.exc = xs.map fun p => (p.c, p.flds)) (XTs : ∀ p ∈ xs, XT p) (hfile : l.prog.main.file = file) (htop : (l.prog.main.scope.names.lookup ("super" : Str)).isSome = false)
    {pl : FnP} (hpl : findP fp "" "law" = some pl) (hps : pl.d.ps = [("script" : Str)]) (hlaw : pg.fns.contains "law" = true)
    (hbind : ∀ (fd : FuncData), FunD K pl.d.f pl.qual (stArgs pl.d.st) (stBody pl.d.st) (stScope pl.d.st) (pl.dfl.map (He.Dv.v K)) [] fa fd → ∀ (s : Shared) (u : Value), BindsTo s fd ⟨[u], []⟩ [("script", u)])
    (hL : LawOk pg (fp.map (·.d)) kk) : LamX.LawAtS l w K (CX l.prog w) (8 * kk + 8) n "script" mg fa h := by
  have c : SaysM pg fp xs file t.all ex h K := ⟨c2.pg, fun p hp => c2.ok p (List.mem_append_left _ hp), fun p hp => c2.fn p (List.mem_append_left _ hp), c2.ex, c2.xb, c2.xn, c2.hd, c2.out, c2.empty⟩
  obtain ⟨m1, m2, m3, m4⟩ := findP_map hpl
  have efa : fa = He.ga K "law" := by
    have hpg := c.pg
    unfold pgB at hpg
    simp only [Bool.and_eq_true, decide_eq_true_eq] at hpg
    have g1 := hpg.1.1.1.1.1.1
    rw [List.all_eq_true] at g1
    have := (fnB_ok X G (g1 "law" (by simpa using hlaw))).1
    rw [hfa] at this
    cases this
    rfl
  have ea : pl.adr K = fa := by unfold FnP.adr; rw [if_pos m3, m4, efa]
  obtain ⟨fd, F⟩ := He5.DefA.funD (d := pl.da) (c.fn pl m2) (c.ok pl m2)
  have F : FunD K pl.d.f pl.qual (stArgs pl.d.st) (stBody pl.d.st) (stScope pl.d.st) (pl.dfl.map (He.Dv.v K)) [] fa fd := by rw [← ea]; exact F
  have memG : ∀ {a : Frag → Addr}, a ∈ t.gen → (cTa K (a K)).2 ∈ (gmOf t K mg).G := fun {a} ha => List.mem_map.mpr ⟨a, ha, rfl⟩
  refine ⟨fd, t.all.map (fun a => cTa K (a K)), fun vs H Q E => ∃ n, spM (gmOf t K mg) (evK pg n (fp.map (·.d)) (kk + 1)) "" "law" vs H Q E, ?_, ?_, ?_, hbind fd F, ?_, ?_⟩
  · intro p hp
    obtain ⟨a, ha, rfl⟩ := List.mem_map.mp hp
    exact c.empty a ha
  · intro p hp
    obtain ⟨a, ha, rfl⟩ := List.mem_map.mp hp
    exact c.out a ha
  · intro p hp
    obtain ⟨a, ha, rfl⟩ := List.mem_map.mp hp
    exact codeHd_of_K X (c.hd a ha)
  · intro H a ns hlen hbits hH hS
    obtain ⟨m, μ, e⟩ := hL ns (Nat.le_trans hlen hn) hbits
    have R : RepH (gmOf t K mg) ⟨[], [], fun _ => False⟩ H := rep_start (fun q hq => by
      obtain ⟨z, hz, rfl⟩ := List.mem_map.mp hq
      exact hH _ (List.mem_map.mpr ⟨z.1, List.mem_append_right _ (List.mem_map.mpr ⟨z, hz, rfl⟩), rfl⟩)) (fun P hP => by
      obtain ⟨z, hz, rfl⟩ := List.mem_map.mp hP
      exact hH _ (List.mem_map.mpr ⟨z, List.mem_append_left _ hz, rfl⟩))
    have nl : ∀ a, ¬ (⟨[], [], fun _ => False⟩ : Wd).live a := fun a z => by
      rcases z with z | ⟨i, c, z, _⟩
      · exact z
      · simp at z
    refine ⟨m, ⟨[], [], fun _ => False⟩, [.scr ns], R, IsL.cons ⟨a, rfl, ?_⟩ IsL.nil, ?_⟩
    · rcases hS with hS | hS
      · exact .inl ⟨nl a, hS⟩
      · exact .inr hS
    · exact ⟨.ok (.bl true), μ, e, fun A' H' b _ _ i => i⟩
  · intro base Xb Gb TB
    have cd : ∀ p ∈ fp, p.d.gen = true → GxR.TabB base mg (cTa K (p.adr K)).1 (cTa K (p.adr K)).2 ∧ (cTa K (p.adr K)).2 ∈ (gmOf t K mg).G := fun p hp hg => by
      have hm := hgen p hp hg
      have tb := TB _ (List.mem_map.mpr ⟨_, List.mem_append_left _ hm, rfl⟩)
      exact ⟨⟨tb.code, tb.bm, tb.gP⟩, memG hm⟩
    have htex := (hex K c.ex).1
    unfold Tf.exB at htex
    rw [Bool.and_eq_true, List.all_eq_true, List.all_eq_true] at htex
    have cdL : ∀ p ∈ fp, p.d.lam = true → LamX.TabB base mg (cTa K (p.adr K)).1 (cTa K (p.adr K)).2 ∧ ((cTa K (p.adr K)).2, p.qual ++ ".<locals>." ++ "<lambda>") ∈ (gmOf t K mg).T ∧ ∀ q ∈ (gmOf t K mg).T, q.1 = (cTa K (p.adr K)).2 → q.2 = p.qual ++ ".<locals>." ++ "<lambda>" := fun p hp hl => by
      have hm := hlam p hp hl
      have hT : ((cTa K (p.adr K)).2, p.qual ++ ".<locals>." ++ "<lambda>") ∈ (gmOf t K mg).T := List.mem_map.mpr ⟨_, hm, rfl⟩
      have tb := TB _ (List.mem_map.mpr ⟨_, List.mem_append_right _ (List.mem_map.mpr ⟨_, hm, rfl⟩), rfl⟩)
      refine ⟨⟨tb.code, tb.bm, tb.gP⟩, hT, fun q hq e => ?_⟩
      have h1 := htex.2 q hq
      rw [List.all_eq_true] at h1
      have h2 := h1 _ hT
      simpa [e] using h2
    have hd : Hd base (gmOf t K mg) pg (fp.map (·.d)) := hd_of Xb Gb c T cov cd cdL
    have hpg := c.pg
    unfold pgB at hpg
    simp only [Bool.and_eq_true, decide_eq_true_eq] at hpg
    obtain ⟨⟨⟨⟨⟨⟨g1, g2⟩, g3⟩, g4⟩, g5⟩, g6⟩, g7⟩ := hpg
    rw [List.all_eq_true] at g2 g3
    have hx := fnX_of (g := gmOf t K mg) c T cd cdL m2
    obtain ⟨r, hr1, hr2⟩ := Option.map_eq_some_iff.mp (T pl m2).res
    have key : ∀ m, FnOk l.prog w K mg base (CX l.prog w) (8 * kk + 8) fa fd ["script"] (spM (gmOf t K mg) (evK pg m (fp.map (·.d)) (kk + 1)) "" "law") := fun m => by
      have sur : Sur l.prog w base (gmOf t K mg) pg := ⟨fun x d hx => conB_ok (g := gmOf t K mg) Xb Gb (g3 _ (lookup_mem' hx)), fun x hx => freeB_ok Xb Gb (g2 x hx), fun P hP q hq => by
        have := htex.1 P hP
        rw [List.all_eq_true] at this
        simpa using this q hq, fun hh => (by
        obtain ⟨p, hp, ht⟩ := hhs hh
        exact heardF_of (mg := mg) Xb Gb ((hex K c.ex).2 hh) ht (c2.ok p (List.mem_append_right _ hp)) (c2.fn p (List.mem_append_right _ hp))), fun c' ns hc X' hP hK hM _ hr => by
        rw [hexc] at hc
        have hm := lookup_mem' hc
        obtain ⟨p, hp, e⟩ := List.mem_map.mp hm
        cases e
        obtain ⟨C, fI, cc, cda, fd, bd, sts, F⟩ := xf_of (P := l.prog) hfile htop X G (c.xb p hp) (c.xn p hp) (XTs p hp)
        exact xc_raise (g := gmOf t K mg) hK hM (by rw [hP, hK, hM]; exact F) (XTs p hp).few hr⟩
      have bd := bd_all (n := m) sur hd kk
      have q := fn_step (S := evK pg m (fp.map (·.d)) kk) (S' := evK pg m (fp.map (·.d)) (kk + 1)) (d := pl.d) rfl sur bd F (fun cdv hcdv hgen => by
        obtain ⟨oc, od, dV, kV, doc, pm, an, cdv', ct, osl, hfd, lk, hcd, _, _⟩ := F.ex
        obtain ⟨cc, hc⟩ := He.codeIn_ref hcd
        have e1 : fd.code = .ref cc := by rw [hfd, ← hc]
        obtain ⟨t1, t2⟩ := cd pl m2 hgen
        rw [ea] at t1 t2
        have e2 : cTa K fa = (cc, He.tabOf K cc) := by
          unfold cTa
          rw [lk]
          simp only [e1]
        rw [e2] at t1 t2
        exact ⟨cc, _, by rw [← hcdv, e1], t1, t2⟩) (fun cdv hcdv hlam => by
        obtain ⟨oc, od, dV, kV, doc, pm, an, cdv', ct, osl, hfd, lk, hcd, _, _⟩ := F.ex
        obtain ⟨cc, hc⟩ := He.codeIn_ref hcd
        have e1 : fd.code = .ref cc := by rw [hfd, ← hc]
        obtain ⟨t1, t2, t3⟩ := cdL pl m2 hlam
        rw [ea] at t1 t2 t3
        have e2 : cTa K fa = (cc, He.tabOf K cc) := by
          unfold cTa
          rw [lk]
          simp only [e1]
        rw [e2] at t1 t2 t3
        exact ⟨cc, _, by rw [← hcdv, e1], t1, t2, t3⟩) (C8.fnScope_by (T pl m2).sc) r hr2 (fun ds μ => by
        show evCall pg m (fp.map (·.d)) (kk + 1) pl.d.c pl.d.f ds μ = _
        unfold evCall
        rw [m3, m4, m1]
        rfl)
      rw [hps, m3, m4] at q
      exact q
    exact ⟨fun vs H Q E ⟨m, z⟩ => (key m).len vs H Q E z, fun A outer s H args us vs Q E hr e0 hb rv ⟨m, z⟩ => (key m).run A outer s H args us vs Q E hr e0 hb rv z⟩
end M

set_option Elab.async false
set_option linter.all false
set_option maxRecDepth 100000
/-! MA: reckoning with the small language's meaning. -/
namespace M
open PySem PySem.Spec L2
section
variable {α β γ : Type}
/-- what hangs on x is not looked into -/
@[reducible] def TgA {γ : Type} (_ : γ) : Type := Unit
def bdn (x : Mo α) (f : α → Mu → Mo β) (_ : TgA f) : Mo β := mBind x f
theorem mb_ok (a : α) (μ : Mu) (f : α → Mu → Mo β) : mBind (mOk a μ) f = f a μ := rfl
theorem bd_ok (a : α) (μ : Mu) (f : α → Mu → Mo β) (t : TgA f) : bdn (mOk a μ) f t = f a μ := rfl
theorem bd_some (a : α) (μ : Mu) (f : α → Mu → Mo β) (t : TgA f) : bdn (some (.ok a, μ)) f t = f a μ := rfl
theorem bd_exc (e : Exn) (μ : Mu) (f : α → Mu → Mo β) (t : TgA f) : bdn (some (.exc e, μ)) f t = some (.exc e, μ) := rfl
theorem op_some (a : α) (μ : Mu) : mOpt (some a) μ = mOk a μ := rfl
theorem bd_bd (x : Mo α) (f : α → Mu → Mo β) (h : β → Mu → Mo γ) (t : TgA f) (u : TgA h) : bdn (bdn x f t) h u = bdn x (fun a μ => bdn (f a μ) h ()) () := by
  cases x with
  | none => rfl
  | some p => obtain ⟨o, μ⟩ := p; cases o <;> rfl
end
def cIf {α : Type} (k : Bool) (a b : Mo α) (_ : TgA (a, b)) : Mo α := if k then a else b
theorem cIf_t {α : Type} (a b : Mo α) (t : TgA (a, b)) : cIf true a b t = a := rfl
theorem cIf_f {α : Type} (a b : Mo α) (t : TgA (a, b)) : cIf false a b t = b := rfl
theorem noX_ok' {α : Type} (a : α) (μ : Mu) : noX (mOk a μ) = mOk a μ := rfl
/-! ### the forms' meanings, one step -/
section
variable {S : Ev} {Δ : Dl} {μ : Mu}
def kI (x : D) (f : Int → Mo α) : Mo α := match x with
  | .int i => f i
  | _ => none
def kB (x : D) (f : Bool → Mo α) : Mo α := match x with
  | .bl i => f i
  | _ => none
theorem kI_int {α : Type} (i : Int) (f : Int → Mo α) : kI (.int i) f = f i := rfl
theorem kB_bl {α : Type} (i : Bool) (f : Bool → Mo α) : kB (.bl i) f = f i := rfl
def varD (o : Option (Option D)) (μ : Mu) : Mo D := match o with
  | some (some d) => mOk d μ
  | _ => none
theorem varD_some (d : D) (μ : Mu) : varD (some (some d)) μ = mOk d μ := rfl
theorem e_var {i : Nat} : evE S (.var i) Δ μ = varD (Δ[i]?) μ := by unfold evE varD; rfl
theorem e_cst {d : D} : evE S (.cst d) Δ μ = mOk d μ := by unfold evE; rfl
theorem e_bin {o m a b} : evE S (.bin o m a b) Δ μ = bdn (evE S a Δ μ) (fun x μ1 => bdn (evE S b Δ μ1) (fun y μ2 => dBin o m x y μ2) ()) () := by rw [evE]; rfl
theorem e_neg {a} : evE S (.neg a) Δ μ = bdn (evE S a Δ μ) (fun x μ1 => kI x fun i => mOk (.int (-i)) μ1) () := by rw [evE]; rfl
theorem e_cmp {o a b} : evE S (.cmp o a b) Δ μ = bdn (evE S a Δ μ) (fun x μ1 => bdn (evE S b Δ μ1) (fun y μ2 => mOpt ((dCmp o x y μ2).map .bl) μ2) ()) () := by rw [evE]; rfl
theorem e_chain {o p a b c} : evE S (.chain o p a b c) Δ μ = bdn (evE S a Δ μ) (fun x μ1 => bdn (evE S b Δ μ1) (fun y μ2 => bdn (mOpt (dCmp o x y μ2) μ2) (fun k μ3 => cIf k (bdn (evE S c Δ μ3) (fun z μ4 => mOpt ((dCmp p y z μ4).map .bl) μ4) ()) (mOk (.bl false) μ3) ()) ()) ()) () := by rw [evE]; rfl
theorem e_not {a} : evE S (.not_ a) Δ μ = bdn (evE S a Δ μ) (fun x μ1 => kB x fun k => mOk (.bl (!k)) μ1) () := by rw [evE]; rfl
theorem e_and {a b} : evE S (.and_ a b) Δ μ = bdn (evE S a Δ μ) (fun x μ1 => kB x fun k => cIf k (evE S b Δ μ1) (mOk (.bl false) μ1) ()) () := by rw [evE]; rfl
theorem e_or {a b} : evE S (.or_ a b) Δ μ = bdn (evE S a Δ μ) (fun x μ1 => kB x fun k => cIf k (mOk (.bl true) μ1) (evE S b Δ μ1) ()) () := by rw [evE]; rfl
theorem e_ite {c a b} : evE S (.ite c a b) Δ μ = bdn (evC S c Δ μ) (fun k μ1 => cIf k (evE S a Δ μ1) (evE S b Δ μ1) ()) () := by rw [evE]; rfl
theorem e_tup {es} : evE S (.tup es) Δ μ = bdn (evA S es Δ μ) (fun ds μ1 => cIf (decide (ds.length ≤ big)) (mOk (.tup ds) μ1) none ()) () := by rw [evE]; show mBind _ _ = _; congr 1; funext ds μ1; unfold cIf; simp only [decide_eq_true_eq]
theorem e_lst {m es} : evE S (.lst m es) Δ μ = bdn (evA S es Δ μ) (fun ds μ1 => dNew m ds μ1) () := by rw [evE]; rfl
theorem e_ix {a b} : evE S (.ix a b) Δ μ = bdn (evE S a Δ μ) (fun x μ1 => bdn (evE S b Δ μ1) (fun y μ2 => mOpt (dIx x y μ2) μ2) ()) () := by rw [evE]; rfl
theorem e_sl {m a lo hi} : evE S (.sl m a lo hi) Δ μ = bdn (evE S a Δ μ) (fun x μ1 => bdn (evO S lo Δ μ1) (fun l μ2 => bdn (evO S hi Δ μ2) (fun h μ3 => dSl m x l h μ3) ()) ()) () := by rw [evE]; rfl
theorem e_rev {m a} : evE S (.rev m a) Δ μ = bdn (evE S a Δ μ) (fun x μ1 => dRev m x μ1) () := by rw [evE]; rfl
theorem e_att {a f} : evE S (.att a f) Δ μ = bdn (evE S a Δ μ) (fun x μ1 => dAtt S f x μ1) () := by rw [evE]; rfl
theorem e_call {f es} : evE S (.call f es) Δ μ = bdn (evA S es Δ μ) (fun ds μ1 => S.call "" f ds μ1) () := by rw [evE]; rfl
theorem e_mk {c fr es} : evE S (.mk c fr es) Δ μ = bdn (evA S es Δ μ) (fun ds μ1 => dMk S c fr ds μ1) () := by rw [evE]; rfl
theorem e_meth {f a es} : evE S (.meth f a es) Δ μ = bdn (evE S a Δ μ) (fun x μ1 => dMeth S f x μ1 fun c => bdn (evA S es Δ μ1) (fun ds μ2 => S.call c f (x :: ds) μ2) ()) () := by rw [evE]; rfl
theorem e_bi {b es} : evE S (.bi b es) Δ μ = bdn (evA S es Δ μ) (fun ds μ1 => dBi S b ds μ1) () := by rw [evE]; rfl
def kL (o : Option (List D)) (f : Mo α) : Mo α := match o with
  | some _ => f
  | none => none
theorem kL_some {α : Type} (xs : List D) (f : Mo α) : kL (some xs) f = f := rfl
theorem e_mt {b a es} : evE S (.mt b a es) Δ μ = bdn (evE S a Δ μ) (fun x μ1 => kL (rdL x μ1) (bdn (evA S es Δ μ1) (fun ds μ2 => dMt b x ds μ2) ())) () := by rw [evE]; rfl
theorem e_isi {a ts} : evE S (.isi a ts) Δ μ = bdn (evE S a Δ μ) (fun x μ1 => mOpt ((dIsi S x ts μ1).map .bl) μ1) () := by rw [evE]; rfl
theorem e_lc {m t i c e own} : evE S (.lc m t i c e own) Δ μ = bdn (evI S i Δ μ) (fun p μ1 => bdn (compD t (evC S c) (evE S e) (wipeD Δ own) p.2 p.1 [] μ1) (fun ds μ2 => if m then mOk (.adr μ2.length) (μ2 ++ [.lst ds]) else mOk (.lst ds) μ2) ()) () := by rw [evE]; rfl
theorem e_gn {k t i c e own} : evE S (.gn k t i c e own) Δ μ = bdn (evI S i Δ μ) (fun p μ1 => gnD k t (evC S c) (evE S e) (wipeD Δ own) p.2 p.1 μ1) () := by rw [evE]; rfl
theorem c_yes : evC S .yes Δ μ = mOk true μ := by rw [evC]
theorem c_tru {e} : evC S (.tru e) Δ μ = bdn (evE S e Δ μ) (fun x μ1 => mOpt (truD x μ1) μ1) () := by rw [evC]; rfl
theorem c_not {a} : evC S (.not a) Δ μ = bdn (evC S a Δ μ) (fun k μ1 => mOk (!k) μ1) () := by rw [evC]; rfl
theorem c_and {a b} : evC S (.and a b) Δ μ = bdn (evC S a Δ μ) (fun k μ1 => cIf k (evC S b Δ μ1) (mOk false μ1) ()) () := by rw [evC]; rfl
theorem c_or {a b} : evC S (.or a b) Δ μ = bdn (evC S a Δ μ) (fun k μ1 => cIf k (mOk true μ1) (evC S b Δ μ1) ()) () := by rw [evC]; rfl
theorem a_nil : evA S .nil Δ μ = mOk [] μ := by rw [evA]
theorem a_cons {e r} : evA S (.cons e r) Δ μ = bdn (evE S e Δ μ) (fun x μ1 => bdn (evA S r Δ μ1) (fun xs μ2 => mOk (x :: xs) μ2) ()) () := by rw [evA]; rfl
def seqI (x : D) (o : Option (List D)) (μ : Mu) : Mo ItD := match o with
  | some ds => mOk (ds, lockL x ds) μ
  | none => none
def enmI (x : D) (o : Option (List D)) (μ : Mu) : Mo ItD := match o with
  | some ds => mOk (enumD 0 ds, lockL x ds) μ
  | none => none
theorem i_seq {e} : evI S (.seq e) Δ μ = bdn (evE S e Δ μ) (fun x μ1 => seqI x (rdS x μ1) μ1) () := by rw [evI]; rfl
theorem i_rng {es} : evI S (.rng es) Δ μ = bdn (evA S es Δ μ) (fun ds μ1 => mOpt ((dRng ds).map fun l => (l, [])) μ1) () := by rw [evI]; rfl
theorem i_enm {e} : evI S (.enm e) Δ μ = bdn (evE S e Δ μ) (fun x μ1 => enmI x (rdS x μ1) μ1) () := by rw [evI]; rfl
theorem seqI_some (x : D) (ds : List D) (μ : Mu) : seqI x (some ds) μ = mOk (ds, lockL x ds) μ := rfl
theorem enmI_some (x : D) (ds : List D) (μ : Mu) : enmI x (some ds) μ = mOk (enumD 0 ds, lockL x ds) μ := rfl
theorem o_no : evO S .no Δ μ = mOk none μ := by rw [evO]
theorem o_some {e} : evO S (.some e) Δ μ = bdn (evE S e Δ μ) (fun x μ1 => kI x fun i => mOk (some i) μ1) () := by rw [evO]; rfl
/-- after a statement -/
def kS (r : Fl × Dl) (μ : Mu) (f : Dl → Mu → Mo (Fl × Dl)) : Mo (Fl × Dl) := match r.1 with
  | .nx => f r.2 μ
  | _ => mOk r μ
theorem kS_nx (Δ : Dl) (μ : Mu) (f : Dl → Mu → Mo (Fl × Dl)) : kS (.nx, Δ) μ f = f Δ μ := rfl
theorem kS_rt (d : D) (Δ : Dl) (μ : Mu) (f : Dl → Mu → Mo (Fl × Dl)) : kS (.rt d, Δ) μ f = mOk (.rt d, Δ) μ := rfl
theorem kS_ct (Δ : Dl) (μ : Mu) (f : Dl → Mu → Mo (Fl × Dl)) : kS (.ct, Δ) μ f = mOk (.ct, Δ) μ := rfl
theorem kS_bk (Δ : Dl) (μ : Mu) (f : Dl → Mu → Mo (Fl × Dl)) : kS (.bk, Δ) μ f = mOk (.bk, Δ) μ := rfl
def kM (o : Option Mu) (Δ : Dl) : Mo (Fl × Dl) := match o with
  | some μ => mOk (.nx, Δ) μ
  | none => none
theorem kM_some (Δ : Dl) (μ : Mu) : kM (some μ) Δ = mOk (.nx, Δ) μ := rfl
theorem s_skip : evS S .skip Δ μ = mOk (.nx, Δ) μ := by rw [evS]
theorem s_seq {a b} : evS S (.seq a b) Δ μ = bdn (evS S a Δ μ) (fun r μ1 => kS r μ1 (evS S b)) () := by rw [evS]; rfl
theorem s_ex {e} : evS S (.ex e) Δ μ = bdn (evE S e Δ μ) (fun _ μ1 => mOk (.nx, Δ) μ1) () := by rw [evS]; rfl
theorem s_asg {t e} : evS S (.asg t e) Δ μ = bdn (evE S e Δ μ) (fun x μ1 => mOpt ((tgD t x Δ).map fun Δ' => (.nx, Δ')) μ1) () := by rw [evS]; rfl
theorem s_par {is es} : evS S (.par is es) Δ μ = bdn (evA S es Δ μ) (fun xs μ1 => mOpt ((setMany is xs Δ).map fun Δ' => (.nx, Δ')) μ1) () := by rw [evS]; rfl
theorem s_setx {o i v} : evS S (.setx o i v) Δ μ = bdn (evE S v Δ μ) (fun y μ1 => bdn (evE S o Δ μ1) (fun x μ2 => bdn (evE S i Δ μ2) (fun k μ3 => kM (dSetX x k y μ3) Δ) ()) ()) () := by rw [evS]; rfl
theorem s_setf {o f v} : evS S (.setf o f v) Δ μ = bdn (evE S v Δ μ) (fun y μ1 => bdn (evE S o Δ μ1) (fun x μ2 => kM (dSetF S x f y μ2) Δ) ()) () := by rw [evS]; rfl
theorem s_ite {c a b} : evS S (.ite c a b) Δ μ = bdn (evC S c Δ μ) (fun k μ1 => cIf k (evS S a Δ μ1) (evS S b Δ μ1) ()) () := by rw [evS]; rfl
theorem s_whil {c b} : evS S (.whil c b) Δ μ = whileD (evC S c) (evS S b) S.W Δ μ := by rw [evS]
theorem s_for {t i b} : evS S (.for_ t i b) Δ μ = bdn (evI S i Δ μ) (fun p μ1 => forD t (evS S b) p.2 p.1 Δ μ1) () := by rw [evS]; rfl
theorem s_ret {e} : evS S (.ret e) Δ μ = bdn (evE S e Δ μ) (fun x μ1 => mOk (.rt x, Δ) μ1) () := by rw [evS]; rfl
theorem s_brk : evS S .brk Δ μ = mOk (.bk, Δ) μ := by rw [evS]
theorem s_cnt : evS S .cnt Δ μ = mOk (.ct, Δ) μ := by rw [evS]
theorem s_aug {i o e} {x : Int} (h : Δ[i]? = some (some (.int x))) : evS S (.aug i o e) Δ μ = bdn (evE S e Δ μ) (fun y μ1 => kI y fun y => bdn (mOpt (iBin o x y) μ1) (fun z μ1 => mOk (.nx, Δ.set i (some (.int z))) μ1) ()) () := by
  rw [evS]
  simp only [h]
  congr 1
  funext y μ1
  cases y <;> first | rfl | (simp only [kI]; cases iBin o x _ <;> rfl)
/-- a raise -/
def rsD (S : Ev) (c : Str) (ds : List D) (μ : Mu) : Mo (Fl × Dl) := match S.exc c with
    | some ns => if ns.length = ds.length ∧ ds.all fmtD = true then some (.exc ⟨c, ns.zip ds⟩, μ) else none
    | none => none
theorem s_raise {c es} : evS S (.raise c es) Δ μ = bdn (evA S es Δ μ) (fun ds μ1 => rsD S c ds μ1) () := by rw [evS]; rfl
theorem retD_ok (d : D) (Δ : Dl) (μ : Mu) : retD (mOk (.rt d, Δ) μ) = mOk d μ := rfl
theorem retD_nx (Δ : Dl) (μ : Mu) : retD (mOk (.nx, Δ) μ) = mOk .non μ := rfl
theorem retD_exc (e : Exn) (μ : Mu) : retD (some (.exc e, μ)) = some (.exc e, μ) := rfl
theorem e_heard {e} : evE S (.heard e) Δ μ = match evE S e Δ μ with
    | some (.ok _, μ1) => mOk (.tup []) μ1
    | some (.exc x, μ1) => mOpt (heardD x) μ1
    | none => none := by rw [evE] <;> rfl
end
/-! ### operations -/
section
variable {S : Ev} {μ : Mu}
theorem b_add {m i j} : dBin .add m (.int i) (.int j) μ = mOk (.int (i + j)) μ := rfl
theorem b_sub {m i j} : dBin .sub m (.int i) (.int j) μ = mOk (.int (i - j)) μ := rfl
theorem b_mul {m i j} (h : okMul i j = true) : dBin .mul m (.int i) (.int j) μ = mOk (.int (i * j)) μ := by
  unfold dBin iBin; simp only [h, if_true]; rfl
theorem b_div {m i j} (h : okDiv j = true) : dBin .fdiv m (.int i) (.int j) μ = mOk (.int (i / j)) μ := by
  unfold dBin iBin; simp only [h, if_true]; rfl
theorem b_mod {m i j} (h : 0 < j) : dBin .mod m (.int i) (.int j) μ = mOk (.int (i % j)) μ := by
  unfold dBin iBin; simp only [h, if_true]; rfl
theorem b_pow {m i j} (h : okPow i j = true) : dBin .pow m (.int i) (.int j) μ = mOk (.int (i ^ j.toNat)) μ := by
  unfold dBin iBin; simp only [h, if_true]; rfl
theorem b_tup {m xs ys} (h : xs.length + ys.length ≤ big) : dBin .add m (.tup xs) (.tup ys) μ = mOk (.tup (xs ++ ys)) μ := by
  unfold dBin; simp only [h, if_true]
theorem b_lst {m xs ys} : dBin .add m (.lst xs) (.lst ys) μ = dNew m (xs ++ ys) μ := rfl
theorem b_rep {m xs} {k : Int} (h : xs ≠ [] ∧ 2 ≤ k ∧ k ≤ 1000 ∧ xs.length ≤ 1000) : dBin .mul m (.tup xs) (.int k) μ = mOk (.tup (List.replicate k.toNat xs).flatten) μ := by
  unfold dBin; simp only; rw [if_pos h]
theorem b_repL {m xs} {k : Int} (h : -1000000 ≤ k ∧ k ≤ 1000000 ∧ xs.length * k.toNat ≤ big) : dBin .mul m (.lst xs) (.int k) μ = dNew m (List.replicate k.toNat xs).flatten μ := by
  unfold dBin; simp only [rdL, h, if_true]; simp
theorem b_repA {m n xs} {k : Int} (hn : μ[n]? = some (.lst xs)) (h : -1000000 ≤ k ∧ k ≤ 1000000 ∧ xs.length * k.toNat ≤ big) : dBin .mul m (.adr n) (.int k) μ = dNew m (List.replicate k.toNat xs).flatten μ := by
  unfold dBin; simp only [rdL, hn, h, if_true]; simp
theorem okMul_r {i j : Int} (h : j.natAbs < 2 ^ 64) : okMul i j = true := by unfold okMul; simp [h]
theorem okMul_l {i j : Int} (h : i.natAbs < 2 ^ 64) : okMul i j = true := by unfold okMul; simp [h]
theorem okDiv_s {j : Int} (h : 0 < j) (h2 : j < 2 ^ 64) : okDiv j = true := by
  unfold okDiv
  have : j.natAbs < 2 ^ 64 := by omega
  simp [h, this]
theorem dNew_f {xs} (h : xs.length ≤ big) : dNew false xs μ = mOk (.lst xs) μ := by unfold dNew; simp [h]
theorem dNew_t {xs} (h : xs.length ≤ big) : dNew true xs μ = mOk (.adr μ.length) (μ ++ [.lst xs]) := by unfold dNew; simp [h]
theorem dNew_F {xs} : dNew false xs μ = cIf (decide (xs.length ≤ big)) (mOk (.lst xs) μ) none () := by unfold dNew cIf; simp
theorem dNew_T {xs} : dNew true xs μ = cIf (decide (xs.length ≤ big)) (mOk (.adr μ.length) (μ ++ [.lst xs])) none () := by unfold dNew cIf; simp
theorem q_lt {i j} : dCmp .lt (.int i) (.int j) μ = some (decide (i < j)) := rfl
theorem q_le {i j} : dCmp .le (.int i) (.int j) μ = some (decide (i ≤ j)) := rfl
theorem q_gt {i j} : dCmp .gt (.int i) (.int j) μ = some (decide (j < i)) := rfl
theorem q_ge {i j} : dCmp .ge (.int i) (.int j) μ = some (decide (j ≤ i)) := rfl
theorem beqI (i j : Int) : (i == j) = decide (i = j) := rfl
theorem q_eqI {i j} : dCmp .eq (.int i) (.int j) μ = some (decide (i = j)) := rfl
theorem q_neI {i j} : dCmp .ne (.int i) (.int j) μ = some (!decide (i = j)) := rfl
theorem q_eqB {i j} : dCmp .eq (.bl i) (.bl j) μ = some (i == j) := rfl
theorem q_neB {i j} : dCmp .ne (.bl i) (.bl j) μ = some (!(i == j)) := rfl
theorem q_isN : dCmp .is_ .non .non μ = some true := rfl
theorem q_isI {i} : dCmp .is_ (.int i) .non μ = some false := rfl
theorem q_isT {i} : dCmp .is_ (.tup i) .non μ = some false := rfl
theorem q_isL {i} : dCmp .is_ (.lst i) .non μ = some false := rfl
theorem q_isS {i} : dCmp .is_ (.str i) .non μ = some false := rfl
theorem q_isBl {i} : dCmp .is_ (.bl i) .non μ = some false := rfl
theorem q_isO {c i} : dCmp .is_ (.obj c i) .non μ = some false := rfl
theorem q_isnN : dCmp .isnt .non .non μ = some false := rfl
theorem q_isnI {i} : dCmp .isnt (.int i) .non μ = some true := rfl
theorem q_isnT {i} : dCmp .isnt (.tup i) .non μ = some true := rfl
theorem q_isnL {i} : dCmp .isnt (.lst i) .non μ = some true := rfl
theorem q_isB {a b} : dCmp .is_ (.bl a) (.bl b) μ = some (decide (a = b)) := rfl
theorem q_isnB {a b} : dCmp .isnt (.bl a) (.bl b) μ = some (!decide (a = b)) := rfl
theorem inV_int (x : Int) (xs : List Int) : inV (.int x) ((xs.map D.int).map flV) = decide (x ∈ xs) := by
  unfold inV
  induction xs with
  | nil => simp
  | cons a r ih =>
    simp only [List.map_cons, List.any_cons, ih, flV]
    have : eqV (.int a) (.int x) = decide (a = x) := by unfold eqV; simp [V.int.injEq]; rfl
    rw [this]
    by_cases h : a = x
    · simp [h]
    · have h' : x ≠ a := fun z => h z.symm
      simp [h, h']
theorem flat_ints (xs : List Int) : (xs.map D.int).all flatD = true := by simp [flatD]
theorem q_inT {x : Int} {xs : List Int} : dCmp .in_ (.int x) (.tup (xs.map .int)) μ = some (decide (x ∈ xs)) := by
  unfold dCmp; simp only [rdS, flatD, flat_ints, Bool.and_self, if_true, inV_int, flV]
theorem q_ninT {x : Int} {xs : List Int} : dCmp .nin (.int x) (.tup (xs.map .int)) μ = some (!decide (x ∈ xs)) := by
  unfold dCmp; simp only [rdS, flatD, flat_ints, Bool.and_self, if_true, inV_int, flV]
theorem q_inL {x : Int} {xs : List Int} : dCmp .in_ (.int x) (.lst (xs.map .int)) μ = some (decide (x ∈ xs)) := by
  unfold dCmp; simp only [rdS, rdL, flatD, flat_ints, Bool.and_self, if_true, inV_int, flV]
theorem q_ninL {x : Int} {xs : List Int} : dCmp .nin (.int x) (.lst (xs.map .int)) μ = some (!decide (x ∈ xs)) := by
  unfold dCmp; simp only [rdS, rdL, flatD, flat_ints, Bool.and_self, if_true, inV_int, flV]
theorem q_inT2 {x a b : Int} : dCmp .in_ (.int x) (.tup [.int a, .int b]) μ = some (decide (x = a ∨ x = b)) := by
  have := q_inT (μ := μ) (x := x) (xs := [a, b])
  simpa using this
theorem q_ninT2 {x a b : Int} : dCmp .nin (.int x) (.tup [.int a, .int b]) μ = some (!decide (x = a ∨ x = b)) := by
  have := q_ninT (μ := μ) (x := x) (xs := [a, b])
  simpa using this
/-! truth -/
theorem t_bl {b} : truD (.bl b) μ = some b := rfl
theorem t_non : truD .non μ = some false := rfl
theorem t_tup {xs} : truD (.tup xs) μ = some (!xs.isEmpty) := rfl
theorem t_lst {xs} : truD (.lst xs) μ = some (!xs.isEmpty) := rfl
theorem t_int {i} : truD (.int i) μ = some (decide (i ≠ 0)) := rfl
def lstC (o : Option Cell) : Option (List D) := match o with
  | some (.lst xs) => some xs
  | _ => none
theorem lstC_lst {xs} : lstC (some (.lst xs)) = some xs := rfl
theorem rl_adr {n} : rdL (.adr n) μ = lstC μ[n]? := by
  show (match μ[n]? with
    | some (.lst xs) => some xs
    | _ => none) = lstC μ[n]?
  cases μ[n]? with
  | none => rfl
  | some c => cases c <;> rfl
theorem r_adr {n} : rdS (.adr n) μ = lstC μ[n]? := rl_adr
theorem t_adr {n} : truD (.adr n) μ = (lstC μ[n]?).map fun xs => !xs.isEmpty := by rw [← rl_adr]; rfl
/-! items -/
theorem at0 {α : Type} {a : α} {r} : atI (a :: r) 0 = some a := by unfold atI ixN; simp
theorem at1 {α : Type} {a b : α} {r} : atI (a :: b :: r) 1 = some b := by
  unfold atI ixN
  have : (1 : Int) < ((a :: b :: r).length : Int) := by simp only [List.length_cons]; omega
  simp only [this]; rfl
theorem at2 {α : Type} {a b c : α} {r} : atI (a :: b :: c :: r) 2 = some c := by
  unfold atI ixN
  have : (2 : Int) < ((a :: b :: c :: r).length : Int) := by simp only [List.length_cons]; omega
  simp only [this]; rfl
theorem at3 {α : Type} {a b c d : α} {r} : atI (a :: b :: c :: d :: r) 3 = some d := by
  unfold atI ixN
  have : (3 : Int) < ((a :: b :: c :: d :: r).length : Int) := by simp only [List.length_cons]; omega
  simp only [this]; rfl
theorem atN {α : Type} {xs : List α} {i : Int} (h : 0 ≤ i) : atI xs i = xs[i.toNat]? := by
  unfold atI ixN
  rw [if_pos h]
  by_cases h2 : i < xs.length
  · rw [if_pos h2]; rfl
  · rw [if_neg h2, List.getElem?_eq_none (by omega)]; rfl
theorem atN' {α : Type} {xs : List α} {i : Nat} : atI xs (i : Int) = xs[i]? := by rw [atN (by omega), Int.toNat_natCast]
theorem x_tup {xs i} : dIx (.tup xs) (.int i) μ = atI xs i := rfl
theorem x_lst {xs i} : dIx (.lst xs) (.int i) μ = atI xs i := rfl
theorem x_scr {ns i} : dIx (.scr ns) (.int i) μ = (atI ns i).map .int := rfl
def ixC (o : Option Cell) (i : Int) : Option D := match o with
  | some (.lst xs) => atI xs i
  | _ => none
theorem ixC_lst {xs i} : ixC (some (.lst xs)) i = atI xs i := rfl
theorem x_adr {n i} : dIx (.adr n) (.int i) μ = ixC μ[n]? i := by
  unfold dIx ixC; simp only [rdS, rdL]
  cases μ[n]? with
  | none => rfl
  | some c => cases c <;> rfl
def stC (o : Option Cell) (i : Int) (v : D) : Option Cell := match o with
  | some (.lst xs) => match ixN xs.length i with
    | some j => some (.lst (xs.set j v))
    | none => none
  | _ => none
theorem stC_nat {xs : List D} {i : Int} {v : D} (h : 0 ≤ i) (h2 : i < xs.length) : stC (some (.lst xs)) i v = some (.lst (xs.set i.toNat v)) := by
  unfold stC
  have : ixN xs.length i = some i.toNat := by unfold ixN; rw [if_pos h, if_pos h2]
  simp only [this]
def puC (μ : Mu) (n : Nat) (o : Option Cell) : Option Mu := match o with
  | some c => some (μ.set n c)
  | none => none
theorem puC_some {μ : Mu} {n c} : puC μ n (some c) = some (μ.set n c) := rfl
theorem x_set {n i v} : dSetX (.adr n) (.int i) v μ = puC μ n (stC μ[n]? i v) := by
  unfold dSetX stC puC
  simp only
  cases μ[n]? with
  | none => rfl
  | some c =>
    cases c with
    | lst xs =>
      simp only
      cases ixN xs.length i <;> rfl
    | _ => rfl
theorem gA0 {α : Type} {μ ν : List α} : (μ ++ ν)[μ.length]? = ν[0]? := by rw [List.getElem?_append_right (Nat.le_refl _), Nat.sub_self]
theorem gA {α : Type} {μ ν : List α} {j : Nat} : (μ ++ ν)[μ.length + j]? = ν[j]? := by rw [List.getElem?_append_right (by omega)]; congr 1; omega
theorem sA0 {α : Type} {μ ν : List α} {c : α} : (μ ++ ν).set μ.length c = μ ++ ν.set 0 c := by rw [List.set_append_right _ _ (Nat.le_refl _), Nat.sub_self]
theorem sA {α : Type} {μ ν : List α} {j : Nat} {c : α} : (μ ++ ν).set (μ.length + j) c = μ ++ ν.set j c := by rw [List.set_append_right _ _ (by omega)]; congr 2; omega
theorem dx_adr0 {n : Nat} {xs : List D} {i : Int} {v : D} {j : Nat} (h : μ[n]? = some (.lst xs)) (hi : ixN xs.length i = some j) : dSetX (.adr n) (.int i) v μ = some (μ.set n (.lst (xs.set j v))) := by unfold dSetX; simp only [h, hi]
theorem ixN_n {n : Nat} {i : Int} (h : 0 ≤ i) (h2 : i < n) : ixN n i = some i.toNat := by unfold ixN; rw [if_pos h, if_pos h2]
/-! functions of values -/
theorem i_int {i} : dBi S .int [.int i] μ = mOk (.int i) μ := rfl
theorem i_tup {d xs} (h : rdS d μ = some xs) : dBi S .tuple [d] μ = mOk (.tup xs) μ := by unfold dBi; simp only [h]
theorem i_list {d xs} (h : rdS d μ = some xs) (hb : xs.length ≤ big) : dBi S (.list false) [d] μ = mOk (.lst xs) μ := by unfold dBi; simp only [h]; exact dNew_f hb
theorem i_lenT {xs} : dBi S .len [.tup xs] μ = mOk (.int xs.length) μ := rfl
theorem i_lenL {xs} : dBi S .len [.lst xs] μ = mOk (.int xs.length) μ := rfl
theorem i_lenS {xs} : dBi S .len [.scr xs] μ = mOk (.int xs.length) μ := rfl
def lenA (S : Ev) (μ : Mu) (n : Nat) (o : Option Cell) : Mo D := match o with
  | some (.lst xs) => mOk (.int xs.length) μ
  | _ => dBi S .len [.adr n] μ
theorem lenA_lst {n xs} : lenA S μ n (some (.lst xs)) = mOk (.int xs.length) μ := rfl
theorem i_lenA {n} : dBi S .len [.adr n] μ = lenA S μ n μ[n]? := by
  unfold lenA
  split
  · rename_i xs h
    unfold dBi; simp only [rdI, h, lenD, rdS, rdL]; rfl
  · rfl
theorem r_tup {xs} : rdS (.tup xs) μ = some xs := rfl
theorem r_lst {xs} : rdS (.lst xs) μ = some xs := rfl
theorem rl_lst {xs} : rdL (.lst xs) μ = some xs := rfl
def appC (μ : Mu) (n : Nat) (y : D) (o : Option Cell) : Mo D := match o with
  | some (.lst xs) => cIf (decide (xs.length < big)) (mOk .non (μ.set n (.lst (xs ++ [y])))) none ()
  | _ => none
theorem appC_lst {n y xs} : appC μ n y (some (.lst xs)) = cIf (decide (xs.length < big)) (mOk .non (μ.set n (.lst (xs ++ [y])))) none () := rfl
theorem m_app {n y} : dMt .append (.adr n) [y] μ = appC μ n y μ[n]? := by
  unfold dMt appC; simp only
  cases μ[n]? with
  | none => rfl
  | some c =>
    cases c with
    | lst xs =>
      simp only [cIf, decide_eq_true_eq]; rfl
    | _ => rfl
/-! slices -/
theorem slT_ {m xs lo hi} : dSl m (.tup xs) lo hi μ = mOk (.tup (cutD xs lo hi)) μ := rfl
theorem rv_tup {m xs} : dRev m (.tup xs) μ = mOk (.tup xs.reverse) μ := rfl
theorem rv_lst {m xs} : dRev m (.lst xs) μ = dNew m xs.reverse μ := rfl
theorem cut_2 {a b : D} {r} : cutD (a :: b :: r) none (some 2) = [a, b] := by
  unfold cutD
  have h1 : HT.sIx (a :: b :: r).length 0 none = 0 := rfl
  have h2 : HT.sIx (a :: b :: r).length (a :: b :: r).length (some 2) = 2 := by
    rw [show (2 : Int) = ((2 : Nat) : Int) from rfl, HT.sIx_nat]; simp only [List.length_cons]; omega
  rw [h1, h2]; rfl
theorem cut_to {xs : List D} {k : Nat} (h : k ≤ xs.length) : cutD xs none (some (k : Int)) = xs.take k := by
  unfold cutD
  rw [HT.sIx_nat, Nat.min_eq_left h]; rfl
theorem cut_from {xs : List D} {k : Nat} (h : k ≤ xs.length) : cutD xs (some (k : Int)) none = xs.drop k := by
  unfold cutD
  rw [HT.sIx_nat, Nat.min_eq_left h]
  have : HT.sIx xs.length xs.length none = xs.length := rfl
  rw [this, List.take_of_length_le]
  simp
end
/-! ### the end of a def -/
theorem beq_selfC (c : Cell) : Cell.beq c c = true := by
  cases c with
  | lst ds => simp only [Cell.beq]; exact D.beqL_self ds
  | ins c fs => simp only [Cell.beq, decide_true, Bool.true_and]; exact D.beqF_self fs
  | froz => rfl
theorem trimOk_app {n : Nat} {ν : Mu} : ∀ {μ : Mu}, trimOk n μ (μ ++ ν) = true
  | [] => rfl
  | c :: μ => by
    rw [List.cons_append, trimOk, beq_selfC, Bool.true_or, Bool.true_and]
    exact trimOk_app
theorem trimOk_self {n : Nat} {μ : Mu} : trimOk n μ μ = true := by
  have := trimOk_app (n := n) (ν := []) (μ := μ)
  rwa [List.append_nil] at this
theorem trimOk_cons {n : Nat} {c c' : Cell} {μ μ' : Mu} (h : belowC n c' = true) (h2 : trimOk n μ μ' = true) : trimOk n (c :: μ) (c' :: μ') = true := by
  rw [trimOk, h, h2, Bool.or_true]; rfl
theorem fzR_ok {d d' : D} {μ μ' : Mu} (h : trimOk μ.length μ μ' = true) (e : fzD μ.length μ' 16 d = some d') : fzR μ (mOk d μ') = mOk d' (μ'.take μ.length) := by
  unfold fzR mOk
  simp only [h, if_true, e]
  rfl
/-- data without cells, no deeper than k -/
def Fz (k : Nat) (d : D) : Prop := ∀ n μ, fzD n μ k d = some d
theorem fz_int {k i} : Fz (k + 1) (.int i) := fun _ _ => rfl
theorem fz_bl {k i} : Fz (k + 1) (.bl i) := fun _ _ => rfl
theorem fz_non {k} : Fz (k + 1) .non := fun _ _ => rfl
theorem fz_str {k i} : Fz (k + 1) (.str i) := fun _ _ => rfl
theorem fz_scr {k i} : Fz (k + 1) (.scr i) := fun _ _ => rfl
theorem optMap_id {f : D → Option D} : ∀ {xs : List D}, (∀ x ∈ xs, f x = some x) → optMap f xs = some xs
  | [], _ => rfl
  | x :: xs, h => by
    unfold optMap
    rw [h x List.mem_cons_self, optMap_id fun y hy => h y (List.mem_cons_of_mem _ hy)]
theorem fz_tup {k xs} (h : ∀ x ∈ xs, Fz k x) : Fz (k + 1) (.tup xs) := fun n μ => by
  unfold fzD
  simp only [optMap_id fun x hx => h x hx n μ]; rfl
theorem fz_lst {k xs} (h : ∀ x ∈ xs, Fz k x) : Fz (k + 1) (.lst xs) := fun n μ => by
  unfold fzD
  simp only [optMap_id fun x hx => h x hx n μ]; rfl
theorem fzR_same {d : D} {μ : Mu} (h : Fz 16 d) : fzR μ (mOk d μ) = mOk d μ := by
  rw [fzR_ok trimOk_self (h _ _), List.take_length]
theorem fzR_app {d : D} {μ ν : Mu} (h : Fz 16 d) : fzR μ (mOk d (μ ++ ν)) = mOk d μ := by
  rw [fzR_ok trimOk_app (h _ _), List.take_left]
theorem run_eq {d : FnD} {S : Ev} {ds : List D} {μ : Mu} (h : ds.length = d.ps.length) (hp : d.pure = true) : d.run S ds μ = fzR μ (retD (evS S d.ir (startD d.N ds) μ)) := by
  unfold FnD.run
  rw [if_pos h, hp, if_pos rfl]
theorem run_eq' {d : FnD} {S : Ev} {ds : List D} {μ : Mu} (h : ds.length = d.ps.length) (hp : d.pure = false) : d.run S ds μ = retD (evS S d.ir (startD d.N ds) μ) := by
  unfold FnD.run
  rw [if_pos h, hp, if_neg (by decide)]
theorem call_eq {P : Pg} {W : Nat} {fs : List FnD} {k : Nat} {c f : Str} {d : FnD} {ds : List D} {μ : Mu} (h : findFn fs c f = some d) : evCall P W fs (k + 1) c f ds μ = d.run (evK P W fs k) ds μ := by
  show (match findFn fs c f with
    | some d => d.run ⟨P, evCall P W fs k, W⟩ ds μ
    | none => none) = _
  rw [h]; rfl
theorem evK_call {P : Pg} {n : Nat} {fs : List FnD} {k : Nat} : (evK P n fs k).call = evCall P n fs k := rfl
theorem evK_W {P : Pg} {n : Nat} {fs : List FnD} {k : Nat} : (evK P n fs k).W = n := rfl
theorem evK_P {P : Pg} {n : Nat} {fs : List FnD} {k : Nat} : (evK P n fs k).P = P := rfl
theorem seq_ok {S : Ev} {a b : IS} {Δ Δ1 : Dl} {μ μ1 : Mu} {r : Mo (Fl × Dl)} (h1 : evS S a Δ μ = mOk (.nx, Δ1) μ1) (h2 : evS S b Δ1 μ1 = r) : evS S (.seq a b) Δ μ = r := by
  rw [s_seq, h1]; exact h2
theorem seq_rt {S : Ev} {a b : IS} {Δ Δ1 : Dl} {μ μ1 : Mu} {d : D} (h1 : evS S a Δ μ = mOk (.rt d, Δ1) μ1) : evS S (.seq a b) Δ μ = mOk (.rt d, Δ1) μ1 := by
  rw [s_seq, h1]; rfl
theorem seq_exc {S : Ev} {a b : IS} {Δ : Dl} {μ μ1 : Mu} {x : Exn} (h1 : evS S a Δ μ = some (.exc x, μ1)) : evS S (.seq a b) Δ μ = some (.exc x, μ1) := by
  rw [s_seq, h1]; rfl
/-! ### loops -/
theorem lock_nil {μ : Mu} : lockOk [] μ = true := rfl
theorem lock_one {n : Nat} {ds : List D} {μ : Mu} (h : μ[n]? = some (.lst ds)) : lockOk [(n, ds)] μ = true := by
  unfold lockOk; simp only [List.all_cons, h, D.beqL_self, List.all_nil, Bool.and_true]
section
variable {t : IT} {b : DS} {ls : List (Nat × List D)}
theorem for_inv (I : List D → Dl → Mu → Prop) (ds : List D) {Δ : Dl} {μ : Mu} (h0 : I [] Δ μ) (lk : ∀ pre Δ μ, I pre Δ μ → lockOk ls μ = true)
    (step : ∀ pre d post Δ μ, ds = pre ++ d :: post → I pre Δ μ → ∃ Δ1 Δ2 μ2, tgD t d Δ = some Δ1 ∧ b Δ1 μ = mOk (.nx, Δ2) μ2 ∧ I (pre ++ [d]) Δ2 μ2) : ∃ Δ' μ', forD t b ls ds Δ μ = mOk (.nx, Δ') μ' ∧ I ds Δ' μ' := by
  have key : ∀ post pre Δ μ, ds = pre ++ post → I pre Δ μ → ∃ Δ' μ', forD t b ls post Δ μ = mOk (.nx, Δ') μ' ∧ I ds Δ' μ' := by
    intro post
    induction post with
    | nil =>
      intro pre Δ μ e h
      rw [List.append_nil] at e
      subst e
      exact ⟨Δ, μ, by unfold forD; rw [if_pos (lk _ _ _ h)], h⟩
    | cons d post ih =>
      intro pre Δ μ e h
      obtain ⟨Δ1, Δ2, μ2, h1, h2, h3⟩ := step pre d post Δ μ e h
      obtain ⟨Δ', μ', h4, h5⟩ := ih (pre ++ [d]) Δ2 μ2 (by rw [e]; simp) h3
      refine ⟨Δ', μ', ?_, h5⟩
      unfold forD
      rw [if_pos (lk _ _ _ h), h1]
      show mBind (b Δ1 μ) _ = _
      rw [h2]
      exact h4
  exact key ds [] Δ μ rfl h0
/-- .. that may end early -/
theorem for_inv' (I : List D → Dl → Mu → Prop) (B : Dl → Mu → Prop) (R : D → Dl → Mu → Prop) (ds : List D) {Δ : Dl} {μ : Mu} (h0 : I [] Δ μ) (lk : ∀ pre Δ μ, I pre Δ μ → lockOk ls μ = true)
    (step : ∀ pre d post Δ μ, ds = pre ++ d :: post → I pre Δ μ → ∃ Δ1 fl Δ2 μ2, tgD t d Δ = some Δ1 ∧ b Δ1 μ = mOk (fl, Δ2) μ2 ∧ (match fl with
      | .nx => I (pre ++ [d]) Δ2 μ2
      | .ct => I (pre ++ [d]) Δ2 μ2
      | .bk => B Δ2 μ2
      | .rt v => R v Δ2 μ2)) : ∃ fl Δ' μ', forD t b ls ds Δ μ = mOk (fl, Δ') μ' ∧ (match fl with
      | .nx => I ds Δ' μ' ∨ B Δ' μ'
      | .rt v => R v Δ' μ'
      | _ => False) := by
  have key : ∀ post pre Δ μ, ds = pre ++ post → I pre Δ μ → ∃ fl Δ' μ', forD t b ls post Δ μ = mOk (fl, Δ') μ' ∧ (match fl with
      | .nx => I ds Δ' μ' ∨ B Δ' μ'
      | .rt v => R v Δ' μ'
      | _ => False) := by
    intro post
    induction post with
    | nil =>
      intro pre Δ μ e h
      rw [List.append_nil] at e
      subst e
      exact ⟨.nx, Δ, μ, by unfold forD; rw [if_pos (lk _ _ _ h)], .inl h⟩
    | cons d post ih =>
      intro pre Δ μ e h
      obtain ⟨Δ1, fl, Δ2, μ2, h1, h2, h3⟩ := step pre d post Δ μ e h
      unfold forD
      rw [if_pos (lk _ _ _ h), h1]
      show ∃ fl Δ' μ', mBind (b Δ1 μ) _ = _ ∧ _
      rw [h2]
      cases fl with
      | nx => exact ih (pre ++ [d]) Δ2 μ2 (by rw [e]; simp) h3
      | ct => exact ih (pre ++ [d]) Δ2 μ2 (by rw [e]; simp) h3
      | bk => exact ⟨.nx, Δ2, μ2, rfl, .inr h3⟩
      | rt v => exact ⟨.rt v, Δ2, μ2, rfl, h3⟩
  exact key ds [] Δ μ rfl h0
/-- while, with a measure below the fuel -/
theorem while_inv {c : DT} (I : Nat → Dl → Mu → Prop) (Q : Dl → Mu → Prop)
    (step : ∀ m Δ μ, I m Δ μ → (∃ μ1, c Δ μ = mOk false μ1 ∧ Q Δ μ1) ∨ (∃ μ1 Δ2 μ2 m', c Δ μ = mOk true μ1 ∧ b Δ μ1 = mOk (.nx, Δ2) μ2 ∧ m' < m ∧ I m' Δ2 μ2)) :
    ∀ (n m : Nat) (Δ : Dl) (μ : Mu), m < n → I m Δ μ → ∃ Δ' μ', whileD c b n Δ μ = mOk (.nx, Δ') μ' ∧ Q Δ' μ'
  | 0, m, Δ, μ, h, _ => absurd h (Nat.not_lt_zero _)
  | n + 1, m, Δ, μ, h, hI => by
    rcases step m Δ μ hI with ⟨μ1, h1, h2⟩ | ⟨μ1, Δ2, μ2, m', h1, h2, h3, h4⟩
    · refine ⟨Δ, μ1, ?_, h2⟩
      unfold whileD
      rw [h1]; rfl
    · obtain ⟨Δ', μ', h5, h6⟩ := while_inv I Q step n m' Δ2 μ2 (by omega) h4
      refine ⟨Δ', μ', ?_, h6⟩
      unfold whileD
      rw [h1]
      show mBind (b Δ μ1) _ = _
      rw [h2]
      exact h5
end
/-! ### comprehensions and generators over what does not change -/
theorem comp_pure {t : IT} {c : DT} {e : DE} {Δ : Dl} {ls : List (Nat × List D)} {μ : Mu} (p : D → Bool) (f : D → D) (lk : lockOk ls μ = true) : ∀ (ds acc : List D),
    (∀ d ∈ ds, ∃ Δ1, tgD t d Δ = some Δ1 ∧ c Δ1 μ = mOk (p d) μ ∧ (p d = true → e Δ1 μ = mOk (f d) μ)) → acc.length + ds.length ≤ big → compD t c e Δ ls ds acc μ = mOk (acc ++ (ds.filter p).map f) μ
  | [], acc, _, _ => by unfold compD; rw [if_pos lk]; simp
  | d :: ds, acc, h, hb => by
    obtain ⟨Δ1, h1, h2, h3⟩ := h d List.mem_cons_self
    have hb' : acc.length + ds.length + 1 ≤ big := by simpa [Nat.add_assoc] using hb
    unfold compD
    rw [if_pos lk, h1]
    show mBind (noX (c Δ1 μ)) _ = _
    rw [h2]
    show (if p d = true then _ else _) = _
    by_cases hp : p d = true
    · rw [if_pos hp, h3 hp]
      show (if acc.length < big then compD t c e Δ ls ds (acc ++ [f d]) μ else none) = _
      rw [if_pos (by omega), comp_pure p f lk ds (acc ++ [f d]) (fun x hx => h x (List.mem_cons_of_mem _ hx)) (by rw [List.length_append]; simp only [List.length_cons, List.length_nil]; omega)]
      rw [List.filter_cons_of_pos hp, List.map_cons, List.append_assoc]; rfl
    · rw [if_neg hp, comp_pure p f lk ds acc (fun x hx => h x (List.mem_cons_of_mem _ hx)) (by omega), List.filter_cons_of_neg hp]
theorem all_pure {t : IT} {c : DT} {e : DE} {Δ : Dl} {ls : List (Nat × List D)} {μ : Mu} (p q : D → Bool) (lk : lockOk ls μ = true) : ∀ (ds : List D),
    (∀ d ∈ ds, ∃ Δ1, tgD t d Δ = some Δ1 ∧ c Δ1 μ = mOk (p d) μ ∧ (p d = true → e Δ1 μ = mOk (.bl (q d)) μ)) → gnD .all t c e Δ ls ds μ = mOk (.bl (ds.all fun d => !p d || q d)) μ
  | [], _ => by unfold gnD genD; simp only; rw [if_pos lk]; rfl
  | d :: ds, h => by
    obtain ⟨Δ1, h1, h2, h3⟩ := h d List.mem_cons_self
    have ih := all_pure p q lk ds (fun x hx => h x (List.mem_cons_of_mem _ hx))
    unfold gnD at ih ⊢
    simp only at ih ⊢
    unfold genD
    rw [if_pos lk, h1]
    show mBind (noX (c Δ1 μ)) _ = _
    rw [h2]
    show (if p d = true then _ else _) = _
    by_cases hp : p d = true
    · rw [if_pos hp, h3 hp]
      simp only [noX_ok', mb_ok]
      cases hq : q d with
      | true =>
        simp only [foldAll]
        rw [ih, List.all_cons, hp, hq]; rfl
      | false =>
        simp only [foldAll]
        rw [List.all_cons, hp, hq]; rfl
    · rw [if_neg hp, ih, List.all_cons]
      have : p d = false := by simpa using hp
      rw [this]; rfl
/-! isinstance -/
section
variable {S : Ev} {μ : Mu}
theorem isi_non_int : dIsi S .non [.bt .int] μ = some false := rfl
theorem isi_non_bool : dIsi S .non [.bt .bool] μ = some false := rfl
theorem isi_non_tuple : dIsi S .non [.bt .tuple] μ = some false := rfl
theorem isi_non_list : dIsi S .non [.bt .list] μ = some false := rfl
theorem isi_non_str : dIsi S .non [.bt .str] μ = some false := rfl
theorem isi_non_dict : dIsi S .non [.bt .dict] μ = some false := rfl
theorem isi_non_tl : dIsi S .non [.bt .tuple, .bt .list] μ = some false := rfl
theorem isi_bl_int {i} : dIsi S (.bl i) [.bt .int] μ = some true := rfl
theorem isi_bl_bool {i} : dIsi S (.bl i) [.bt .bool] μ = some true := rfl
theorem isi_bl_tuple {i} : dIsi S (.bl i) [.bt .tuple] μ = some false := rfl
theorem isi_bl_list {i} : dIsi S (.bl i) [.bt .list] μ = some false := rfl
theorem isi_bl_str {i} : dIsi S (.bl i) [.bt .str] μ = some false := rfl
theorem isi_bl_dict {i} : dIsi S (.bl i) [.bt .dict] μ = some false := rfl
theorem isi_bl_tl {i} : dIsi S (.bl i) [.bt .tuple, .bt .list] μ = some false := rfl
theorem isi_int_int {i} : dIsi S (.int i) [.bt .int] μ = some true := rfl
theorem isi_int_bool {i} : dIsi S (.int i) [.bt .bool] μ = some false := rfl
theorem isi_int_tuple {i} : dIsi S (.int i) [.bt .tuple] μ = some false := rfl
theorem isi_int_list {i} : dIsi S (.int i) [.bt .list] μ = some false := rfl
theorem isi_int_str {i} : dIsi S (.int i) [.bt .str] μ = some false := rfl
theorem isi_int_dict {i} : dIsi S (.int i) [.bt .dict] μ = some false := rfl
theorem isi_int_tl {i} : dIsi S (.int i) [.bt .tuple, .bt .list] μ = some false := rfl
theorem isi_str_int {i} : dIsi S (.str i) [.bt .int] μ = some false := rfl
theorem isi_str_bool {i} : dIsi S (.str i) [.bt .bool] μ = some false := rfl
theorem isi_str_tuple {i} : dIsi S (.str i) [.bt .tuple] μ = some false := rfl
theorem isi_str_list {i} : dIsi S (.str i) [.bt .list] μ = some false := rfl
theorem isi_str_str {i} : dIsi S (.str i) [.bt .str] μ = some true := rfl
theorem isi_str_dict {i} : dIsi S (.str i) [.bt .dict] μ = some false := rfl
theorem isi_str_tl {i} : dIsi S (.str i) [.bt .tuple, .bt .list] μ = some false := rfl
theorem isi_tup_int {i} : dIsi S (.tup i) [.bt .int] μ = some false := rfl
theorem isi_tup_bool {i} : dIsi S (.tup i) [.bt .bool] μ = some false := rfl
theorem isi_tup_tuple {i} : dIsi S (.tup i) [.bt .tuple] μ = some true := rfl
theorem isi_tup_list {i} : dIsi S (.tup i) [.bt .list] μ = some false := rfl
theorem isi_tup_str {i} : dIsi S (.tup i) [.bt .str] μ = some false := rfl
theorem isi_tup_dict {i} : dIsi S (.tup i) [.bt .dict] μ = some false := rfl
theorem isi_tup_tl {i} : dIsi S (.tup i) [.bt .tuple, .bt .list] μ = some true := rfl
theorem isi_lst_int {i} : dIsi S (.lst i) [.bt .int] μ = some false := rfl
theorem isi_lst_bool {i} : dIsi S (.lst i) [.bt .bool] μ = some false := rfl
theorem isi_lst_tuple {i} : dIsi S (.lst i) [.bt .tuple] μ = some false := rfl
theorem isi_lst_list {i} : dIsi S (.lst i) [.bt .list] μ = some true := rfl
theorem isi_lst_str {i} : dIsi S (.lst i) [.bt .str] μ = some false := rfl
theorem isi_lst_dict {i} : dIsi S (.lst i) [.bt .dict] μ = some false := rfl
theorem isi_lst_tl {i} : dIsi S (.lst i) [.bt .tuple, .bt .list] μ = some true := rfl
theorem isi_scr_int {i} : dIsi S (.scr i) [.bt .int] μ = some false := rfl
theorem isi_scr_bool {i} : dIsi S (.scr i) [.bt .bool] μ = some false := rfl
theorem isi_scr_tuple {i} : dIsi S (.scr i) [.bt .tuple] μ = some false := rfl
theorem isi_scr_list {i} : dIsi S (.scr i) [.bt .list] μ = some true := rfl
theorem isi_scr_str {i} : dIsi S (.scr i) [.bt .str] μ = some false := rfl
theorem isi_scr_dict {i} : dIsi S (.scr i) [.bt .dict] μ = some false := rfl
theorem isi_scr_tl {i} : dIsi S (.scr i) [.bt .tuple, .bt .list] μ = some true := rfl
def attC (S : Ev) (f : Str) (n : Nat) (μ : Mu) (o : Option Cell) : Mo D := match o with
  | some (.ins c fs) => match S.cls c with
    | some ci => if ci.props.contains f then noX (S.call c f [.adr n] μ) else if ci.flds.contains f then mOpt (fs.lookup f) μ else none
    | none => none
  | _ => none
theorem att_adr {f : Str} {n : Nat} : dAtt S f (.adr n) μ = attC S f n μ μ[n]? := by
  unfold dAtt attC rdI; simp only
  cases μ[n]? with
  | none => rfl
  | some c => cases c <;> rfl
theorem attC_fld {f c : Str} {n : Nat} {fs : List (Str × D)} {ci : CI} {v : D} (h : S.cls c = some ci) (h1 : ci.props.contains f = false) (h2 : ci.flds.contains f = true) (h3 : fs.lookup f = some v) : attC S f n μ (some (.ins c fs)) = mOk v μ := by
  unfold attC; simp only [h, h1, h2, h3, if_true]; rfl
theorem att_obj {f c : Str} {fs : List (Str × D)} {ci : CI} {v : D} (h : S.cls c = some ci) (h1 : ci.props.contains f = false) (h2 : ci.flds.contains f = true) (h3 : fs.lookup f = some v) : dAtt S f (.obj c fs) μ = mOk v μ := by
  unfold dAtt; simp only [rdI, h, h1, h2, h3, if_true]; rfl
theorem att_prop {f c : Str} {fs : List (Str × D)} {ci : CI} (h : S.cls c = some ci) (h1 : ci.props.contains f = true) : dAtt S f (.obj c fs) μ = noX (S.call c f [.obj c fs] μ) := by
  unfold dAtt; simp only [rdI, h, h1, if_true]
def sfC (S : Ev) (f : Str) (v : D) (o : Option Cell) : Option Cell := match o with
  | some (.ins c fs) => match S.cls c with
    | some ci => if ci.flds.contains f ∧ fs.length < 1000 then some (.ins c (putD f v fs)) else none
    | none => none
  | _ => none
theorem sf_adr {f : Str} {n : Nat} {v : D} : dSetF S (.adr n) f v μ = puC μ n (sfC S f v μ[n]?) := by
  unfold dSetF sfC puC; simp only
  cases μ[n]? with
  | none => rfl
  | some c =>
    cases c with
    | ins c fs =>
      simp only
      cases S.cls c with
      | none => rfl
      | some ci =>
        simp only
        split <;> rfl
    | _ => rfl
theorem sfC_fld {f c : Str} {fs : List (Str × D)} {ci : CI} {v : D} (h : S.cls c = some ci) (h2 : ci.flds.contains f = true) (h3 : fs.length < 1000) : sfC S f v (some (.ins c fs)) = some (.ins c (putD f v fs)) := by
  unfold sfC; simp only [h, h2, h3]; simp
def meC (S : Ev) (m : Str) (o : Option Cell) (k : Str → Mo D) : Mo D := match o with
  | some (.ins c fs) => match S.cls c with
    | some ci => if ci.meths.contains m ∧ (fs.lookup m).isNone then k c else none
    | none => none
  | _ => none
theorem me_adr {m : Str} {n : Nat} {k : Str → Mo D} : dMeth S m (.adr n) μ k = meC S m μ[n]? k := by
  unfold dMeth meC rdI; simp only
  cases μ[n]? with
  | none => rfl
  | some c => cases c <;> rfl
theorem meC_ok {m c : Str} {fs : List (Str × D)} {ci : CI} {k : Str → Mo D} (h : S.cls c = some ci) (h1 : ci.meths.contains m = true) (h2 : fs.lookup m = none) : meC S m (some (.ins c fs)) k = k c := by
  unfold meC; simp only [h, h1, h2]; rfl
theorem len_obj {c : Str} {fs : List (Str × D)} {ci : CI} {i : Int} {μ1 : Mu} (h : S.cls c = some ci) (h1 : ci.meths.contains "__len__" = true) (h2 : S.call c "__len__" [.obj c fs] μ = mOk (D.int i) μ1) (h3 : 0 ≤ i) (h4 : i ≤ big) : dBi S .len [.obj c fs] μ = mOk (D.int i) μ1 := by
  unfold dBi; simp only [rdI, h, h1, h2, if_true]
  show (if 0 ≤ i ∧ i ≤ big then mOk (D.int i) μ1 else none) = _
  rw [if_pos ⟨h3, h4⟩]
end
theorem optMap_mono {f g : D → Option D} : ∀ {xs ys : List D}, (∀ x y, f x = some y → g x = some y) → optMap f xs = some ys → optMap g xs = some ys
  | [], _, _, h => h
  | x :: xs, ys, m, h => by
    unfold optMap at h ⊢
    cases h1 : f x with
    | none => rw [h1] at h; cases h
    | some b =>
      cases h2 : optMap f xs with
      | none => rw [h1, h2] at h; cases h
      | some s =>
        rw [h1, h2] at h
        rw [m x b h1, optMap_mono m h2]
        exact h
theorem optMap_monoF {f g : Str × D → Option (Str × D)} : ∀ {xs ys : List (Str × D)}, (∀ x y, f x = some y → g x = some y) → optMap f xs = some ys → optMap g xs = some ys
  | [], _, _, h => h
  | x :: xs, ys, m, h => by
    unfold optMap at h ⊢
    cases h1 : f x with
    | none => rw [h1] at h; cases h
    | some b =>
      cases h2 : optMap f xs with
      | none => rw [h1, h2] at h; cases h
      | some s =>
        rw [h1, h2] at h
        rw [m x b h1, optMap_monoF m h2]
        exact h
theorem fz_step {n : Nat} {μ : Mu} : ∀ {k : Nat} {d d' : D}, fzD n μ k d = some d' → fzD n μ (k + 1) d = some d'
  | 0, d, d', h => by unfold fzD at h; cases h
  | k + 1, d, d', h => by
    have mD : ∀ x y, (fun e => fzD n μ k e) x = some y → (fun e => fzD n μ (k + 1) e) x = some y := fun x y h => fz_step h
    have mF : ∀ x y, (fun e : Str × D => (fzD n μ k e.2).map fun v => (e.1, v)) x = some y → (fun e : Str × D => (fzD n μ (k + 1) e.2).map fun v => (e.1, v)) x = some y := fun x y h => by
      obtain ⟨z, h1, h2⟩ := Option.map_eq_some_iff.mp h
      simp only
      rw [fz_step h1]; exact congrArg some h2
    unfold fzD at h ⊢
    cases d with
    | tup ds =>
      simp only at h ⊢
      obtain ⟨z, h1, h2⟩ := Option.map_eq_some_iff.mp h
      rw [optMap_mono mD h1]; exact congrArg some h2
    | lst ds =>
      simp only at h ⊢
      obtain ⟨z, h1, h2⟩ := Option.map_eq_some_iff.mp h
      rw [optMap_mono mD h1]; exact congrArg some h2
    | obj c fs =>
      simp only at h ⊢
      obtain ⟨z, h1, h2⟩ := Option.map_eq_some_iff.mp h
      rw [optMap_monoF mF h1]; exact congrArg some h2
    | adr m =>
      simp only at h ⊢
      split at h
      · rename_i hm
        rw [if_pos hm]; exact h
      · rename_i hm
        rw [if_neg hm]
        cases e : μ[m]? with
        | none => rw [e] at h; cases h
        | some c =>
          rw [e] at h
          cases c with
          | lst ds =>
            simp only at h ⊢
            obtain ⟨z, h1, h2⟩ := Option.map_eq_some_iff.mp h
            rw [optMap_mono mD h1]; exact congrArg some h2
          | ins c fs =>
            simp only at h ⊢
            obtain ⟨z, h1, h2⟩ := Option.map_eq_some_iff.mp h
            rw [optMap_monoF mF h1]; exact congrArg some h2
          | froz => cases h
    | _ => exact h
theorem fz_mono {n : Nat} {μ : Mu} {k j : Nat} {d d' : D} (hk : k ≤ j) (h : fzD n μ k d = some d') : fzD n μ j d = some d' := by
  obtain ⟨i, rfl⟩ := Nat.exists_eq_add_of_le hk
  induction i with
  | zero => exact h
  | succ i ih => exact fz_step (ih (by omega))
theorem castN (n : Nat) : ((OfNat.ofNat n : Nat) : Int) = OfNat.ofNat n := rfl
theorem optMap_idF {f : Str × D → Option (Str × D)} : ∀ {xs : List (Str × D)}, (∀ x ∈ xs, f x = some x) → optMap f xs = some xs
  | [], _ => rfl
  | x :: xs, h => by
    unfold optMap
    rw [h x List.mem_cons_self, optMap_idF fun y hy => h y (List.mem_cons_of_mem _ hy)]
theorem fzA_ins {n k m : Nat} {μ : Mu} {c : Str} {fs : List (Str × D)} (h : n ≤ m) (hm : μ[m]? = some (.ins c fs)) (hf : ∀ x ∈ fs, Fz k x.2) : fzD n μ (k + 1) (.adr m) = some (.obj c fs) := by
  unfold fzD
  simp only
  rw [if_neg (by omega), hm]
  simp only
  rw [optMap_idF fun x hx => by rw [hf x hx n μ]; rfl]
  rfl
theorem fzA_lst {n k m : Nat} {μ : Mu} {ds : List D} (h : n ≤ m) (hm : μ[m]? = some (.lst ds)) (hf : ∀ x ∈ ds, Fz k x) : fzD n μ (k + 1) (.adr m) = some (.lst ds) := by
  unfold fzD
  simp only
  rw [if_neg (by omega), hm]
  simp only
  rw [optMap_id fun x hx => hf x hx n μ]
  rfl
theorem fz_obj {k : Nat} {c : Str} {fs : List (Str × D)} (hf : ∀ x ∈ fs, Fz k x.2) : Fz (k + 1) (.obj c fs) := fun n μ => by
  unfold fzD
  simp only
  rw [optMap_idF fun x hx => by rw [hf x hx n μ]; rfl]
  rfl
theorem rngD_at {lo : Int} : ∀ {n i : Nat}, i < n → (rngD lo n)[i]? = some (.int (lo + i))
  | 0, _, h => absurd h (Nat.not_lt_zero _)
  | n + 1, 0, _ => by unfold rngD; simp
  | n + 1, i + 1, h => by
    unfold rngD
    rw [List.getElem?_cons_succ, rngD_at (by omega)]
    congr 2; omega
theorem rngD_len {lo : Int} : ∀ {n : Nat}, (rngD lo n).length = n
  | 0 => rfl
  | n + 1 => by unfold rngD; rw [List.length_cons, rngD_len]
theorem rngD_mem {lo : Int} {n : Nat} {d : D} (h : d ∈ rngD lo n) : ∃ i : Nat, i < n ∧ d = .int (lo + i) := by
  obtain ⟨i, hi⟩ := List.mem_iff_getElem?.mp h
  have hl : i < n := by
    have := (List.getElem?_eq_some_iff.mp hi).1
    rwa [rngD_len] at this
  rw [rngD_at hl] at hi
  exact ⟨i, hl, (Option.some.inj hi).symm⟩
theorem dRng_n {n : Nat} (h : n ≤ 1000000) : dRng [.int (n : Int)] = some (rngD 0 n) := by
  unfold dRng
  simp only
  rw [if_pos (by omega), Int.toNat_natCast]
theorem q_eqNil {μ : Mu} : dCmp .eq (.lst []) (.lst []) μ = some true := rfl
theorem q_eqN {μ : Mu} : dCmp .eq .non .non μ = some true := rfl
theorem q_eqS {x : Str} {μ : Mu} (h : PyData.strOk x = true) : dCmp .eq (.str x) (.str x) μ = some true := by
  unfold dCmp pyD
  simp only [h, if_true]
  show some (PyData.eqv (.str x) (.str x)) = some true
  unfold PyData.eqv
  simp
/-- plain data, no deeper than k -/
inductive Pl : Nat → D → Prop where
  | non {k} : Pl k .non
  | bl {k b} : Pl k (.bl b)
  | int {k i} : Pl k (.int i)
  | str {k x} (h : PyData.strOk x = true) : Pl k (.str x)
  | tup {k ds} (h : ∀ d ∈ ds, Pl k d) (hl : ds.length ≤ 1000000) : Pl (k + 1) (.tup ds)
  | lst {k ds} (h : ∀ d ∈ ds, Pl k d) (hl : ds.length ≤ 1000000) : Pl (k + 1) (.lst ds)
theorem enumD_at : ∀ (i : Nat) (xs : List D) (j : Nat), (enumD i xs)[j]? = (xs[j]?).map fun x => .tup [.int ((i + j : Nat) : Int), x]
  | i, [], j => by simp [enumD]
  | i, d :: r, 0 => by simp [enumD]
  | i, d :: r, j + 1 => by
    rw [enumD, List.getElem?_cons_succ, List.getElem?_cons_succ, enumD_at (i + 1) r j]
    congr 1
    funext x
    congr 4
    omega
theorem enumD_split {xs pre post : List D} {d : D} (h : enumD 0 xs = pre ++ d :: post) : ∃ x, xs[pre.length]? = some x ∧ d = .tup [.int (pre.length : Nat), x] := by
  have h1 : (enumD 0 xs)[pre.length]? = some d := by rw [h, List.getElem?_append_right (Nat.le_refl _), Nat.sub_self]; rfl
  rw [enumD_at] at h1
  obtain ⟨x, h2, h3⟩ := Option.map_eq_some_iff.mp h1
  refine ⟨x, h2, h3.symm.trans ?_⟩
  rw [Nat.zero_add]
theorem split_at {α : Type} {xs pre post : List α} {d : α} (h : xs = pre ++ d :: post) : xs[pre.length]? = some d := by
  rw [h, List.getElem?_append_right (Nat.le_refl _), Nat.sub_self]; rfl
theorem putD_few {f : Str} {d : D} : ∀ {fs : List (Str × D)} {n : Nat}, fs.length ≤ n → (putD f d fs).length ≤ n + 1
  | [], n, h => by unfold putD; simp
  | (g, e) :: r, n, h => by
    unfold putD
    rw [List.length_cons] at h
    split
    · rw [List.length_cons]; omega
    · rw [List.length_cons]
      have := putD_few (f := f) (d := d) (fs := r) (n := n - 1) (by omega)
      omega
theorem putD_nil {f : Str} {d : D} {n : Nat} : (putD f d []).length ≤ n + 1 := putD_few (Nat.zero_le _)
def kT (o : Option (List D)) (μ : Mu) : Mo D := match o with
  | some xs => mOk (.tup xs) μ
  | none => none
theorem kT_some {xs : List D} {μ : Mu} : kT (some xs) μ = mOk (.tup xs) μ := rfl
theorem i_tup' {S : Ev} {d : D} {μ : Mu} : dBi S .tuple [d] μ = kT (rdS d μ) μ := rfl
def kLs (o : Option (List D)) (μ : Mu) : Mo D := match o with
  | some xs => dNew false xs μ
  | none => none
theorem kLs_some {xs : List D} {μ : Mu} : kLs (some xs) μ = dNew false xs μ := rfl
theorem i_list' {S : Ev} {d : D} {μ : Mu} : dBi S (.list false) [d] μ = kLs (rdS d μ) μ := rfl
theorem optMap_some {α β : Type} {f : α → Option β} : ∀ {xs : List α}, (∀ x ∈ xs, (f x).isSome = true) → ∃ ys, optMap f xs = some ys ∧ ys.length = xs.length
  | [], _ => ⟨[], rfl, rfl⟩
  | x :: xs, h => by
    obtain ⟨ys, h1, h2⟩ := optMap_some (xs := xs) fun y hy => h y (List.mem_cons_of_mem _ hy)
    obtain ⟨y, hy⟩ := Option.isSome_iff_exists.mp (h x List.mem_cons_self)
    refine ⟨y :: ys, ?_, by simp [h2]⟩
    unfold optMap
    rw [hy, h1]
theorem eqv_nil {ys : List PyData} : PyData.eqv (.list ys) (.list []) = ys.isEmpty := by
  cases ys with
  | nil => rfl
  | cons y r => unfold PyData.eqv PyData.eqvAll; rfl
theorem q_eqNil' {xs : List D} {μ : Mu} (h : ∀ x ∈ xs, (pyD 15 μ x).isSome = true) : dCmp .eq (.lst xs) (.lst []) μ = some xs.isEmpty := by
  obtain ⟨ys, h1, h2⟩ := optMap_some (f := fun e => pyD 15 μ e) h
  have e1 : pyD 16 μ (.lst xs) = some (.list ys) := by unfold pyD; simp only [h1]; rfl
  have e2 : pyD 16 μ (.lst []) = some (.list []) := rfl
  unfold dCmp
  simp only [e1, e2, eqv_nil]
  cases xs <;> cases ys <;> first | rfl | simp at h2
theorem q_neNil' {xs : List D} {μ : Mu} (h : ∀ x ∈ xs, (pyD 15 μ x).isSome = true) : dCmp .ne (.lst xs) (.lst []) μ = some (!xs.isEmpty) := by
  obtain ⟨ys, h1, h2⟩ := optMap_some (f := fun e => pyD 15 μ e) h
  have e1 : pyD 16 μ (.lst xs) = some (.list ys) := by unfold pyD; simp only [h1]; rfl
  have e2 : pyD 16 μ (.lst []) = some (.list []) := rfl
  unfold dCmp
  simp only [e1, e2, eqv_nil]
  cases xs <;> cases ys <;> first | rfl | simp at h2
theorem filter_empty {α : Type} {p : α → Bool} : ∀ {xs : List α}, (xs.filter p).isEmpty = xs.all fun x => !p x
  | [] => rfl
  | x :: xs => by
    rw [List.filter_cons, List.all_cons, ← filter_empty (xs := xs)]
    cases p x <;> simp
/-- ints, booleans, None -/
def Sc (d : D) : Prop := match d with
  | .int _ => True
  | .bl _ => True
  | .non => True
  | _ => False
theorem Sc.py {d : D} {μ : Mu} {k : Nat} (h : Sc d) : (pyD (k + 1) μ d).isSome = true := by
  cases d <;> first | rfl | exact h.elim
theorem Sc.fz {d : D} {k : Nat} (h : Sc d) : Fz (k + 1) d := by
  cases d <;> first | exact fz_int | exact fz_bl | exact fz_non | exact h.elim
theorem lk_tup {xs ds : List D} : lockL (.tup xs) ds = [] := rfl
theorem lk_lst {xs ds : List D} : lockL (.lst xs) ds = [] := rfl
theorem lk_scr {xs : List Int} {ds : List D} : lockL (.scr xs) ds = [] := rfl
def kF (r : Fl × Dl) (μ : Mu) (f : Dl → Mu → Mo (Fl × Dl)) : Mo (Fl × Dl) := match r.1 with
  | .nx => f r.2 μ
  | .ct => f r.2 μ
  | .bk => mOk (.nx, r.2) μ
  | .rt d => mOk (.rt d, r.2) μ
theorem kF_nx (Δ : Dl) (μ : Mu) (f : Dl → Mu → Mo (Fl × Dl)) : kF (.nx, Δ) μ f = f Δ μ := rfl
theorem kF_ct (Δ : Dl) (μ : Mu) (f : Dl → Mu → Mo (Fl × Dl)) : kF (.ct, Δ) μ f = f Δ μ := rfl
theorem kF_bk (Δ : Dl) (μ : Mu) (f : Dl → Mu → Mo (Fl × Dl)) : kF (.bk, Δ) μ f = mOk (.nx, Δ) μ := rfl
theorem kF_rt (d : D) (Δ : Dl) (μ : Mu) (f : Dl → Mu → Mo (Fl × Dl)) : kF (.rt d, Δ) μ f = mOk (.rt d, Δ) μ := rfl
theorem fd_nil {t : IT} {b : DS} {Δ : Dl} {μ : Mu} : forD t b [] [] Δ μ = mOk (.nx, Δ) μ := by unfold forD; rw [if_pos lock_nil]
theorem fd_cons {t : IT} {b : DS} {d : D} {ds : List D} {Δ : Dl} {μ : Mu} : forD t b [] (d :: ds) Δ μ = bdn (mOpt (tgD t d Δ) μ) (fun Δ1 μ1 => bdn (b Δ1 μ1) (fun r μ2 => kF r μ2 (forD t b [] ds)) ()) () := by rw [forD, if_pos lock_nil]; rfl
/-- what is heard -/
def kH (x : Mo D) : Mo D := match x with
  | some (.ok _, μ) => mOk (.tup []) μ
  | some (.exc x, μ) => mOpt (heardD x) μ
  | none => none
theorem kH_ok {d : D} {μ : Mu} : kH (mOk d μ) = mOk (.tup []) μ := rfl
theorem kH_exc {x : Exn} {μ : Mu} : kH (some (.exc x, μ)) = mOpt (heardD x) μ := rfl
theorem e_heard' {S : Ev} {Δ : Dl} {μ : Mu} {e : IE} : evE S (.heard e) Δ μ = kH (evE S e Δ μ) := by
  rw [e_heard]; unfold kH
  cases evE S e Δ μ with
  | none => rfl
  | some p => obtain ⟨o, μ1⟩ := p; cases o <;> rfl
theorem heardD_bad {v : D} : heardD ⟨"BadArgument", [("name", v)]⟩ = some (.tup [.str "bad", v, .bl true]) := by
  unfold heardD; simp
theorem fzR_bad {s : Str} {μ : Mu} : fzR μ (some (.exc ⟨"BadArgument", [("name", .str s)]⟩, μ)) = some (.exc ⟨"BadArgument", [("name", .str s)]⟩, μ) := by
  unfold fzR
  simp only [trimOk_self, if_true, optMap, List.take_length]
  rfl
theorem q_eqNilT {xs : List D} {μ : Mu} (h : ∀ x ∈ xs, (pyD 15 μ x).isSome = true) : dCmp .eq (.tup xs) (.tup []) μ = some xs.isEmpty := by
  obtain ⟨ys, h1, h2⟩ := optMap_some (f := fun e => pyD 15 μ e) h
  have e1 : pyD 16 μ (.tup xs) = some (.tuple ys) := by unfold pyD; simp only [h1]; rfl
  have e2 : pyD 16 μ (.tup []) = some (.tuple []) := rfl
  have e3 : PyData.eqv (.tuple ys) (.tuple []) = ys.isEmpty := by
    cases ys with
    | nil => rfl
    | cons y r => unfold PyData.eqv PyData.eqvAll; rfl
  unfold dCmp
  simp only [e1, e2, e3]
  cases xs <;> cases ys <;> first | rfl | simp at h2
end M

set_option Elab.async false
set_option linter.all false
set_option maxRecDepth 100000
namespace LK
open M PySem PySem.Spec L2
abbrev q : Program := PySem.Challenge.pw_cavetrue_k16_whole_sides_and_odd_rings
def top (i : Nat) : Stmt := q.main.body.getD i (.Pass ⟨0, 0, 0, 0⟩)
def sub (i j : Nat) : Stmt := (match top i with | .ClassDef (body := b) .. => b | _ => []).getD j (.Pass ⟨0, 0, 0, 0⟩)
def pg : Pg where
  fns := ["is_number", "check", "is_passage", "are_passages", "is_cave", "far_end", "check_cave", "is_trail", "sides", "are_sides", "odd_ring", "is_odd_ring", "_law_taken", "_law_pick", "_law_rooms", "_law_passages", "_law_are_sides", "_law_is_path", "_law_is_odd_ring", "_law_bent_row", "_law_alike", "_law_refused", "law"]
  cls := [("Cave", ⟨["_rooms", "_passages"], ["rooms", "passages"], ["__len__"], true⟩), ("Sides", ⟨["cave", "sides", "came", "wrong"], [], ["spread", "path_from"], true⟩)]
  exc := [("BadArgument", ["name"]), ("NoPlan", ["ring"])]
  cons := [("MOST_ROOMS", .int 24), ("MOST_PASSAGES", .int 60), ("MOST_LENGTH", .int 1000), ("MOST_SILL", .int 100000)]
  mu_ := [(82, 21), (83, 20), (91, 15), (107, 16), (163, 12), (235, 10)]
  frz := ["Cave"]
  hrd := true
def ir_is_number : IS := (.seq (.ret (.and_ (.isi (.var 0) [.bt .int]) (.and_ (.not_ (.isi (.var 0) [.bt .bool])) (.chain .le .le (.var 1) (.var 0) (.var 2)))))
  .skip)
def d_is_number : FnD := ⟨"", "is_number", ["value", "low", "high"], ["value", "low", "high"], top 5, true, false, false, ir_is_number⟩
def p_is_number : FnP := ⟨d_is_number, false, "is_number", []⟩
theorem t_is_number : FnT pg p_is_number := ⟨by decide +kernel, by kernel_rfl, fun K fa fd F => FunD.bindsN F fun _ _ _ _ _ _ us hl => match us, hl with | [_, _, _], _ => rfl⟩
def ir_check : IS := (.seq (.ite (.not (.tru (.var 0)))
    (.seq (.raise "BadArgument" (.cons (.var 1) .nil))
    .skip)
    .skip)
  .skip)
def d_check : FnD := ⟨"", "check", ["is_right", "name"], ["is_right", "name"], top 6, true, false, false, ir_check⟩
def p_check : FnP := ⟨d_check, false, "check", []⟩
theorem t_check : FnT pg p_check := ⟨by decide +kernel, by kernel_rfl, fun K fa fd F => FunD.bindsN F fun _ _ _ _ _ _ us hl => match us, hl with | [_, _], _ => rfl⟩
def ir_is_passage : IS := (.seq (.ite (.or (.not (.tru (.isi (.var 0) [.bt .tuple]))) (.tru (.cmp .ne (.bi .len (.cons (.var 0) .nil)) (.cst (.int 4)))))
    (.seq (.ret (.cst (.bl false)))
    .skip)
    .skip)
  (.seq (.asg (.tup [(.nm 2), (.nm 3), (.nm 4), (.nm 5)]) (.var 0))
  (.seq (.ite (.or (.not (.tru (.call "is_number" (.cons (.var 2) (.cons (.cst (.int 0)) (.cons (.bin .sub false (.var 1) (.cst (.int 1))) .nil)))))) (.or (.not (.tru (.call "is_number" (.cons (.var 3) (.cons (.cst (.int 0)) (.cons (.bin .sub false (.var 1) (.cst (.int 1))) .nil)))))) (.tru (.cmp .eq (.var 2) (.var 3)))))
    (.seq (.ret (.cst (.bl false)))
    .skip)
    .skip)
  (.seq (.ret (.and_ (.call "is_number" (.cons (.var 4) (.cons (.cst (.int 1)) (.cons (.cst (.int 1000)) .nil)))) (.call "is_number" (.cons (.var 5) (.cons (.neg (.cst (.int 100000))) (.cons (.cst (.int 100000)) .nil))))))
  .skip))))
def d_is_passage : FnD := ⟨"", "is_passage", ["value", "rooms"], ["value", "rooms", "one", "other", "length", "sill"], top 12, true, false, false, ir_is_passage⟩
def p_is_passage : FnP := ⟨d_is_passage, false, "is_passage", []⟩
theorem t_is_passage : FnT pg p_is_passage := ⟨by decide +kernel, by kernel_rfl, fun K fa fd F => FunD.bindsN F fun _ _ _ _ _ _ us hl => match us, hl with | [_, _], _ => rfl⟩
def ir_are_passages : IS := (.seq (.ite (.or (.not (.tru (.isi (.var 0) [.bt .tuple]))) (.tru (.cmp .gt (.bi .len (.cons (.var 0) .nil)) (.cst (.int 60)))))
    (.seq (.ret (.cst (.bl false)))
    .skip)
    .skip)
  (.seq (.ret (.gn .all (.nm 2) (.seq (.var 0)) .yes (.call "is_passage" (.cons (.var 2) (.cons (.var 1) .nil))) [2]))
  .skip))
def d_are_passages : FnD := ⟨"", "are_passages", ["value", "rooms"], ["value", "rooms", "passage"], top 13, true, true, false, ir_are_passages⟩
def p_are_passages : FnP := ⟨d_are_passages, false, "are_passages", []⟩
theorem t_are_passages : FnT pg p_are_passages := ⟨by decide +kernel, by kernel_rfl, fun K fa fd F => FunD.bindsN F fun _ _ _ _ _ _ us hl => match us, hl with | [_, _], _ => rfl⟩
def ir_CaveUU_initUU : IS := (.seq (.ex (.call "check" (.cons (.call "is_number" (.cons (.var 1) (.cons (.cst (.int 0)) (.cons (.cst (.int 24)) .nil)))) (.cons (.cst (.str "rooms")) .nil))))
  (.seq (.ex (.call "check" (.cons (.call "are_passages" (.cons (.var 2) (.cons (.var 1) .nil))) (.cons (.cst (.str "passages")) .nil))))
  (.seq (.setf (.var 0) "_rooms" (.var 1))
  (.seq (.setf (.var 0) "_passages" (.var 2))
  .skip))))
def d_CaveUU_initUU : FnD := ⟨"Cave", "__init__", ["self", "rooms", "passages"], ["self", "rooms", "passages"], sub 14 0, false, false, false, ir_CaveUU_initUU⟩
def p_CaveUU_initUU : FnP := ⟨d_CaveUU_initUU, false, "Cave.__init__", [.adr (He.dflAt ("Cave", some "__init__") 0)]⟩
theorem t_CaveUU_initUU : FnT pg p_CaveUU_initUU := ⟨by decide +kernel, by kernel_rfl, fun K fa fd F => by
    obtain ⟨ds, hv, hb⟩ := FunD.binds1 (ps := ["self", "rooms", "passages"]) F 3 1 (fun z => nomatch z) rfl (fun _ _ _ _ _ _ _ us its hl hl2 => match us, its, hl, hl2 with | [_, _, _], [_], _, _ => ⟨_, rfl, rfl⟩)
    cases hv
    exact hb⟩
def ir_Cave_rooms : IS := (.seq (.ret (.att (.var 0) "_rooms"))
  .skip)
def d_Cave_rooms : FnD := ⟨"Cave", "rooms", ["self"], ["self"], sub 14 1, true, false, false, ir_Cave_rooms⟩
def p_Cave_rooms : FnP := ⟨d_Cave_rooms, true, "Cave.rooms", []⟩
theorem t_Cave_rooms : FnT pg p_Cave_rooms := ⟨by decide +kernel, by kernel_rfl, fun K fa fd F => FunD.bindsN F fun _ _ _ _ _ _ us hl => match us, hl with | [_], _ => rfl⟩
def ir_Cave_passages : IS := (.seq (.ret (.att (.var 0) "_passages"))
  .skip)
def d_Cave_passages : FnD := ⟨"Cave", "passages", ["self"], ["self"], sub 14 2, true, false, false, ir_Cave_passages⟩
def p_Cave_passages : FnP := ⟨d_Cave_passages, true, "Cave.passages", []⟩
theorem t_Cave_passages : FnT pg p_Cave_passages := ⟨by decide +kernel, by kernel_rfl, fun K fa fd F => FunD.bindsN F fun _ _ _ _ _ _ us hl => match us, hl with | [_], _ => rfl⟩
def ir_CaveUU_lenUU : IS := (.seq (.ret (.bi .len (.cons (.att (.var 0) "_passages") .nil)))
  .skip)
def d_CaveUU_lenUU : FnD := ⟨"Cave", "__len__", ["self"], ["self"], sub 14 3, true, false, false, ir_CaveUU_lenUU⟩
def p_CaveUU_lenUU : FnP := ⟨d_CaveUU_lenUU, false, "Cave.__len__", []⟩
theorem t_CaveUU_lenUU : FnT pg p_CaveUU_lenUU := ⟨by decide +kernel, by kernel_rfl, fun K fa fd F => FunD.bindsN F fun _ _ _ _ _ _ us hl => match us, hl with | [_], _ => rfl⟩
def ir_is_cave : IS := (.seq (.ret (.isi (.var 0) [.own "Cave"]))
  .skip)
def d_is_cave : FnD := ⟨"", "is_cave", ["value"], ["value"], top 15, true, false, false, ir_is_cave⟩
def p_is_cave : FnP := ⟨d_is_cave, false, "is_cave", []⟩
theorem t_is_cave : FnT pg p_is_cave := ⟨by decide +kernel, by kernel_rfl, fun K fa fd F => FunD.bindsN F fun _ _ _ _ _ _ us hl => match us, hl with | [_], _ => rfl⟩
def ir_far_end : IS := (.seq (.ret (.ite (.tru (.cmp .eq (.ix (.var 0) (.cst (.int 0))) (.var 1))) (.ix (.var 0) (.cst (.int 1))) (.ix (.var 0) (.cst (.int 0)))))
  .skip)
def d_far_end : FnD := ⟨"", "far_end", ["passage", "room"], ["passage", "room"], top 16, true, false, false, ir_far_end⟩
def p_far_end : FnP := ⟨d_far_end, false, "far_end", []⟩
theorem t_far_end : FnT pg p_far_end := ⟨by decide +kernel, by kernel_rfl, fun K fa fd F => FunD.bindsN F fun _ _ _ _ _ _ us hl => match us, hl with | [_, _], _ => rfl⟩
def ir_check_cave : IS := (.seq (.ex (.call "check" (.cons (.call "is_cave" (.cons (.var 0) .nil)) (.cons (.cst (.str "cave")) .nil))))
  .skip)
def d_check_cave : FnD := ⟨"", "check_cave", ["cave"], ["cave"], top 18, true, false, false, ir_check_cave⟩
def p_check_cave : FnP := ⟨d_check_cave, false, "check_cave", []⟩
theorem t_check_cave : FnT pg p_check_cave := ⟨by decide +kernel, by kernel_rfl, fun K fa fd F => FunD.bindsN F fun _ _ _ _ _ _ us hl => match us, hl with | [_], _ => rfl⟩
def ir_is_trail_b1 : IS := (.seq (.ite (.or (.not (.tru (.call "is_number" (.cons (.var 3) (.cons (.cst (.int 0)) (.cons (.bin .sub false (.bi .len (.cons (.var 0) .nil)) (.cst (.int 1))) .nil)))))) (.tru (.cmp .nin (.var 2) (.sl false (.ix (.att (.var 0) "passages") (.var 3)) .no (.some (.cst (.int 2)))))))
      (.seq (.ret (.cst (.bl false)))
      .skip)
      .skip)
    (.seq (.asg (.nm 2) (.call "far_end" (.cons (.ix (.att (.var 0) "passages") (.var 3)) (.cons (.var 2) .nil))))
    .skip))
def ir_is_trail : IS := (.seq (.ite (.or (.not (.tru (.isi (.var 1) [.bt .tuple]))) (.or (.tru (.cmp .ne (.bi .len (.cons (.var 1) .nil)) (.cst (.int 2)))) (.not (.tru (.call "is_number" (.cons (.ix (.var 1) (.cst (.int 0))) (.cons (.cst (.int 0)) (.cons (.bin .sub false (.att (.var 0) "rooms") (.cst (.int 1))) .nil))))))))
    (.seq (.ret (.cst (.bl false)))
    .skip)
    .skip)
  (.seq (.ite (.or (.not (.tru (.isi (.ix (.var 1) (.cst (.int 1))) [.bt .tuple]))) (.not (.tru (.ix (.var 1) (.cst (.int 1))))))
    (.seq (.ret (.cst (.bl false)))
    .skip)
    .skip)
  (.seq (.asg (.nm 2) (.ix (.var 1) (.cst (.int 0))))
  (.seq (.for_ (.nm 3) (.seq (.ix (.var 1) (.cst (.int 1)))) ir_is_trail_b1)
  (.seq (.ret (.cst (.bl true)))
  .skip)))))
def d_is_trail : FnD := ⟨"", "is_trail", ["cave", "value"], ["cave", "value", "here", "number"], top 19, true, false, false, ir_is_trail⟩
def p_is_trail : FnP := ⟨d_is_trail, false, "is_trail", []⟩
theorem t_is_trail : FnT pg p_is_trail := ⟨by decide +kernel, by kernel_rfl, fun K fa fd F => FunD.bindsN F fun _ _ _ _ _ _ us hl => match us, hl with | [_, _], _ => rfl⟩
def ir_SidesUU_initUU_b1 : IS := (.seq (.ite (.and (.tru (.cmp .is_ (.ix (.att (.var 0) "sides") (.var 2)) (.cst .non))) (.tru (.cmp .is_ (.att (.var 0) "wrong") (.cst .non))))
      (.seq (.setx (.att (.var 0) "sides") (.var 2) (.cst (.int 0)))
      (.seq (.ex (.meth "spread" (.var 0) (.cons (.var 2) .nil)))
      .skip))
      .skip)
    .skip)
def ir_SidesUU_initUU : IS := (.seq (.setf (.var 0) "cave" (.var 1))
  (.seq (.setf (.var 0) "sides" (.bin .mul true (.lst true (.cons (.cst .non) .nil)) (.att (.var 1) "rooms")))
  (.seq (.setf (.var 0) "came" (.bin .mul true (.lst true (.cons (.cst .non) .nil)) (.att (.var 1) "rooms")))
  (.seq (.setf (.var 0) "wrong" (.cst .non))
  (.seq (.for_ (.nm 2) (.rng (.cons (.att (.var 1) "rooms") .nil)) ir_SidesUU_initUU_b1)
  .skip)))))
def d_SidesUU_initUU : FnD := ⟨"Sides", "__init__", ["self", "cave"], ["self", "cave", "room"], sub 20 0, false, false, false, ir_SidesUU_initUU⟩
def p_SidesUU_initUU : FnP := ⟨d_SidesUU_initUU, false, "Sides.__init__", []⟩
theorem t_SidesUU_initUU : FnT pg p_SidesUU_initUU := ⟨by decide +kernel, by kernel_rfl, fun K fa fd F => FunD.bindsN F fun _ _ _ _ _ _ us hl => match us, hl with | [_, _], _ => rfl⟩
def ir_Sides_spread_b2 : IS := (.seq (.ite (.and (.tru (.cmp .in_ (.var 4) (.sl false (.var 6) .no (.some (.cst (.int 2)))))) (.tru (.cmp .is_ (.att (.var 0) "wrong") (.cst .non))))
        (.seq (.asg (.nm 7) (.call "far_end" (.cons (.var 6) (.cons (.var 4) .nil))))
        (.seq (.ite (.tru (.cmp .is_ (.ix (.att (.var 0) "sides") (.var 7)) (.cst .non)))
          (.seq (.setx (.att (.var 0) "sides") (.var 7) (.bin .sub false (.cst (.int 1)) (.ix (.att (.var 0) "sides") (.var 4))))
          (.seq (.setx (.att (.var 0) "came") (.var 7) (.tup (.cons (.var 4) (.cons (.var 5) .nil))))
          (.seq (.ex (.mt .append (.var 2) (.cons (.var 7) .nil)))
          .skip)))
          (.seq (.ite (.tru (.cmp .eq (.ix (.att (.var 0) "sides") (.var 7)) (.ix (.att (.var 0) "sides") (.var 4))))
            (.seq (.setf (.var 0) "wrong" (.tup (.cons (.var 4) (.cons (.var 5) (.cons (.var 7) .nil)))))
            .skip)
            .skip)
          .skip))
        .skip))
        .skip)
      .skip)
def ir_Sides_spread_c1 : IC := (.and (.tru (.cmp .lt (.var 3) (.bi .len (.cons (.var 2) .nil)))) (.tru (.cmp .is_ (.att (.var 0) "wrong") (.cst .non))))
def ir_Sides_spread_b1 : IS := (.seq (.asg (.nm 4) (.ix (.var 2) (.var 3)))
    (.seq (.for_ (.tup [(.nm 5), (.nm 6)]) (.enm (.att (.att (.var 0) "cave") "passages")) ir_Sides_spread_b2)
    (.seq (.aug 3 .add (.cst (.int 1)))
    .skip)))
def ir_Sides_spread : IS := (.seq (.asg (.nm 2) (.lst true (.cons (.var 1) .nil)))
  (.seq (.asg (.nm 3) (.cst (.int 0)))
  (.seq (.whil ir_Sides_spread_c1 ir_Sides_spread_b1)
  .skip)))
def d_Sides_spread : FnD := ⟨"Sides", "spread", ["self", "begin"], ["self", "begin", "rows", "at", "here", "number", "passage", "there"], sub 20 1, false, false, false, ir_Sides_spread⟩
def p_Sides_spread : FnP := ⟨d_Sides_spread, false, "Sides.spread", []⟩
theorem t_Sides_spread : FnT pg p_Sides_spread := ⟨by decide +kernel, by kernel_rfl, fun K fa fd F => FunD.bindsN F fun _ _ _ _ _ _ us hl => match us, hl with | [_, _], _ => rfl⟩
def ir_Sides_path_from_c1 : IC := (.tru (.cmp .isnt (.ix (.att (.var 0) "came") (.var 1)) (.cst .non)))
def ir_Sides_path_from_b1 : IS := (.seq (.asg (.tup [(.nm 1), (.nm 3)]) (.ix (.att (.var 0) "came") (.var 1)))
    (.seq (.ex (.mt .append (.var 2) (.cons (.var 3) .nil)))
    .skip))
def ir_Sides_path_from : IS := (.seq (.asg (.nm 2) (.lst true .nil))
  (.seq (.whil ir_Sides_path_from_c1 ir_Sides_path_from_b1)
  (.seq (.ret (.var 2))
  .skip)))
def d_Sides_path_from : FnD := ⟨"Sides", "path_from", ["self", "room"], ["self", "room", "found", "number"], sub 20 2, true, false, false, ir_Sides_path_from⟩
def p_Sides_path_from : FnP := ⟨d_Sides_path_from, false, "Sides.path_from", []⟩
theorem t_Sides_path_from : FnT pg p_Sides_path_from := ⟨by decide +kernel, by kernel_rfl, fun K fa fd F => FunD.bindsN F fun _ _ _ _ _ _ us hl => match us, hl with | [_, _], _ => rfl⟩
def ir_sides : IS := (.seq (.ex (.call "check_cave" (.cons (.var 0) .nil)))
  (.seq (.asg (.nm 1) (.mk "Sides" false (.cons (.var 0) .nil)))
  (.seq (.ret (.ite (.tru (.cmp .is_ (.att (.var 1) "wrong") (.cst .non))) (.bi .tuple (.cons (.att (.var 1) "sides") .nil)) (.cst .non)))
  .skip)))
def d_sides : FnD := ⟨"", "sides", ["cave"], ["cave", "found"], top 21, true, false, false, ir_sides⟩
def p_sides : FnP := ⟨d_sides, false, "sides", []⟩
theorem t_sides : FnT pg p_sides := ⟨by decide +kernel, by kernel_rfl, fun K fa fd F => FunD.bindsN F fun _ _ _ _ _ _ us hl => match us, hl with | [_], _ => rfl⟩
def ir_are_sides : IS := (.seq (.ex (.call "check_cave" (.cons (.var 0) .nil)))
  (.seq (.ite (.or (.not (.tru (.isi (.var 1) [.bt .tuple]))) (.or (.tru (.cmp .ne (.bi .len (.cons (.var 1) .nil)) (.att (.var 0) "rooms"))) (.not (.tru (.gn .all (.nm 3) (.seq (.var 1)) .yes (.call "is_number" (.cons (.var 3) (.cons (.cst (.int 0)) (.cons (.cst (.int 1)) .nil)))) [3])))))
    (.seq (.ret (.cst (.bl false)))
    .skip)
    .skip)
  (.seq (.ret (.gn .all (.nm 2) (.seq (.att (.var 0) "passages")) .yes (.cmp .ne (.ix (.var 1) (.ix (.var 2) (.cst (.int 0)))) (.ix (.var 1) (.ix (.var 2) (.cst (.int 1))))) [2]))
  .skip)))
def d_are_sides : FnD := ⟨"", "are_sides", ["cave", "value"], ["cave", "value", "passage", "one"], top 22, true, true, false, ir_are_sides⟩
def p_are_sides : FnP := ⟨d_are_sides, false, "are_sides", []⟩
theorem t_are_sides : FnT pg p_are_sides := ⟨by decide +kernel, by kernel_rfl, fun K fa fd F => FunD.bindsN F fun _ _ _ _ _ _ us hl => match us, hl with | [_, _], _ => rfl⟩
def ir_odd_ring_c1 : IC := (.tru (.cmp .isnt (.ix (.att (.var 1) "came") (.var 3)) (.cst .non)))
def ir_odd_ring_b1 : IS := (.seq (.asg (.nm 3) (.ix (.ix (.att (.var 1) "came") (.var 3)) (.cst (.int 0))))
    .skip)
def ir_odd_ring : IS := (.seq (.ex (.call "check_cave" (.cons (.var 0) .nil)))
  (.seq (.asg (.nm 1) (.mk "Sides" false (.cons (.var 0) .nil)))
  (.seq (.ite (.tru (.cmp .is_ (.att (.var 1) "wrong") (.cst .non)))
    (.seq (.ret (.cst .non))
    .skip)
    .skip)
  (.seq (.asg (.tup [(.nm 4), (.nm 5), (.nm 6)]) (.att (.var 1) "wrong"))
  (.seq (.asg (.nm 2) (.bin .add false (.bin .add false (.rev false (.meth "path_from" (.var 1) (.cons (.var 4) .nil))) (.lst false (.cons (.var 5) .nil))) (.meth "path_from" (.var 1) (.cons (.var 6) .nil))))
  (.seq (.asg (.nm 3) (.var 4))
  (.seq (.whil ir_odd_ring_c1 ir_odd_ring_b1)
  (.seq (.ret (.tup (.cons (.var 3) (.cons (.bi .tuple (.cons (.var 2) .nil)) .nil))))
  .skip))))))))
def d_odd_ring : FnD := ⟨"", "odd_ring", ["cave"], ["cave", "found", "row", "begin", "here", "number", "there"], top 23, true, false, false, ir_odd_ring⟩
def p_odd_ring : FnP := ⟨d_odd_ring, false, "odd_ring", []⟩
theorem t_odd_ring : FnT pg p_odd_ring := ⟨by decide +kernel, by kernel_rfl, fun K fa fd F => FunD.bindsN F fun _ _ _ _ _ _ us hl => match us, hl with | [_], _ => rfl⟩
def ir_is_odd_ring_b1 : IS := (.seq (.asg (.nm 2) (.call "far_end" (.cons (.ix (.att (.var 0) "passages") (.var 3)) (.cons (.var 2) .nil))))
    .skip)
def ir_is_odd_ring : IS := (.seq (.ex (.call "check_cave" (.cons (.var 0) .nil)))
  (.seq (.ite (.or (.not (.tru (.call "is_trail" (.cons (.var 0) (.cons (.var 1) .nil))))) (.tru (.cmp .eq (.bin .mod false (.bi .len (.cons (.ix (.var 1) (.cst (.int 1))) .nil)) (.cst (.int 2))) (.cst (.int 0)))))
    (.seq (.ret (.cst (.bl false)))
    .skip)
    .skip)
  (.seq (.asg (.nm 2) (.ix (.var 1) (.cst (.int 0))))
  (.seq (.for_ (.nm 3) (.seq (.ix (.var 1) (.cst (.int 1)))) ir_is_odd_ring_b1)
  (.seq (.ret (.cmp .eq (.var 2) (.ix (.var 1) (.cst (.int 0)))))
  .skip)))))
def d_is_odd_ring : FnD := ⟨"", "is_odd_ring", ["cave", "value"], ["cave", "value", "here", "number"], top 24, true, false, false, ir_is_odd_ring⟩
def p_is_odd_ring : FnP := ⟨d_is_odd_ring, false, "is_odd_ring", []⟩
theorem t_is_odd_ring : FnT pg p_is_odd_ring := ⟨by decide +kernel, by kernel_rfl, fun K fa fd F => FunD.bindsN F fun _ _ _ _ _ _ us hl => match us, hl with | [_, _], _ => rfl⟩
def ir__law_taken : IS := (.seq (.ite (.tru (.cmp .gt (.ix (.var 0) (.cst (.int 3))) (.cst (.int 0))))
    (.seq (.asg (.nm 3) (.bin .mod false (.bi .int (.cons (.ix (.var 0) (.cst (.int 3))) .nil)) (.var 1)))
    (.seq (.setx (.var 0) (.cst (.int 3)) (.bin .fdiv false (.ix (.var 0) (.cst (.int 3))) (.var 1)))
    (.seq (.ret (.var 3))
    .skip)))
    .skip)
  (.seq (.setx (.var 0) (.cst (.int 1)) (.bin .add false (.ix (.var 0) (.cst (.int 1))) (.cst (.int 1))))
  (.seq (.ite (.tru (.cmp .gt (.ix (.var 0) (.cst (.int 1))) (.bi .len (.cons (.ix (.var 0) (.cst (.int 0))) .nil))))
    (.seq (.setx (.var 0) (.cst (.int 2)) (.bin .mod false (.bi .int (.cons (.bin .add false (.bin .mul false (.ix (.var 0) (.cst (.int 2))) (.cst (.int 48271))) (.cst (.int 11))) .nil)) (.cst (.int 2147483647))))
    (.seq (.ret (.bin .mod false (.bi .int (.cons (.bin .fdiv false (.ix (.var 0) (.cst (.int 2))) (.cst (.int 7))) .nil)) (.var 1)))
    .skip))
    .skip)
  (.seq (.asg (.nm 2) (.ix (.ix (.var 0) (.cst (.int 0))) (.bin .sub false (.ix (.var 0) (.cst (.int 1))) (.cst (.int 1)))))
  (.seq (.setx (.var 0) (.cst (.int 2)) (.bin .mod false (.bi .int (.cons (.bin .add false (.bin .add false (.bin .mul false (.ix (.var 0) (.cst (.int 2))) (.cst (.int 48271))) (.var 2)) (.cst (.int 11))) .nil)) (.cst (.int 2147483647))))
  (.seq (.ite (.tru (.cmp .ge (.var 2) (.bin .pow false (.cst (.int 10)) (.cst (.int 18)))))
    (.seq (.setx (.var 0) (.cst (.int 3)) (.bin .fdiv false (.var 2) (.var 1)))
    .skip)
    .skip)
  (.seq (.ret (.bin .mod false (.bi .int (.cons (.var 2) .nil)) (.var 1)))
  .skip)))))))
def d__law_taken : FnD := ⟨"", "_law_taken", ["row", "many"], ["row", "many", "cell", "found"], top 26, true, false, false, ir__law_taken⟩
def p__law_taken : FnP := ⟨d__law_taken, false, "_law_taken", []⟩
theorem t__law_taken : FnT pg p__law_taken := ⟨by decide +kernel, by kernel_rfl, fun K fa fd F => FunD.bindsN F fun _ _ _ _ _ _ us hl => match us, hl with | [_, _], _ => rfl⟩
def ir__law_pick : IS := (.seq (.ret (.ix (.var 1) (.call "_law_taken" (.cons (.var 0) (.cons (.bi .len (.cons (.var 1) .nil)) .nil)))))
  .skip)
def d__law_pick : FnD := ⟨"", "_law_pick", ["row", "some"], ["row", "some"], top 27, true, false, false, ir__law_pick⟩
def p__law_pick : FnP := ⟨d__law_pick, false, "_law_pick", []⟩
theorem t__law_pick : FnT pg p__law_pick := ⟨by decide +kernel, by kernel_rfl, fun K fa fd F => FunD.bindsN F fun _ _ _ _ _ _ us hl => match us, hl with | [_, _], _ => rfl⟩
def ir__law_rooms : IS := (.seq (.ret (.call "_law_pick" (.cons (.var 0) (.cons (.lst false (.cons (.call "_law_taken" (.cons (.var 0) (.cons (.cst (.int 4)) .nil))) (.cons (.var 1) (.cons (.call "_law_taken" (.cons (.var 0) (.cons (.bin .add false (.var 1) (.cst (.int 1))) .nil))) (.cons (.call "_law_taken" (.cons (.var 0) (.cons (.bin .add false (.var 1) (.cst (.int 1))) .nil))) .nil))))) .nil))))
  .skip)
def d__law_rooms : FnD := ⟨"", "_law_rooms", ["row", "many"], ["row", "many"], top 28, true, false, false, ir__law_rooms⟩
def p__law_rooms : FnP := ⟨d__law_rooms, false, "_law_rooms", []⟩
theorem t__law_rooms : FnT pg p__law_rooms := ⟨by decide +kernel, by kernel_rfl, fun K fa fd F => FunD.bindsN F fun _ _ _ _ _ _ us hl => match us, hl with | [_, _], _ => rfl⟩
def ir__law_passages_b1 : IS := (.seq (.asg (.nm 6) (.call "_law_taken" (.cons (.var 0) (.cons (.var 1) .nil))))
    (.seq (.asg (.nm 7) (.bin .add false (.bin .add false (.var 6) (.cst (.int 1))) (.call "_law_taken" (.cons (.var 0) (.cons (.bin .sub false (.var 1) (.cst (.int 1))) .nil)))))
    (.seq (.asg (.nm 7) (.ite (.tru (.cmp .ge (.var 7) (.var 1))) (.bin .sub false (.var 7) (.var 1)) (.var 7)))
    (.seq (.asg (.nm 8) (.ite (.tru (.cmp .gt (.var 3) (.cst (.int 0)))) (.call "_law_pick" (.cons (.var 0) (.cons (.lst false (.cons (.bin .add false (.cst (.int 1)) (.call "_law_taken" (.cons (.var 0) (.cons (.cst (.int 4)) .nil)))) (.cons (.bin .add false (.cst (.int 1)) (.call "_law_taken" (.cons (.var 0) (.cons (.cst (.int 1000)) .nil)))) .nil))) .nil))) (.cst (.int 1))))
    (.seq (.asg (.nm 9) (.call "_law_pick" (.cons (.var 0) (.cons (.lst false (.cons (.call "_law_taken" (.cons (.var 0) (.cons (.cst (.int 5)) .nil))) (.cons (.bin .sub false (.call "_law_taken" (.cons (.var 0) (.cons (.cst (.int 200001)) .nil))) (.cst (.int 100000))) .nil))) .nil))))
    (.seq (.ex (.mt .append (.var 4) (.cons (.tup (.cons (.var 6) (.cons (.var 7) (.cons (.var 8) (.cons (.var 9) .nil))))) .nil)))
    .skip))))))
def ir__law_passages : IS := (.seq (.ite (.tru (.cmp .lt (.var 1) (.cst (.int 2))))
    (.seq (.ret (.tup .nil))
    .skip)
    .skip)
  (.seq (.asg (.nm 3) (.call "_law_taken" (.cons (.var 0) (.cons (.cst (.int 3)) .nil))))
  (.seq (.asg (.nm 4) (.lst true .nil))
  (.seq (.for_ (.nm 5) (.rng (.cons (.call "_law_taken" (.cons (.var 0) (.cons (.bin .add false (.var 2) (.cst (.int 1))) .nil))) .nil)) ir__law_passages_b1)
  (.seq (.ret (.bi .tuple (.cons (.var 4) .nil)))
  .skip)))))
def d__law_passages : FnD := ⟨"", "_law_passages", ["row", "rooms", "many"], ["row", "rooms", "many", "kind", "found", "k", "one", "other", "length", "sill"], top 29, true, false, false, ir__law_passages⟩
def p__law_passages : FnP := ⟨d__law_passages, false, "_law_passages", []⟩
theorem t__law_passages : FnT pg p__law_passages := ⟨by decide +kernel, by kernel_rfl, fun K fa fd F => FunD.bindsN F fun _ _ _ _ _ _ us hl => match us, hl with | [_, _, _], _ => rfl⟩
def ir__law_are_sides : IS := (.seq (.ite (.or (.not (.tru (.isi (.var 2) [.bt .tuple]))) (.tru (.cmp .ne (.bi .len (.cons (.var 2) .nil)) (.var 0))))
    (.seq (.ret (.cst (.bl false)))
    .skip)
    .skip)
  (.seq (.ite (.tru (.cmp .ne (.lc false (.nm 3) (.seq (.var 2)) (.or (.not (.tru (.isi (.var 3) [.bt .int]))) (.or (.tru (.isi (.var 3) [.bt .bool])) (.not (.tru (.chain .le .le (.cst (.int 0)) (.var 3) (.cst (.int 1))))))) (.var 3) [3]) (.lst false .nil)))
    (.seq (.ret (.cst (.bl false)))
    .skip)
    .skip)
  (.seq (.ret (.cmp .eq (.lc false (.nm 4) (.seq (.var 1)) (.tru (.cmp .eq (.ix (.var 2) (.ix (.var 4) (.cst (.int 0)))) (.ix (.var 2) (.ix (.var 4) (.cst (.int 1)))))) (.var 4) [4]) (.lst false .nil)))
  .skip)))
def d__law_are_sides : FnD := ⟨"", "_law_are_sides", ["rooms", "passages", "value"], ["rooms", "passages", "value", "k", "p"], top 30, true, false, false, ir__law_are_sides⟩
def p__law_are_sides : FnP := ⟨d__law_are_sides, false, "_law_are_sides", []⟩
theorem t__law_are_sides : FnT pg p__law_are_sides := ⟨by decide +kernel, by kernel_rfl, fun K fa fd F => FunD.bindsN F fun _ _ _ _ _ _ us hl => match us, hl with | [_, _, _], _ => rfl⟩
def ir__law_is_path_b1 : IS := (.seq (.ite (.or (.not (.tru (.isi (.var 5) [.bt .int]))) (.or (.tru (.isi (.var 5) [.bt .bool])) (.not (.tru (.chain .le .lt (.cst (.int 0)) (.var 5) (.bi .len (.cons (.var 0) .nil)))))))
      (.seq (.ret (.cst (.bl false)))
      .skip)
      .skip)
    (.seq (.asg (.tup [(.nm 6), (.nm 7), (.nm 8), (.nm 9)]) (.ix (.var 0) (.var 5)))
    (.seq (.ite (.and (.tru (.cmp .ne (.var 4) (.var 6))) (.tru (.cmp .ne (.var 4) (.var 7))))
      (.seq (.ret (.cst (.bl false)))
      .skip)
      .skip)
    (.seq (.asg (.nm 4) (.ite (.tru (.cmp .eq (.var 4) (.var 6))) (.var 7) (.var 6)))
    .skip))))
def ir__law_is_path : IS := (.seq (.ite (.not (.tru (.isi (.var 3) [.bt .tuple])))
    (.seq (.ret (.cst (.bl false)))
    .skip)
    .skip)
  (.seq (.asg (.nm 4) (.var 1))
  (.seq (.for_ (.nm 5) (.seq (.var 3)) ir__law_is_path_b1)
  (.seq (.ret (.cmp .eq (.var 4) (.var 2)))
  .skip))))
def d__law_is_path : FnD := ⟨"", "_law_is_path", ["passages", "one", "other", "value"], ["passages", "one", "other", "value", "here", "number", "a", "b", "length", "sill"], top 31, true, false, false, ir__law_is_path⟩
def p__law_is_path : FnP := ⟨d__law_is_path, false, "_law_is_path", []⟩
theorem t__law_is_path : FnT pg p__law_is_path := ⟨by decide +kernel, by kernel_rfl, fun K fa fd F => FunD.bindsN F fun _ _ _ _ _ _ us hl => match us, hl with | [_, _, _, _], _ => rfl⟩
def ir__law_is_odd_ring : IS := (.seq (.ite (.or (.not (.tru (.isi (.var 2) [.bt .tuple]))) (.or (.tru (.cmp .ne (.bi .len (.cons (.var 2) .nil)) (.cst (.int 2)))) (.or (.not (.tru (.isi (.ix (.var 2) (.cst (.int 0))) [.bt .int]))) (.tru (.isi (.ix (.var 2) (.cst (.int 0))) [.bt .bool])))))
    (.seq (.ret (.cst (.bl false)))
    .skip)
    .skip)
  (.seq (.ite (.or (.not (.tru (.chain .le .lt (.cst (.int 0)) (.ix (.var 2) (.cst (.int 0))) (.var 0)))) (.or (.not (.tru (.isi (.ix (.var 2) (.cst (.int 1))) [.bt .tuple]))) (.tru (.cmp .eq (.bin .mod false (.bi .len (.cons (.ix (.var 2) (.cst (.int 1))) .nil)) (.cst (.int 2))) (.cst (.int 0))))))
    (.seq (.ret (.cst (.bl false)))
    .skip)
    .skip)
  (.seq (.ret (.call "_law_is_path" (.cons (.var 1) (.cons (.ix (.var 2) (.cst (.int 0))) (.cons (.ix (.var 2) (.cst (.int 0))) (.cons (.ix (.var 2) (.cst (.int 1))) .nil))))))
  .skip)))
def d__law_is_odd_ring : FnD := ⟨"", "_law_is_odd_ring", ["rooms", "passages", "value"], ["rooms", "passages", "value"], top 32, true, false, false, ir__law_is_odd_ring⟩
def p__law_is_odd_ring : FnP := ⟨d__law_is_odd_ring, false, "_law_is_odd_ring", []⟩
theorem t__law_is_odd_ring : FnT pg p__law_is_odd_ring := ⟨by decide +kernel, by kernel_rfl, fun K fa fd F => FunD.bindsN F fun _ _ _ _ _ _ us hl => match us, hl with | [_, _, _], _ => rfl⟩
def ir__law_bent_row : IS := (.seq (.ite (.or (.tru (.cmp .is_ (.var 1) (.cst .non))) (.tru (.cmp .eq (.var 1) (.tup .nil))))
    (.seq (.ret (.call "_law_pick" (.cons (.var 0) (.cons (.lst false (.cons (.tup .nil) (.cons (.cst .non) (.cons (.lst false .nil) (.cons (.tup (.cons (.cst (.int 0)) .nil)) (.cons (.tup (.cons (.cst (.int 0)) (.cons (.cst (.int 1)) .nil))) (.cons (.tup (.cons (.var 2) .nil)) .nil))))))) .nil))))
    .skip)
    .skip)
  (.seq (.asg (.nm 3) (.call "_law_taken" (.cons (.var 0) (.cons (.bi .len (.cons (.var 1) .nil)) .nil))))
  (.seq (.asg (.nm 4) (.call "_law_pick" (.cons (.var 0) (.cons (.lst false (.cons (.call "_law_taken" (.cons (.var 0) (.cons (.bin .add false (.var 2) (.cst (.int 1))) .nil))) (.cons (.bin .add false (.ix (.var 1) (.var 3)) (.cst (.int 1))) (.cons (.bin .sub false (.ix (.var 1) (.var 3)) (.cst (.int 1))) (.cons (.cst .non) (.cons (.cst (.bl true)) .nil)))))) .nil))))
  (.seq (.ret (.call "_law_pick" (.cons (.var 0) (.cons (.lst false (.cons (.bin .add false (.sl false (.var 1) .no (.some (.var 3))) (.sl false (.var 1) (.some (.bin .add false (.var 3) (.cst (.int 1)))) .no)) (.cons (.bin .add false (.bin .add false (.sl false (.var 1) .no (.some (.var 3))) (.tup (.cons (.var 4) .nil))) (.sl false (.var 1) (.some (.bin .add false (.var 3) (.cst (.int 1)))) .no)) (.cons (.bin .add false (.var 1) (.sl false (.var 1) .no (.some (.cst (.int 1))))) (.cons (.rev false (.var 1)) (.cons (.bi (.list false) (.cons (.var 1) .nil)) (.cons (.bin .add false (.bin .add false (.sl false (.var 1) .no (.some (.var 3))) (.tup (.cons (.ix (.var 1) (.var 3)) .nil))) (.sl false (.var 1) (.some (.var 3)) .no)) .nil))))))) .nil))))
  .skip))))
def d__law_bent_row : FnD := ⟨"", "_law_bent_row", ["row", "value", "most"], ["row", "value", "most", "at", "some"], top 33, true, false, false, ir__law_bent_row⟩
def p__law_bent_row : FnP := ⟨d__law_bent_row, false, "_law_bent_row", []⟩
theorem t__law_bent_row : FnT pg p__law_bent_row := ⟨by decide +kernel, by kernel_rfl, fun K fa fd F => FunD.bindsN F fun _ _ _ _ _ _ us hl => match us, hl with | [_, _, _], _ => rfl⟩
def ir__law_alike : IS := (.seq (.ite (.tru (.isi (.var 1) [.bt .tuple, .bt .list]))
    (.seq (.ite (.or (.not (.tru (.isi (.var 0) [.bt .tuple, .bt .list]))) (.tru (.cmp .ne (.isi (.var 0) [.bt .list]) (.isi (.var 1) [.bt .list]))))
      (.seq (.ret (.cst (.bl false)))
      .skip)
      .skip)
    (.seq (.ite (.tru (.cmp .ne (.bi .len (.cons (.var 0) .nil)) (.bi .len (.cons (.var 1) .nil))))
      (.seq (.ret (.cst (.bl false)))
      .skip)
      .skip)
    (.seq (.ret (.cmp .eq (.lc false (.nm 2) (.rng (.cons (.bi .len (.cons (.var 1) .nil)) .nil)) (.not (.tru (.call "_law_alike" (.cons (.ix (.var 0) (.var 2)) (.cons (.ix (.var 1) (.var 2)) .nil))))) (.var 2) [2]) (.lst false .nil)))
    .skip)))
    .skip)
  (.seq (.ite (.tru (.isi (.var 1) [.bt .dict]))
    (.seq (.ite (.or (.not (.tru (.isi (.var 0) [.bt .dict]))) (.tru (.cmp .ne (.bi (.list false) (.cons (.var 0) .nil)) (.bi (.list false) (.cons (.var 1) .nil)))))
      (.seq (.ret (.cst (.bl false)))
      .skip)
      .skip)
    (.seq (.ret (.cmp .eq (.lc false (.nm 3) (.seq (.var 1)) (.not (.tru (.call "_law_alike" (.cons (.ix (.var 0) (.var 3)) (.cons (.ix (.var 1) (.var 3)) .nil))))) (.var 3) [3]) (.lst false .nil)))
    .skip))
    .skip)
  (.seq (.ite (.or (.tru (.cmp .is_ (.var 1) (.cst .non))) (.tru (.isi (.var 1) [.bt .str])))
    (.seq (.ret (.and_ (.cmp .eq (.var 0) (.var 1)) (.cmp .eq (.isi (.var 0) [.bt .str]) (.isi (.var 1) [.bt .str]))))
    .skip)
    .skip)
  (.seq (.ret (.and_ (.isi (.var 0) [.bt .int]) (.and_ (.cmp .eq (.isi (.var 0) [.bt .bool]) (.isi (.var 1) [.bt .bool])) (.cmp .eq (.var 0) (.var 1)))))
  .skip))))
def d__law_alike : FnD := ⟨"", "_law_alike", ["found", "due"], ["found", "due", "k", "key"], top 35, true, false, false, ir__law_alike⟩
def p__law_alike : FnP := ⟨d__law_alike, false, "_law_alike", []⟩
theorem t__law_alike : FnT pg p__law_alike := ⟨by decide +kernel, by kernel_rfl, fun K fa fd F => FunD.bindsN F fun _ _ _ _ _ _ us hl => match us, hl with | [_, _], _ => rfl⟩
def ir__law_refused : IS := (.seq (.asg (.nm 2) (.call "_law_pick" (.cons (.var 0) (.cons (.lst false (.cons (.cst .non) (.cons (.var 1) (.cons (.cst (.int 0)) (.cons (.cst (.str "x")) .nil))))) .nil))))
  (.seq (.asg (.nm 3) (.lst false (.cons (.heard (.call "sides" (.cons (.var 2) .nil))) (.cons (.heard (.call "odd_ring" (.cons (.var 2) .nil))) (.cons (.heard (.call "are_sides" (.cons (.var 2) (.cons (.tup .nil) .nil)))) (.cons (.heard (.call "is_odd_ring" (.cons (.var 2) (.cons (.tup .nil) .nil)))) .nil))))))
  (.seq (.ret (.call "_law_alike" (.cons (.var 3) (.cons (.bin .mul false (.lst false (.cons (.tup (.cons (.cst (.str "bad")) (.cons (.cst (.str "cave")) (.cons (.cst (.bl true)) .nil)))) .nil)) (.cst (.int 4))) .nil))))
  .skip)))
def d__law_refused : FnD := ⟨"", "_law_refused", ["row", "passages"], ["row", "passages", "bad", "heard"], top 36, true, false, true, ir__law_refused⟩
def p__law_refused : FnP := ⟨d__law_refused, false, "_law_refused", []⟩
theorem t__law_refused : FnT pg p__law_refused := ⟨by decide +kernel, by kernel_rfl, fun K fa fd F => FunD.bindsN F fun _ _ _ _ _ _ us hl => match us, hl with | [_, _], _ => rfl⟩
def ir_law_b1 : IS := (.seq (.asg (.nm 10) (.call "_law_bent_row" (.cons (.var 1) (.cons (.ite (.tru (.cmp .isnt (.var 8) (.cst .non))) (.var 8) (.bin .mul false (.tup (.cons (.cst (.int 0)) (.cons (.cst (.int 1)) .nil))) (.cst (.int 4)))) (.cons (.cst (.int 2)) .nil)))))
    (.seq (.ite (.not (.tru (.call "_law_alike" (.cons (.call "are_sides" (.cons (.var 4) (.cons (.var 10) .nil))) (.cons (.call "_law_are_sides" (.cons (.var 2) (.cons (.var 3) (.cons (.var 10) .nil)))) .nil)))))
      (.seq (.ret (.cst (.bl false)))
      .skip)
      .skip)
    (.seq (.asg (.nm 10) (.tup (.cons (.call "_law_taken" (.cons (.var 1) (.cons (.bin .add false (.var 2) (.cst (.int 1))) .nil))) (.cons (.bi .tuple (.cons (.lc false (.nm 11) (.rng (.cons (.bin .add false (.cst (.int 1)) (.bin .mul false (.cst (.int 2)) (.call "_law_taken" (.cons (.var 1) (.cons (.cst (.int 3)) .nil))))) .nil)) .yes (.call "_law_taken" (.cons (.var 1) (.cons (.bin .add false (.bi .len (.cons (.var 3) .nil)) (.cst (.int 1))) .nil))) [11]) .nil)) .nil))))
    (.seq (.ite (.tru (.cmp .isnt (.var 9) (.cst .non)))
      (.seq (.asg (.nm 10) (.call "_law_pick" (.cons (.var 1) (.cons (.lst false (.cons (.var 10) (.cons (.tup (.cons (.ix (.var 9) (.cst (.int 0))) (.cons (.rev false (.ix (.var 9) (.cst (.int 1)))) .nil))) (.cons (.tup (.cons (.ix (.var 9) (.cst (.int 0))) (.cons (.bin .add false (.ix (.var 9) (.cst (.int 1))) (.ix (.var 9) (.cst (.int 1)))) .nil))) (.cons (.tup (.cons (.ix (.var 9) (.cst (.int 0))) (.cons (.sl false (.ix (.var 9) (.cst (.int 1))) (.some (.cst (.int 1))) .no) .nil))) (.cons (.tup (.cons (.bin .add false (.ix (.var 9) (.cst (.int 0))) (.cst (.int 1))) (.cons (.ix (.var 9) (.cst (.int 1))) .nil))) (.cons (.bi (.list false) (.cons (.var 9) .nil)) (.cons (.tup (.cons (.ix (.var 9) (.cst (.int 0))) (.cons (.bi (.list false) (.cons (.ix (.var 9) (.cst (.int 1))) .nil)) .nil))) .nil)))))))) .nil))))
      .skip)
      .skip)
    (.seq (.ite (.not (.tru (.call "_law_alike" (.cons (.call "is_odd_ring" (.cons (.var 4) (.cons (.var 10) .nil))) (.cons (.call "_law_is_odd_ring" (.cons (.var 2) (.cons (.var 3) (.cons (.var 10) .nil)))) .nil)))))
      (.seq (.ret (.cst (.bl false)))
      .skip)
      .skip)
    .skip)))))
def ir_law : IS := (.seq (.asg (.nm 1) (.lst true (.cons (.var 0) (.cons (.cst (.int 0)) (.cons (.cst (.int 4011016)) (.cons (.cst (.int 0)) .nil))))))
  (.seq (.asg (.nm 2) (.call "_law_rooms" (.cons (.var 1) (.cons (.call "_law_pick" (.cons (.var 1) (.cons (.lst false (.cons (.cst (.int 4)) (.cons (.cst (.int 9)) (.cons (.cst (.int 24)) .nil)))) .nil))) .nil))))
  (.seq (.asg (.nm 3) (.call "_law_passages" (.cons (.var 1) (.cons (.var 2) (.cons (.call "_law_pick" (.cons (.var 1) (.cons (.lst false (.cons (.cst (.int 6)) (.cons (.cst (.int 14)) (.cons (.cst (.int 30)) (.cons (.cst (.int 60)) .nil))))) .nil))) .nil)))))
  (.seq (.ite (.tru (.cmp .eq (.call "_law_taken" (.cons (.var 1) (.cons (.cst (.int 2)) .nil))) (.cst (.int 0))))
    (.seq (.asg (.nm 6) (.lc false (.nm 11) (.rng (.cons (.var 2) .nil)) .yes (.call "_law_taken" (.cons (.var 1) (.cons (.cst (.int 2)) .nil))) [11]))
    (.seq (.asg (.nm 7) (.call "_law_taken" (.cons (.var 1) (.cons (.cst (.int 2)) .nil))))
    (.seq (.asg (.nm 3) (.bi .tuple (.cons (.lc false (.tup [(.nm 11), (.nm 12)]) (.enm (.var 3)) (.or (.tru (.cmp .ne (.ix (.var 6) (.ix (.var 12) (.cst (.int 0)))) (.ix (.var 6) (.ix (.var 12) (.cst (.int 1)))))) (.tru (.cmp .lt (.var 11) (.var 7)))) (.var 12) [11, 12]) .nil)))
    .skip)))
    .skip)
  (.seq (.asg (.nm 4) (.mk "Cave" true (.cons (.var 2) (.cons (.var 3) .nil))))
  (.seq (.par [8, 9] (.cons (.call "sides" (.cons (.var 4) .nil)) (.cons (.call "odd_ring" (.cons (.var 4) .nil)) .nil)))
  (.seq (.ite (.tru (.cmp .eq (.cmp .is_ (.var 8) (.cst .non)) (.cmp .is_ (.var 9) (.cst .non))))
    (.seq (.ret (.cst (.bl false)))
    .skip)
    .skip)
  (.seq (.ite (.and (.tru (.cmp .isnt (.var 8) (.cst .non))) (.or (.not (.tru (.call "_law_are_sides" (.cons (.var 2) (.cons (.var 3) (.cons (.var 8) .nil)))))) (.tru (.cmp .isnt (.call "are_sides" (.cons (.var 4) (.cons (.var 8) .nil))) (.cst (.bl true))))))
    (.seq (.ret (.cst (.bl false)))
    .skip)
    .skip)
  (.seq (.ite (.and (.tru (.cmp .isnt (.var 9) (.cst .non))) (.or (.not (.tru (.call "_law_is_odd_ring" (.cons (.var 2) (.cons (.var 3) (.cons (.var 9) .nil)))))) (.tru (.cmp .isnt (.call "is_odd_ring" (.cons (.var 4) (.cons (.var 9) .nil))) (.cst (.bl true))))))
    (.seq (.ret (.cst (.bl false)))
    .skip)
    .skip)
  (.seq (.for_ (.nm 5) (.rng (.cons (.cst (.int 6)) .nil)) ir_law_b1)
  (.seq (.ret (.call "_law_refused" (.cons (.var 1) (.cons (.var 3) .nil))))
  .skip)))))))))))
def d_law : FnD := ⟨"", "law", ["script"], ["script", "row", "rooms", "passages", "cave", "turn", "due", "many", "value", "paper", "some", "k", "p"], top 37, true, false, false, ir_law⟩
def p_law : FnP := ⟨d_law, false, "law", []⟩
theorem t_law : FnT pg p_law := ⟨by decide +kernel, by kernel_rfl, fun K fa fd F => FunD.bindsN F fun _ _ _ _ _ _ us hl => match us, hl with | [_], _ => rfl⟩
def fp : List FnP := [p_is_number, p_check, p_is_passage, p_are_passages, p_CaveUU_initUU, p_Cave_rooms, p_Cave_passages, p_CaveUU_lenUU, p_is_cave, p_far_end, p_check_cave, p_is_trail, p_SidesUU_initUU, p_Sides_spread, p_Sides_path_from, p_sides, p_are_sides, p_odd_ring, p_is_odd_ring, p__law_taken, p__law_pick, p__law_rooms, p__law_passages, p__law_are_sides, p__law_is_path, p__law_is_odd_ring, p__law_bent_row, p__law_alike, p__law_refused, p_law]
theorem T : ∀ p ∈ fp, FnT pg p := by
  intro p hp
  simp only [fp, List.mem_cons, List.not_mem_nil, or_false] at hp
  rcases hp with rfl | rfl | rfl | rfl | rfl | rfl | rfl | rfl | rfl | rfl | rfl | rfl | rfl | rfl | rfl | rfl | rfl | rfl | rfl | rfl | rfl | rfl | rfl | rfl | rfl | rfl | rfl | rfl | rfl | rfl
  · exact t_is_number
  · exact t_check
  · exact t_is_passage
  · exact t_are_passages
  · exact t_CaveUU_initUU
  · exact t_Cave_rooms
  · exact t_Cave_passages
  · exact t_CaveUU_lenUU
  · exact t_is_cave
  · exact t_far_end
  · exact t_check_cave
  · exact t_is_trail
  · exact t_SidesUU_initUU
  · exact t_Sides_spread
  · exact t_Sides_path_from
  · exact t_sides
  · exact t_are_sides
  · exact t_odd_ring
  · exact t_is_odd_ring
  · exact t__law_taken
  · exact t__law_pick
  · exact t__law_rooms
  · exact t__law_passages
  · exact t__law_are_sides
  · exact t__law_is_path
  · exact t__law_is_odd_ring
  · exact t__law_bent_row
  · exact t__law_alike
  · exact t__law_refused
  · exact t_law
def d_heard : FnD := ⟨"", "_law_heard", ["ask"], ["ask", "e"], top 34, true, false, false, .skip⟩
def p_heard : FnP := ⟨d_heard, false, "_law_heard", []⟩
theorem t_heard : HrdT p_heard := ⟨rfl, rfl, rfl, rfl, ⟨fun i => (posSs 12 (stBody (top 34))).getD i ⟨0, 0, 0, 0⟩, by kernel_rfl⟩, by decide +kernel, ⟨rfl, rfl, rfl, rfl, rfl, rfl, rfl⟩, fun K fa fd F => FunD.bindsN F fun _ _ _ _ _ _ us hl => match us, hl with | [_], _ => rfl⟩
def x_BadArgument : ExP := ⟨"BadArgument", ["name"], ["name"], "BadArgument.__init__", sub 2 0⟩
theorem tx_BadArgument : XT x_BadArgument := ⟨rfl, rfl, rfl, by decide +kernel, rfl, rfl, by decide +kernel, ⟨_, rfl, rfl⟩, ⟨_, _, rfl, ⟨_, rfl, by decide +kernel, by decide +kernel⟩, rfl⟩, fun fd h1 h2 h3 s us hl => by
    cases fd
    cases h1
    cases h2
    cases h3
    match us, hl with
    | [_, _], _ => exact .of_eq rfl, by decide +kernel, by decide +kernel, rfl, by decide +kernel, by decide +kernel⟩
def x_NoPlan : ExP := ⟨"NoPlan", ["ring"], ["ring"], "NoPlan.__init__", sub 3 0⟩
theorem tx_NoPlan : XT x_NoPlan := ⟨rfl, rfl, rfl, by decide +kernel, rfl, rfl, by decide +kernel, ⟨_, rfl, rfl⟩, ⟨_, _, rfl, ⟨_, rfl, by decide +kernel, by decide +kernel⟩, rfl⟩, fun fd h1 h2 h3 s us hl => by
    cases fd
    cases h1
    cases h2
    cases h3
    match us, hl with
    | [_, _], _ => exact .of_eq rfl, by decide +kernel, by decide +kernel, rfl, by decide +kernel, by decide +kernel⟩
def xs : List ExP := [x_BadArgument, x_NoPlan]
theorem XTs : ∀ p ∈ xs, XT p := by
  intro p hp
  simp only [xs, List.mem_cons, List.not_mem_nil, or_false] at hp
  rcases hp with rfl | rfl
  · exact tx_BadArgument
  · exact tx_NoPlan
def tf : Tf := ⟨[fun K => p_are_passages.adr K, fun K => p_are_sides.adr K], [(fun K => p__law_refused.adr K, "_law_refused.<locals>.<lambda>")]⟩
theorem hgen : ∀ p ∈ fp, p.d.gen = true → (fun K => p.adr K) ∈ tf.gen := by
  intro p hp hg
  simp only [fp, List.mem_cons, List.not_mem_nil, or_false] at hp
  rcases hp with rfl | rfl | rfl | rfl | rfl | rfl | rfl | rfl | rfl | rfl | rfl | rfl | rfl | rfl | rfl | rfl | rfl | rfl | rfl | rfl | rfl | rfl | rfl | rfl | rfl | rfl | rfl | rfl | rfl | rfl
  · cases hg
  · cases hg
  · cases hg
  · exact .head _
  · cases hg
  · cases hg
  · cases hg
  · cases hg
  · cases hg
  · cases hg
  · cases hg
  · cases hg
  · cases hg
  · cases hg
  · cases hg
  · cases hg
  · exact .tail _ (.head _)
  · cases hg
  · cases hg
  · cases hg
  · cases hg
  · cases hg
  · cases hg
  · cases hg
  · cases hg
  · cases hg
  · cases hg
  · cases hg
  · cases hg
  · cases hg
theorem hlam : ∀ p ∈ fp, p.d.lam = true → ((fun K => p.adr K), p.qual ++ ".<locals>." ++ "<lambda>") ∈ tf.lam := by
  intro p hp hg
  simp only [fp, List.mem_cons, List.not_mem_nil, or_false] at hp
  rcases hp with rfl | rfl | rfl | rfl | rfl | rfl | rfl | rfl | rfl | rfl | rfl | rfl | rfl | rfl | rfl | rfl | rfl | rfl | rfl | rfl | rfl | rfl | rfl | rfl | rfl | rfl | rfl | rfl | rfl | rfl
  · cases hg
  · cases hg
  · cases hg
  · cases hg
  · cases hg
  · cases hg
  · cases hg
  · cases hg
  · cases hg
  · cases hg
  · cases hg
  · cases hg
  · cases hg
  · cases hg
  · cases hg
  · cases hg
  · cases hg
  · cases hg
  · cases hg
  · cases hg
  · cases hg
  · cases hg
  · cases hg
  · cases hg
  · cases hg
  · cases hg
  · cases hg
  · cases hg
  · exact .head _
  · cases hg
def ex (K : PySem.W.Frag) : Bool := tf.exB K && hxB K
def names0 : List PySem.Str := ["CaveError", "BadArgument", "NoPlan", "is_number", "check", "MOST_ROOMS", "MOST_PASSAGES", "MOST_LENGTH", "MOST_SILL", "is_passage", "are_passages", "Cave", "is_cave", "far_end", "check_cave", "is_trail", "Sides", "sides", "are_sides", "odd_ring", "is_odd_ring", "_law_taken", "_law_pick", "_law_rooms", "_law_passages", "_law_are_sides", "_law_is_path", "_law_is_odd_ring", "_law_bent_row", "_law_heard", "_law_alike", "_law_refused"]
def names : List PySem.Str := names0
def fs : List FnD := fp.map (·.d)
theorem un_is_number {n k : Nat} {a0 a1 a2 : D} {μ : Mu} : evCall pg n fs (k+1) "" "is_number" [a0, a1, a2] μ = fzR μ (retD (evS (evK pg n fs k) ir_is_number [some a0, some a1, some a2] μ)) := by
  rw [call_eq (d := d_is_number) (by kernel_rfl)]
  exact run_eq rfl rfl
theorem un_check {n k : Nat} {a0 a1 : D} {μ : Mu} : evCall pg n fs (k+1) "" "check" [a0, a1] μ = fzR μ (retD (evS (evK pg n fs k) ir_check [some a0, some a1] μ)) := by
  rw [call_eq (d := d_check) (by kernel_rfl)]
  exact run_eq rfl rfl
theorem un_is_passage {n k : Nat} {a0 a1 : D} {μ : Mu} : evCall pg n fs (k+1) "" "is_passage" [a0, a1] μ = fzR μ (retD (evS (evK pg n fs k) ir_is_passage [some a0, some a1, none, none, none, none] μ)) := by
  rw [call_eq (d := d_is_passage) (by kernel_rfl)]
  exact run_eq rfl rfl
theorem un_are_passages {n k : Nat} {a0 a1 : D} {μ : Mu} : evCall pg n fs (k+1) "" "are_passages" [a0, a1] μ = fzR μ (retD (evS (evK pg n fs k) ir_are_passages [some a0, some a1, none] μ)) := by
  rw [call_eq (d := d_are_passages) (by kernel_rfl)]
  exact run_eq rfl rfl
theorem un_CaveUU_initUU {n k : Nat} {a0 a1 a2 : D} {μ : Mu} : evCall pg n fs (k+1) "Cave" "__init__" [a0, a1, a2] μ = (retD (evS (evK pg n fs k) ir_CaveUU_initUU [some a0, some a1, some a2] μ)) := by
  rw [call_eq (d := d_CaveUU_initUU) (by kernel_rfl)]
  exact run_eq' rfl rfl
theorem un_Cave_rooms {n k : Nat} {a0 : D} {μ : Mu} : evCall pg n fs (k+1) "Cave" "rooms" [a0] μ = fzR μ (retD (evS (evK pg n fs k) ir_Cave_rooms [some a0] μ)) := by
  rw [call_eq (d := d_Cave_rooms) (by kernel_rfl)]
  exact run_eq rfl rfl
theorem un_Cave_passages {n k : Nat} {a0 : D} {μ : Mu} : evCall pg n fs (k+1) "Cave" "passages" [a0] μ = fzR μ (retD (evS (evK pg n fs k) ir_Cave_passages [some a0] μ)) := by
  rw [call_eq (d := d_Cave_passages) (by kernel_rfl)]
  exact run_eq rfl rfl
theorem un_CaveUU_lenUU {n k : Nat} {a0 : D} {μ : Mu} : evCall pg n fs (k+1) "Cave" "__len__" [a0] μ = fzR μ (retD (evS (evK pg n fs k) ir_CaveUU_lenUU [some a0] μ)) := by
  rw [call_eq (d := d_CaveUU_lenUU) (by kernel_rfl)]
  exact run_eq rfl rfl
theorem un_is_cave {n k : Nat} {a0 : D} {μ : Mu} : evCall pg n fs (k+1) "" "is_cave" [a0] μ = fzR μ (retD (evS (evK pg n fs k) ir_is_cave [some a0] μ)) := by
  rw [call_eq (d := d_is_cave) (by kernel_rfl)]
  exact run_eq rfl rfl
theorem un_far_end {n k : Nat} {a0 a1 : D} {μ : Mu} : evCall pg n fs (k+1) "" "far_end" [a0, a1] μ = fzR μ (retD (evS (evK pg n fs k) ir_far_end [some a0, some a1] μ)) := by
  rw [call_eq (d := d_far_end) (by kernel_rfl)]
  exact run_eq rfl rfl
theorem un_check_cave {n k : Nat} {a0 : D} {μ : Mu} : evCall pg n fs (k+1) "" "check_cave" [a0] μ = fzR μ (retD (evS (evK pg n fs k) ir_check_cave [some a0] μ)) := by
  rw [call_eq (d := d_check_cave) (by kernel_rfl)]
  exact run_eq rfl rfl
theorem un_is_trail {n k : Nat} {a0 a1 : D} {μ : Mu} : evCall pg n fs (k+1) "" "is_trail" [a0, a1] μ = fzR μ (retD (evS (evK pg n fs k) ir_is_trail [some a0, some a1, none, none] μ)) := by
  rw [call_eq (d := d_is_trail) (by kernel_rfl)]
  exact run_eq rfl rfl
theorem un_SidesUU_initUU {n k : Nat} {a0 a1 : D} {μ : Mu} : evCall pg n fs (k+1) "Sides" "__init__" [a0, a1] μ = (retD (evS (evK pg n fs k) ir_SidesUU_initUU [some a0, some a1, none] μ)) := by
  rw [call_eq (d := d_SidesUU_initUU) (by kernel_rfl)]
  exact run_eq' rfl rfl
theorem un_Sides_spread {n k : Nat} {a0 a1 : D} {μ : Mu} : evCall pg n fs (k+1) "Sides" "spread" [a0, a1] μ = (retD (evS (evK pg n fs k) ir_Sides_spread [some a0, some a1, none, none, none, none, none, none] μ)) := by
  rw [call_eq (d := d_Sides_spread) (by kernel_rfl)]
  exact run_eq' rfl rfl
theorem un_Sides_path_from {n k : Nat} {a0 a1 : D} {μ : Mu} : evCall pg n fs (k+1) "Sides" "path_from" [a0, a1] μ = fzR μ (retD (evS (evK pg n fs k) ir_Sides_path_from [some a0, some a1, none, none] μ)) := by
  rw [call_eq (d := d_Sides_path_from) (by kernel_rfl)]
  exact run_eq rfl rfl
theorem un_sides {n k : Nat} {a0 : D} {μ : Mu} : evCall pg n fs (k+1) "" "sides" [a0] μ = fzR μ (retD (evS (evK pg n fs k) ir_sides [some a0, none] μ)) := by
  rw [call_eq (d := d_sides) (by kernel_rfl)]
  exact run_eq rfl rfl
theorem un_are_sides {n k : Nat} {a0 a1 : D} {μ : Mu} : evCall pg n fs (k+1) "" "are_sides" [a0, a1] μ = fzR μ (retD (evS (evK pg n fs k) ir_are_sides [some a0, some a1, none, none] μ)) := by
  rw [call_eq (d := d_are_sides) (by kernel_rfl)]
  exact run_eq rfl rfl
theorem un_odd_ring {n k : Nat} {a0 : D} {μ : Mu} : evCall pg n fs (k+1) "" "odd_ring" [a0] μ = fzR μ (retD (evS (evK pg n fs k) ir_odd_ring [some a0, none, none, none, none, none, none] μ)) := by
  rw [call_eq (d := d_odd_ring) (by kernel_rfl)]
  exact run_eq rfl rfl
theorem un_is_odd_ring {n k : Nat} {a0 a1 : D} {μ : Mu} : evCall pg n fs (k+1) "" "is_odd_ring" [a0, a1] μ = fzR μ (retD (evS (evK pg n fs k) ir_is_odd_ring [some a0, some a1, none, none] μ)) := by
  rw [call_eq (d := d_is_odd_ring) (by kernel_rfl)]
  exact run_eq rfl rfl
theorem un__law_taken {n k : Nat} {a0 a1 : D} {μ : Mu} : evCall pg n fs (k+1) "" "_law_taken" [a0, a1] μ = fzR μ (retD (evS (evK pg n fs k) ir__law_taken [some a0, some a1, none, none] μ)) := by
  rw [call_eq (d := d__law_taken) (by kernel_rfl)]
  exact run_eq rfl rfl
theorem un__law_pick {n k : Nat} {a0 a1 : D} {μ : Mu} : evCall pg n fs (k+1) "" "_law_pick" [a0, a1] μ = fzR μ (retD (evS (evK pg n fs k) ir__law_pick [some a0, some a1] μ)) := by
  rw [call_eq (d := d__law_pick) (by kernel_rfl)]
  exact run_eq rfl rfl
theorem un__law_rooms {n k : Nat} {a0 a1 : D} {μ : Mu} : evCall pg n fs (k+1) "" "_law_rooms" [a0, a1] μ = fzR μ (retD (evS (evK pg n fs k) ir__law_rooms [some a0, some a1] μ)) := by
  rw [call_eq (d := d__law_rooms) (by kernel_rfl)]
  exact run_eq rfl rfl
theorem un__law_passages {n k : Nat} {a0 a1 a2 : D} {μ : Mu} : evCall pg n fs (k+1) "" "_law_passages" [a0, a1, a2] μ = fzR μ (retD (evS (evK pg n fs k) ir__law_passages [some a0, some a1, some a2, none, none, none, none, none, none, none] μ)) := by
  rw [call_eq (d := d__law_passages) (by kernel_rfl)]
  exact run_eq rfl rfl
theorem un__law_are_sides {n k : Nat} {a0 a1 a2 : D} {μ : Mu} : evCall pg n fs (k+1) "" "_law_are_sides" [a0, a1, a2] μ = fzR μ (retD (evS (evK pg n fs k) ir__law_are_sides [some a0, some a1, some a2, none, none] μ)) := by
  rw [call_eq (d := d__law_are_sides) (by kernel_rfl)]
  exact run_eq rfl rfl
theorem un__law_is_path {n k : Nat} {a0 a1 a2 a3 : D} {μ : Mu} : evCall pg n fs (k+1) "" "_law_is_path" [a0, a1, a2, a3] μ = fzR μ (retD (evS (evK pg n fs k) ir__law_is_path [some a0, some a1, some a2, some a3, none, none, none, none, none, none] μ)) := by
  rw [call_eq (d := d__law_is_path) (by kernel_rfl)]
  exact run_eq rfl rfl
theorem un__law_is_odd_ring {n k : Nat} {a0 a1 a2 : D} {μ : Mu} : evCall pg n fs (k+1) "" "_law_is_odd_ring" [a0, a1, a2] μ = fzR μ (retD (evS (evK pg n fs k) ir__law_is_odd_ring [some a0, some a1, some a2] μ)) := by
  rw [call_eq (d := d__law_is_odd_ring) (by kernel_rfl)]
  exact run_eq rfl rfl
theorem un__law_bent_row {n k : Nat} {a0 a1 a2 : D} {μ : Mu} : evCall pg n fs (k+1) "" "_law_bent_row" [a0, a1, a2] μ = fzR μ (retD (evS (evK pg n fs k) ir__law_bent_row [some a0, some a1, some a2, none, none] μ)) := by
  rw [call_eq (d := d__law_bent_row) (by kernel_rfl)]
  exact run_eq rfl rfl
theorem un__law_alike {n k : Nat} {a0 a1 : D} {μ : Mu} : evCall pg n fs (k+1) "" "_law_alike" [a0, a1] μ = fzR μ (retD (evS (evK pg n fs k) ir__law_alike [some a0, some a1, none, none] μ)) := by
  rw [call_eq (d := d__law_alike) (by kernel_rfl)]
  exact run_eq rfl rfl
theorem un__law_refused {n k : Nat} {a0 a1 : D} {μ : Mu} : evCall pg n fs (k+1) "" "_law_refused" [a0, a1] μ = fzR μ (retD (evS (evK pg n fs k) ir__law_refused [some a0, some a1, none, none] μ)) := by
  rw [call_eq (d := d__law_refused) (by kernel_rfl)]
  exact run_eq rfl rfl
theorem un_law {n k : Nat} {a0 : D} {μ : Mu} : evCall pg n fs (k+1) "" "law" [a0] μ = fzR μ (retD (evS (evK pg n fs k) ir_law [some a0, none, none, none, none, none, none, none, none, none, none, none, none] μ)) := by
  rw [call_eq (d := d_law) (by kernel_rfl)]
  exact run_eq rfl rfl
end LK

set_option Elab.async false
set_option linter.all false
set_option maxRecDepth 100000
namespace LK
open M PySem PySem.Spec L2
local macro_rules | `(tactic| walk_at "ev") => `(tactic| simp -implicitDefEqProofs only [e_var, e_cst, e_bin, e_neg, e_cmp, e_chain, e_not, e_and, e_or, e_ite, e_tup, e_lst, e_ix, e_sl, e_rev, e_att, e_call, e_mk, e_meth, e_bi, e_mt, e_isi, e_lc, e_gn, c_yes, c_tru, c_not, c_and, c_or, a_nil, a_cons, i_seq, i_rng, i_enm, seqI_some, enmI_some, o_no, o_some, kS_nx, kS_rt, kS_ct, kS_bk, kM_some, s_skip, s_seq, s_ex, s_asg, s_par, s_setx, s_setf, s_ite, s_whil, s_for, s_ret, s_brk, s_cnt, s_raise, retD_ok, retD_nx, retD_exc, bd_ok, bd_some, bd_exc, bd_bd, cIf_t, cIf_f, decide_true, decide_false, op_some, kI_int, kB_bl, varD_some, Option.map_some, Option.bind_some, b_add, b_sub, b_tup, b_lst, q_lt, q_le, q_gt, q_ge, q_eqI, q_neI, q_eqB, q_neB, q_isN, q_isI, q_isT, q_isL, q_isS, q_isBl, q_isO, q_isnN, q_isnI, q_isnT, q_isnL, q_isB, q_isnB, q_inT2, q_ninT2, t_bl, t_non, t_tup, t_lst, t_int, at0, at1, at2, at3, x_tup, x_lst, x_scr, x_adr, ixC_lst, x_set, puC_some, i_int, i_lenT, i_lenL, i_lenS, r_tup, r_lst, rl_lst, slT_, rv_tup, rv_lst, cut_2, List.getElem?_cons_zero, List.getElem?_cons_succ, List.set_cons_zero, List.set_cons_succ, tgD, tgDs, if_true, if_false, Bool.false_eq_true, Bool.not_true, Bool.not_false, Bool.and_true, Bool.true_and, Bool.and_false, Bool.false_and, Bool.or_true, Bool.or_false, Bool.true_or, Bool.false_or, evK_call, evK_W, gA0, gA, sA0, sA, List.cons_append, List.nil_append, List.length_cons, List.length_append, List.length_nil, List.append_assoc, Nat.add_zero, Nat.zero_add, m_app, wipeD, kL_some, lstC_lst, rl_adr, r_adr, t_adr, lenA_lst, i_lenA, appC_lst, dNew_F, dNew_T, big, Nat.reduceAdd, Nat.reduceSub, Nat.reduceLeDiff, Nat.reduceMul, Nat.le_refl, isi_non_int, isi_non_bool, isi_non_tuple, isi_non_list, isi_non_str, isi_non_dict, isi_non_tl, isi_bl_int, isi_bl_bool, isi_bl_tuple, isi_bl_list, isi_bl_str, isi_bl_dict, isi_bl_tl, isi_int_int, isi_int_bool, isi_int_tuple, isi_int_list, isi_int_str, isi_int_dict, isi_int_tl, isi_str_int, isi_str_bool, isi_str_tuple, isi_str_list, isi_str_str, isi_str_dict, isi_str_tl, isi_tup_int, isi_tup_bool, isi_tup_tuple, isi_tup_list, isi_tup_str, isi_tup_dict, isi_tup_tl, isi_lst_int, isi_lst_bool, isi_lst_tuple, isi_lst_list, isi_lst_str, isi_lst_dict, isi_lst_tl, isi_scr_int, isi_scr_bool, isi_scr_tuple, isi_scr_list, isi_scr_str, isi_scr_dict, isi_scr_tl, att_adr, sf_adr, me_adr, noX_ok', Int.cast_ofNat_Int, Int.reduceEq, Int.reduceLT, Int.reduceLE, Int.reduceAdd, Int.reduceSub, Int.reduceMul, Int.reduceNeg, eq_self, beq_self_eq_true, reduceCtorEq, kT_some, i_tup', kLs_some, i_list', lk_tup, lk_lst, lk_scr, kF_nx, kF_ct, kF_bk, kF_rt, fd_nil, kH_ok, kH_exc, e_heard', heardD_bad, setMany])
/-! ### the script's row -/
structure Row where
  ns : List Int
  i : Int
  s : Int
  c : Int
structure Row.ok (r : Row) : Prop where
  i : 0 ≤ r.i
  s : 0 ≤ r.s
  s2 : r.s < 2147483647
  c : 0 ≤ r.c
def Row.cell (r : Row) : Cell := .lst [.scr r.ns, .int r.i, .int r.s, .int r.c]
theorem rw0 {r : Row} : ixC (some r.cell) 0 = some (.scr r.ns) := at0
theorem rw1 {r : Row} : ixC (some r.cell) 1 = some (.int r.i) := at1
theorem rw2 {r : Row} : ixC (some r.cell) 2 = some (.int r.s) := at2
theorem rw3 {r : Row} : ixC (some r.cell) 3 = some (.int r.c) := at3
theorem rs1 {r : Row} {v : Int} : stC (some r.cell) 1 (.int v) = some { r with i := v }.cell := rfl
theorem rs2 {r : Row} {v : Int} : stC (some r.cell) 2 (.int v) = some { r with s := v }.cell := rfl
theorem rs3 {r : Row} {v : Int} : stC (some r.cell) 3 (.int v) = some { r with c := v }.cell := rfl
local macro_rules | `(tactic| walk_at "evr") => `(tactic| simp -implicitDefEqProofs only [e_var, e_cst, e_bin, e_neg, e_cmp, e_chain, e_not, e_and, e_or, e_ite, e_tup, e_lst, e_ix, e_sl, e_rev, e_att, e_call, e_mk, e_meth, e_bi, e_mt, e_isi, e_lc, e_gn, c_yes, c_tru, c_not, c_and, c_or, a_nil, a_cons, i_seq, i_rng, i_enm, seqI_some, enmI_some, o_no, o_some, kS_nx, kS_rt, kS_ct, kS_bk, kM_some, s_skip, s_seq, s_ex, s_asg, s_par, s_setx, s_setf, s_ite, s_whil, s_for, s_ret, s_brk, s_cnt, s_raise, retD_ok, retD_nx, retD_exc, bd_ok, bd_some, bd_exc, bd_bd, cIf_t, cIf_f, decide_true, decide_false, op_some, kI_int, kB_bl, varD_some, Option.map_some, Option.bind_some, b_add, b_sub, b_tup, b_lst, q_lt, q_le, q_gt, q_ge, q_eqI, q_neI, q_eqB, q_neB, q_isN, q_isI, q_isT, q_isL, q_isS, q_isBl, q_isO, q_isnN, q_isnI, q_isnT, q_isnL, q_isB, q_isnB, q_inT2, q_ninT2, t_bl, t_non, t_tup, t_lst, t_int, at0, at1, at2, at3, x_tup, x_lst, x_scr, x_adr, ixC_lst, x_set, puC_some, i_int, i_lenT, i_lenL, i_lenS, r_tup, r_lst, rl_lst, slT_, rv_tup, rv_lst, cut_2, List.getElem?_cons_zero, List.getElem?_cons_succ, List.set_cons_zero, List.set_cons_succ, tgD, tgDs, if_true, if_false, Bool.false_eq_true, Bool.not_true, Bool.not_false, Bool.and_true, Bool.true_and, Bool.and_false, Bool.false_and, Bool.or_true, Bool.or_false, Bool.true_or, Bool.false_or, evK_call, evK_W, gA0, gA, sA0, sA, List.cons_append, List.nil_append, List.length_cons, List.length_append, List.length_nil, List.append_assoc, Nat.add_zero, Nat.zero_add, m_app, wipeD, kL_some, lstC_lst, rl_adr, r_adr, t_adr, lenA_lst, i_lenA, appC_lst, dNew_F, dNew_T, big, Nat.reduceAdd, Nat.reduceSub, Nat.reduceLeDiff, Nat.reduceMul, Nat.le_refl, isi_non_int, isi_non_bool, isi_non_tuple, isi_non_list, isi_non_str, isi_non_dict, isi_non_tl, isi_bl_int, isi_bl_bool, isi_bl_tuple, isi_bl_list, isi_bl_str, isi_bl_dict, isi_bl_tl, isi_int_int, isi_int_bool, isi_int_tuple, isi_int_list, isi_int_str, isi_int_dict, isi_int_tl, isi_str_int, isi_str_bool, isi_str_tuple, isi_str_list, isi_str_str, isi_str_dict, isi_str_tl, isi_tup_int, isi_tup_bool, isi_tup_tuple, isi_tup_list, isi_tup_str, isi_tup_dict, isi_tup_tl, isi_lst_int, isi_lst_bool, isi_lst_tuple, isi_lst_list, isi_lst_str, isi_lst_dict, isi_lst_tl, isi_scr_int, isi_scr_bool, isi_scr_tuple, isi_scr_list, isi_scr_str, isi_scr_dict, isi_scr_tl, att_adr, sf_adr, me_adr, noX_ok', Int.cast_ofNat_Int, Int.reduceEq, Int.reduceLT, Int.reduceLE, Int.reduceAdd, Int.reduceSub, Int.reduceMul, Int.reduceNeg, eq_self, beq_self_eq_true, reduceCtorEq, kT_some, i_tup', kLs_some, i_list', lk_tup, lk_lst, lk_scr, kF_nx, kF_ct, kF_bk, kF_rt, fd_nil, kH_ok, kH_exc, e_heard', heardD_bad, setMany, rw0, rw1, rw2, rw3, rs1, rs2, rs3])
local macro_rules | `(tactic| walk_at "st") => `(tactic| simp -implicitDefEqProofs only [startD, Nat.reduceAdd, Nat.reduceSub, List.replicate_zero, List.replicate_succ, List.length_cons, List.length_nil, List.map_cons, List.map_nil, List.cons_append, List.nil_append])
/-! ### passages -/
structure Pa where
  a : Nat
  b : Nat
  l : Int
  s : Int
def Pa.d (p : Pa) : D := .tup [.int p.a, .int p.b, .int p.l, .int p.s]
structure Pa.ok (R : Nat) (p : Pa) : Prop where
  a : p.a < R
  b : p.b < R
  ne : p.a ≠ p.b
  l : 1 ≤ p.l
  l2 : p.l ≤ 1000
  s : -100000 ≤ p.s
  s2 : p.s ≤ 100000
theorem fz_pa {k : Nat} {p : Pa} : Fz (k + 2) p.d := fz_tup (fun x hx => by
  simp only [List.mem_cons, List.not_mem_nil, or_false] at hx
  rcases hx with rfl | rfl | rfl | rfl <;> exact fz_int)
theorem rngD_length {lo : Int} : ∀ {n : Nat}, (rngD lo n).length = n
  | 0 => rfl
  | n + 1 => by unfold rngD; rw [List.length_cons, rngD_length]
section
variable {n k : Nat} {μ : Mu}
set_option maxHeartbeats 1000000
theorem fz_row {r r' : Row} {v : Int} : fzR (r.cell :: μ) (mOk (.int v) (r'.cell :: μ)) = mOk (.int v) (r'.cell :: μ) := by
  rw [fzR_ok (d' := .int v) (trimOk_cons rfl trimOk_self) rfl]
  simp
theorem taken {r : Row} {m : Int} (h : r.ok) (hm : 0 < m) (hm2 : m < 2^64) : ∃ (r' : Row) (v : Int), r'.ok ∧ 0 ≤ v ∧ v < m ∧ evCall pg n fs (k+1) "" "_law_taken" [.adr 0, .int m] (r.cell :: μ) = mOk (.int v) (r'.cell :: μ) := by
  have hd := okDiv_s hm hm2
  by_cases hc : 0 < r.c
  · refine ⟨{ r with c := r.c / m }, r.c % m, ⟨h.i, h.s, h.s2, Int.ediv_nonneg h.c (by omega)⟩, Int.emod_nonneg _ (by omega), Int.emod_lt_of_pos _ hm, ?_⟩
    rw [un__law_taken, ← fz_row]
    congr 1
    unfold ir__law_taken
    walk_at "evr"
    simp only [hc]
    walk_at "evr"
    rw [b_mod hm]
    walk_at "evr"
    rw [b_div hd]
    walk_at "evr"
  · by_cases hi : r.i < r.ns.length
    · have hi0 := h.i
      have hix : atI r.ns (r.i + 1 - 1) = some (r.ns.getD r.i.toNat 0) := by
        rw [show r.i + 1 - 1 = r.i by omega, atN hi0, List.getD_eq_getElem?_getD, List.getElem?_eq_getElem (by omega)]; rfl
      generalize hcell : r.ns.getD r.i.toNat 0 = z at hix
      refine ⟨{ r with i := r.i + 1, s := (r.s * 48271 + z + 11) % 2147483647, c := if 10 ^ 18 ≤ z then z / m else r.c }, z % m, ⟨by show 0 ≤ r.i + 1; omega, Int.emod_nonneg _ (by omega), Int.emod_lt_of_pos _ (by omega), ?_⟩, Int.emod_nonneg _ (by omega), Int.emod_lt_of_pos _ hm, ?_⟩
      · show 0 ≤ if 10 ^ 18 ≤ z then z / m else r.c
        split
        · exact Int.ediv_nonneg (by omega) (by omega)
        · exact h.c
      · rw [un__law_taken, ← fz_row]
        congr 1
        unfold ir__law_taken
        walk_at "evr"
        simp only [hc]
        walk_at "evr"
        have h1 : ¬ ((r.ns.length : Int) < r.i + 1) := by omega
        simp only [h1]
        walk_at "evr"
        simp only [hix]
        walk_at "evr"
        rw [b_mul (okMul_r (by decide))]
        walk_at "evr"
        rw [b_mod (by decide)]
        walk_at "evr"
        rw [b_pow (by decide)]
        walk_at "evr"
        by_cases hz : (10 : Int) ^ (18 : Int).toNat ≤ z
        · have hz' : (10 : Int) ^ 18 ≤ z := hz
          simp only [hz, hz', if_true]
          walk_at "evr"
          rw [b_div hd]
          walk_at "evr"
          rw [b_mod hm]
          walk_at "evr"
        · have hz' : ¬ (10 : Int) ^ 18 ≤ z := hz
          simp only [hz, hz', if_false]
          walk_at "evr"
          rw [b_mod hm]
          walk_at "evr"
    · refine ⟨{ r with i := r.i + 1, s := (r.s * 48271 + 11) % 2147483647 }, ((r.s * 48271 + 11) % 2147483647) / 7 % m, ⟨by have := h.i; show 0 ≤ r.i + 1; omega, Int.emod_nonneg _ (by omega), Int.emod_lt_of_pos _ (by omega), h.c⟩, Int.emod_nonneg _ (by omega), Int.emod_lt_of_pos _ hm, ?_⟩
      rw [un__law_taken, ← fz_row]
      congr 1
      unfold ir__law_taken
      walk_at "evr"
      simp only [hc]
      walk_at "evr"
      have h1 : (r.ns.length : Int) < r.i + 1 := by omega
      simp only [h1]
      walk_at "evr"
      rw [b_mul (okMul_r (by decide))]
      walk_at "evr"
      rw [b_mod (by decide)]
      walk_at "evr"
      rw [b_div (by decide)]
      walk_at "evr"
      rw [b_mod hm]
      walk_at "evr"
end
theorem fz_rowD {μ : Mu} {r r' : Row} {d : D} (h : Fz 16 d) : fzR (r.cell :: μ) (mOk d (r'.cell :: μ)) = mOk d (r'.cell :: μ) := by
  rw [fzR_ok (d' := d) (trimOk_cons rfl trimOk_self) (h _ _)]
  simp
theorem fz_rowA {μ ν : Mu} {r r' : Row} {d : D} (h : Fz 16 d) : fzR (r.cell :: μ) (mOk d (r'.cell :: (μ ++ ν))) = mOk d (r'.cell :: μ) := by
  rw [fzR_ok (d' := d) (trimOk_cons rfl trimOk_app) (h _ _)]
  simp
section
variable {n k : Nat} {μ : Mu}
theorem pick {r : Row} {xs : List D} (h : r.ok) (hx : xs ≠ []) (hl : xs.length < 1000000) (hf : ∀ d ∈ xs, Fz 16 d) : ∃ (r' : Row) (d : D), r'.ok ∧ d ∈ xs ∧ evCall pg n fs (k+2) "" "_law_pick" [.adr 0, .lst xs] (r.cell :: μ) = mOk d (r'.cell :: μ) := by
  have hp : 0 < xs.length := List.length_pos_iff.mpr hx
  obtain ⟨r', v, h1, h2, h3, e⟩ := taken (n := n) (k := k) (μ := μ) (m := (xs.length : Int)) h (by omega) (by omega)
  obtain ⟨j, rfl⟩ := Int.eq_ofNat_of_zero_le h2
  have hj : j < xs.length := by omega
  refine ⟨r', xs[j], h1, List.getElem_mem hj, ?_⟩
  rw [un__law_pick, ← fz_rowD (r := r) (hf _ (List.getElem_mem hj))]
  congr 1
  unfold ir__law_pick
  walk_at "evr"
  rw [e]
  walk_at "evr"
  rw [atN', List.getElem?_eq_getElem hj]
  rfl
theorem rooms_ {r : Row} {m : Nat} (h : r.ok) (hm : 3 ≤ m) (hm2 : m ≤ 1000) : ∃ (r' : Row) (v : Nat), r'.ok ∧ v ≤ m ∧ evCall pg n fs (k+3) "" "_law_rooms" [.adr 0, .int m] (r.cell :: μ) = mOk (.int v) (r'.cell :: μ) := by
  obtain ⟨r1, v1, o1, a1, b1, e1⟩ := taken (n := n) (k := k + 1) (μ := μ) (m := 4) h (by omega) (by omega)
  obtain ⟨r2, v2, o2, a2, b2, e2⟩ := taken (n := n) (k := k + 1) (μ := μ) (m := (m : Int) + 1) o1 (by omega) (by omega)
  obtain ⟨r3, v3, o3, a3, b3, e3⟩ := taken (n := n) (k := k + 1) (μ := μ) (m := (m : Int) + 1) o2 (by omega) (by omega)
  obtain ⟨r4, d, o4, hd, e4⟩ := pick (n := n) (k := k) (μ := μ) (xs := [.int v1, .int m, .int v2, .int v3]) o3 (by simp) (by simp) (by
    intro d hd
    simp only [List.mem_cons, List.not_mem_nil, or_false] at hd
    rcases hd with rfl | rfl | rfl | rfl <;> exact fz_int)
  have : ∃ v : Nat, v ≤ m ∧ d = .int v := by
    simp only [List.mem_cons, List.not_mem_nil, or_false] at hd
    rcases hd with rfl | rfl | rfl | rfl
    · exact ⟨v1.toNat, by omega, by congr 1; omega⟩
    · exact ⟨m, Nat.le_refl _, rfl⟩
    · exact ⟨v2.toNat, by omega, by congr 1; omega⟩
    · exact ⟨v3.toNat, by omega, by congr 1; omega⟩
  obtain ⟨v, hv, rfl⟩ := this
  refine ⟨r4, v, o4, hv, ?_⟩
  rw [un__law_rooms, ← fz_row (r := r)]
  congr 1
  unfold ir__law_rooms
  walk_at "evr"
  rw [e1]
  walk_at "evr"
  rw [e2]
  walk_at "evr"
  rw [e3]
  walk_at "evr"
  rw [e4]
  walk_at "evr"
theorem passages_body {r : Row} {R m : Nat} {kind : Int} {ps : List Pa} {x1 x2 x3 x4 x5 : Option D} {d : D} (h : r.ok) (hR : 2 ≤ R) (hR2 : R ≤ 1000) (hps : ∀ p ∈ ps, p.ok R) (hl : ps.length ≤ 1000) :
    ∃ (r' : Row) (p : Pa) (y1 y2 y3 y4 y5 : Option D), r'.ok ∧ p.ok R ∧ evS (evK pg n fs (k + 2)) ir__law_passages_b1 [some (.adr 0), some (.int R), some (.int m), some (.int kind), some (.adr (μ.length + 1)), x1, x2, x3, x4, x5] (r.cell :: (μ ++ [.lst (ps.map Pa.d)])) =
      mOk (.nx, [some (.adr 0), some (.int R), some (.int m), some (.int kind), some (.adr (μ.length + 1)), y1, y2, y3, y4, y5]) (r'.cell :: (μ ++ [.lst ((ps ++ [p]).map Pa.d)])) := by
  obtain ⟨r1, v1, o1, a1, b1, e1⟩ := taken (n := n) (k := k + 1) (μ := μ ++ [.lst (ps.map Pa.d)]) (m := (R : Int)) h (by omega) (by omega)
  obtain ⟨r2, v2, o2, a2, b2, e2⟩ := taken (n := n) (k := k + 1) (μ := μ ++ [.lst (ps.map Pa.d)]) (m := (R : Int) - 1) o1 (by omega) (by omega)
  have hlen : ∃ (r3 : Row) (l : Int), r3.ok ∧ 1 ≤ l ∧ l ≤ 1000 ∧ evE (evK pg n fs (k + 2)) (.ite (.tru (.cmp .gt (.var 3) (.cst (.int 0)))) (.call "_law_pick" (.cons (.var 0) (.cons (.lst false (.cons (.bin .add false (.cst (.int 1)) (.call "_law_taken" (.cons (.var 0) (.cons (.cst (.int 4)) .nil)))) (.cons (.bin .add false (.cst (.int 1)) (.call "_law_taken" (.cons (.var 0) (.cons (.cst (.int 1000)) .nil)))) .nil))) .nil))) (.cst (.int 1)))
      [some (.adr 0), some (.int R), some (.int m), some (.int kind), some (.adr (μ.length + 1)), x1, some (.int v1), some (.int (if (R : Int) ≤ v1 + 1 + v2 then v1 + 1 + v2 - R else v1 + 1 + v2)), x4, x5] (r2.cell :: (μ ++ [.lst (ps.map Pa.d)])) = mOk (.int l) (r3.cell :: (μ ++ [.lst (ps.map Pa.d)])) := by
    by_cases hk : 0 < kind
    · obtain ⟨r3, v3, o3, a3, b3, e3⟩ := taken (n := n) (k := k + 1) (μ := μ ++ [.lst (ps.map Pa.d)]) (m := 4) o2 (by omega) (by omega)
      obtain ⟨r4, v4, o4, a4, b4, e4⟩ := taken (n := n) (k := k + 1) (μ := μ ++ [.lst (ps.map Pa.d)]) (m := 1000) o3 (by omega) (by omega)
      obtain ⟨r5, d, o5, hd, e5⟩ := pick (n := n) (k := k) (μ := μ ++ [.lst (ps.map Pa.d)]) (xs := [.int (1 + v3), .int (1 + v4)]) o4 (by simp) (by simp) (by
        intro d hd
        simp only [List.mem_cons, List.not_mem_nil, or_false] at hd
        rcases hd with rfl | rfl <;> exact fz_int)
      have : ∃ l : Int, 1 ≤ l ∧ l ≤ 1000 ∧ d = .int l := by
        simp only [List.mem_cons, List.not_mem_nil, or_false] at hd
        rcases hd with rfl | rfl
        · exact ⟨_, by omega, by omega, rfl⟩
        · exact ⟨_, by omega, by omega, rfl⟩
      obtain ⟨l, hl1, hl2, rfl⟩ := this
      refine ⟨r5, l, o5, hl1, hl2, ?_⟩
      walk_at "evr"
      simp only [hk]
      walk_at "evr"
      rw [e3]
      walk_at "evr"
      rw [e4]
      walk_at "evr"
      rw [e5]
    · refine ⟨r2, 1, o2, by omega, by omega, ?_⟩
      walk_at "evr"
      simp only [hk]
      walk_at "evr"
  obtain ⟨r3, l, o3, hl1, hl2, e3⟩ := hlen
  obtain ⟨r4, v4, o4, a4, b4, e4⟩ := taken (n := n) (k := k + 1) (μ := μ ++ [.lst (ps.map Pa.d)]) (m := 5) o3 (by omega) (by omega)
  obtain ⟨r5, v5, o5, a5, b5, e5⟩ := taken (n := n) (k := k + 1) (μ := μ ++ [.lst (ps.map Pa.d)]) (m := 200001) o4 (by omega) (by omega)
  obtain ⟨r6, d, o6, hd, e6⟩ := pick (n := n) (k := k) (μ := μ ++ [.lst (ps.map Pa.d)]) (xs := [.int v4, .int (v5 - 100000)]) o5 (by simp) (by simp) (by
    intro d hd
    simp only [List.mem_cons, List.not_mem_nil, or_false] at hd
    rcases hd with rfl | rfl <;> exact fz_int)
  have : ∃ s : Int, -100000 ≤ s ∧ s ≤ 100000 ∧ d = .int s := by
    simp only [List.mem_cons, List.not_mem_nil, or_false] at hd
    rcases hd with rfl | rfl
    · exact ⟨_, by omega, by omega, rfl⟩
    · exact ⟨_, by omega, by omega, rfl⟩
  obtain ⟨s, hs1, hs2, rfl⟩ := this
  obtain ⟨A, rfl⟩ := Int.eq_ofNat_of_zero_le a1
  have hB : ∃ B : Nat, (if (R : Int) ≤ (A : Int) + 1 + v2 then (A : Int) + 1 + v2 - R else (A : Int) + 1 + v2) = B ∧ B < R ∧ A ≠ B := by
    by_cases hc : (R : Int) ≤ (A : Int) + 1 + v2
    · rw [if_pos hc]
      exact ⟨((A : Int) + 1 + v2 - R).toNat, by omega, by omega, by omega⟩
    · rw [if_neg hc]
      exact ⟨((A : Int) + 1 + v2).toNat, by omega, by omega, by omega⟩
  obtain ⟨B, hB, hB1, hB2⟩ := hB
  refine ⟨r6, ⟨A, B, l, s⟩, x1, some (.int A), some (.int B), some (.int l), some (.int s), o6, ⟨by show A < R; omega, hB1, hB2, hl1, hl2, hs1, hs2⟩, ?_⟩
  unfold ir__law_passages_b1
  refine seq_ok (Δ1 := [some (.adr 0), some (.int R), some (.int m), some (.int kind), some (.adr (μ.length + 1)), x1, some (.int A), x3, x4, x5]) (μ1 := r1.cell :: (μ ++ [.lst (ps.map Pa.d)])) ?_ ?_
  · walk_at "evr"
    rw [e1]
    walk_at "evr"
  refine seq_ok (Δ1 := [some (.adr 0), some (.int R), some (.int m), some (.int kind), some (.adr (μ.length + 1)), x1, some (.int A), some (.int ((A : Int) + 1 + v2)), x4, x5]) (μ1 := r2.cell :: (μ ++ [.lst (ps.map Pa.d)])) ?_ ?_
  · walk_at "evr"
    rw [e2]
    walk_at "evr"
  refine seq_ok (Δ1 := [some (.adr 0), some (.int R), some (.int m), some (.int kind), some (.adr (μ.length + 1)), x1, some (.int A), some (.int B), x4, x5]) (μ1 := r2.cell :: (μ ++ [.lst (ps.map Pa.d)])) ?_ ?_
  · walk_at "evr"
    by_cases hc : (R : Int) ≤ (A : Int) + 1 + v2
    · rw [if_pos hc] at hB
      simp only [hc]
      walk_at "evr"
      rw [hB]
    · rw [if_neg hc] at hB
      simp only [hc]
      walk_at "evr"
      rw [hB]
  refine seq_ok (Δ1 := [some (.adr 0), some (.int R), some (.int m), some (.int kind), some (.adr (μ.length + 1)), x1, some (.int A), some (.int B), some (.int l), x5]) (μ1 := r3.cell :: (μ ++ [.lst (ps.map Pa.d)])) ?_ ?_
  · rw [hB] at e3
    rw [s_asg, e3]
    walk_at "evr"
  refine seq_ok (Δ1 := [some (.adr 0), some (.int R), some (.int m), some (.int kind), some (.adr (μ.length + 1)), x1, some (.int A), some (.int B), some (.int l), some (.int s)]) (μ1 := r6.cell :: (μ ++ [.lst (ps.map Pa.d)])) ?_ ?_
  · walk_at "evr"
    rw [e4]
    walk_at "evr"
    rw [e5]
    walk_at "evr"
    rw [e6]
    walk_at "evr"
  have hb : (ps.map Pa.d).length < 1000000 := by rw [List.length_map]; omega
  walk_at "evr"
  simp only [hb]
  walk_at "evr"
  rw [List.map_append]
  rfl
theorem passages_ {r : Row} {R m : Nat} (h : r.ok) (hR : R ≤ 1000) (hm2 : m ≤ 1000) : ∃ (r' : Row) (ps : List Pa), r'.ok ∧ (∀ p ∈ ps, p.ok R) ∧ ps.length ≤ m ∧ evCall pg n fs (k+3) "" "_law_passages" [.adr 0, .int R, .int m] (r.cell :: μ) = mOk (.tup (ps.map Pa.d)) (r'.cell :: μ) := by
  by_cases hR2 : (R : Int) < 2
  · refine ⟨r, [], h, (fun p hp => nomatch hp), Nat.zero_le _, ?_⟩
    rw [un__law_passages, List.map_nil, ← fz_rowD (r := r) (d := .tup []) (fz_tup (fun x hx => nomatch hx))]
    congr 1
    unfold ir__law_passages
    walk_at "evr"
    simp only [hR2]
    walk_at "evr"
  · obtain ⟨r1, kind, o1, a1, b1, e1⟩ := taken (n := n) (k := k + 1) (μ := μ) (m := 3) h (by omega) (by omega)
    obtain ⟨r2, cnt, o2, a2, b2, e2⟩ := taken (n := n) (k := k + 1) (μ := μ ++ [.lst []]) (m := (m : Int) + 1) o1 (by omega) (by omega)
    have key := for_inv (t := .nm 5) (ls := []) (b := evS (evK pg n fs (k + 2)) ir__law_passages_b1) (fun pre Δ μ' => ∃ (r' : Row) (ps : List Pa) (x1 x2 x3 x4 x5 : Option D), r'.ok ∧ (∀ p ∈ ps, p.ok R) ∧ ps.length = pre.length ∧ Δ = [some (.adr 0), some (.int R), some (.int m), some (.int kind), some (.adr (μ.length + 1)), x1, x2, x3, x4, x5] ∧ μ' = r'.cell :: (μ ++ [.lst (ps.map Pa.d)])) (rngD 0 cnt.toNat)
      (Δ := [some (.adr 0), some (.int R), some (.int m), some (.int kind), some (.adr (μ.length + 1)), none, none, none, none, none]) (μ := r2.cell :: (μ ++ [.lst []])) ⟨r2, [], none, none, none, none, none, o2, (fun p hp => (nomatch hp)), rfl, rfl, rfl⟩ (fun _ _ _ _ => rfl) ?_
    · obtain ⟨Δ', μ', e3, r', ps, x1, x2, x3, x4, x5, o3, h3, h4, rfl, rfl⟩ := key
      have hlen : ps.length = cnt.toNat := by rw [h4, rngD_length]
      refine ⟨r', ps, o3, h3, by omega, ?_⟩
      rw [un__law_passages, ← fz_rowA (r := r) (ν := [.lst (ps.map Pa.d)]) (fz_tup (fun x hx => by
        obtain ⟨p, _, rfl⟩ := List.mem_map.mp hx
        exact fz_pa))]
      congr 1
      unfold ir__law_passages
      walk_at "evr"
      simp only [hR2]
      walk_at "evr"
      rw [e1]
      walk_at "evr"
      rw [e2]
      walk_at "evr"
      have hr : dRng [.int cnt] = some (rngD 0 cnt.toNat) := by unfold dRng; simp only; rw [if_pos (by omega)]
      rw [hr]
      walk_at "evr"
      rw [e3]
      walk_at "evr"
    · rintro pre d post Δ μ' he ⟨r', ps, x1, x2, x3, x4, x5, o3, h3, h4, rfl, rfl⟩
      have hpl : pre.length ≤ cnt.toNat := by
        have := congrArg List.length he
        rw [rngD_length, List.length_append] at this
        omega
      obtain ⟨r4, p, y1, y2, y3, y4, y5, o4, hp, e4⟩ := passages_body (n := n) (k := k) (μ := μ) (m := m) (kind := kind) (x1 := some d) (x2 := x2) (x3 := x3) (x4 := x4) (x5 := x5) (d := d) o3 (by omega) hR h3 (by omega)
      refine ⟨_, _, _, rfl, e4, r4, ps ++ [p], y1, y2, y3, y4, y5, o4, fun q hq => ?_, by rw [List.length_append, List.length_append, h4]; rfl, rfl, rfl⟩
      rcases List.mem_append.mp hq with hq | hq
      · exact h3 q hq
      · rw [List.mem_singleton.mp hq]; exact hp
end
/-! ### small defs -/
def isNum : D → Int → Int → Bool
  | .int i, lo, hi => decide (lo ≤ i) && decide (i ≤ hi)
  | _, _, _ => false
def Flat (d : D) : Prop := match d with
  | .adr _ => False
  | .obj _ _ => False
  | _ => True
section
variable {n k : Nat} {μ : Mu}
theorem is_number {d : D} {lo hi : Int} (h : Flat d) : evCall pg n fs (k+1) "" "is_number" [d, .int lo, .int hi] μ = mOk (.bl (isNum d lo hi)) μ := by
  rw [un_is_number, ← fzR_same (μ := μ) (fz_bl (k := 15))]
  congr 1
  unfold ir_is_number
  cases d <;> first | exact h.elim | skip
  all_goals walk_at "ev"
  all_goals first | rfl | skip
  unfold isNum
  rename_i i
  by_cases h1 : lo ≤ i
  · simp only [h1]
    walk_at "ev"
  · simp only [h1]
    walk_at "ev"
theorem check_t {x : D} {s : Str} {b : Bool} (hb : b = true) : evCall pg n fs (k+1) "" "check" [.bl b, .str s] μ = mOk .non μ := by
  subst hb
  rw [un_check, ← fzR_same (μ := μ) (fz_non (k := 15))]
  congr 1
theorem check_f {s : Str} {b : Bool} (hb : b = false) (hs : s.length ≤ 1000) : evCall pg n fs (k+1) "" "check" [.bl b, .str s] μ = some (.exc ⟨"BadArgument", [("name", .str s)]⟩, μ) := by
  subst hb
  rw [un_check]
  unfold ir_check
  have hr : rsD (evK pg n fs k) "BadArgument" [.str s] μ = some (.exc ⟨"BadArgument", [("name", .str s)]⟩, μ) := by
    have e : (evK pg n fs k).exc "BadArgument" = some (["name"] : List Str) := by
      show pg.exc.lookup ("BadArgument" : Str) = some (["name"] : List Str)
      kernel_rfl
    unfold rsD
    simp only [e, List.length_cons, List.length_nil, List.all_cons, List.all_nil, fmtD, hs, decide_true, Bool.and_true, and_self, if_true]
    rfl
  walk_at "ev"
  rw [hr]
  walk_at "ev"
  unfold fzR
  simp only [trimOk_self, if_true, optMap, List.take_length]
  rfl
/-! ### the cave -/
def caveD (R : Nat) (ps : List Pa) : D := .obj "Cave" [("_rooms", .int R), ("_passages", .tup (ps.map Pa.d))]
def ciCave : CI := ⟨["_rooms", "_passages"], ["rooms", "passages"], ["__len__"], true⟩
theorem cls_cave : (evK pg n fs k).cls "Cave" = some ciCave := by
  show pg.cls.lookup ("Cave" : Str) = some ciCave
  kernel_rfl
structure CaveOk (R : Nat) (ps : List Pa) : Prop where
  r : R ≤ 24
  n : ps.length ≤ 60
  p : ∀ p ∈ ps, p.ok R
theorem fz_pas {ps : List Pa} : Fz 4 (.tup (ps.map Pa.d)) := fz_tup fun x hx => by
  obtain ⟨p, _, rfl⟩ := List.mem_map.mp hx
  exact fz_pa
theorem fz_up {k j : Nat} {d : D} (h : Fz k d) (hk : k ≤ j) : Fz j d := fun n μ => by
  exact fz_mono hk (h n μ)
theorem cave_rooms {R : Nat} {ps : List Pa} : dAtt (evK pg n fs (k+1)) "rooms" (caveD R ps) μ = mOk (.int R) μ := by
  unfold caveD
  rw [att_prop cls_cave (by decide), evK_call, un_Cave_rooms]
  have e : retD (evS (evK pg n fs k) ir_Cave_rooms [some (.obj "Cave" [("_rooms", .int R), ("_passages", .tup (ps.map Pa.d))])] μ) = mOk (.int R) μ := by
    unfold ir_Cave_rooms
    walk_at "ev"
    rw [att_obj (v := .int R) cls_cave (by decide) (by decide) (by kernel_rfl)]
    walk_at "ev"
  rw [e, fzR_same fz_int]; rfl
theorem cave_passages {R : Nat} {ps : List Pa} : dAtt (evK pg n fs (k+1)) "passages" (caveD R ps) μ = mOk (.tup (ps.map Pa.d)) μ := by
  unfold caveD
  rw [att_prop cls_cave (by decide), evK_call, un_Cave_passages]
  have e : retD (evS (evK pg n fs k) ir_Cave_passages [some (.obj "Cave" [("_rooms", .int R), ("_passages", .tup (ps.map Pa.d))])] μ) = mOk (.tup (ps.map Pa.d)) μ := by
    unfold ir_Cave_passages
    walk_at "ev"
    rw [att_obj (v := .tup (ps.map Pa.d)) cls_cave (by decide) (by decide) (by kernel_rfl)]
    walk_at "ev"
  rw [e, fzR_same (fz_up fz_pas (by decide))]; rfl
theorem cave_len {R : Nat} {ps : List Pa} (h : ps.length ≤ 1000) : dBi (evK pg n fs (k+1)) .len [caveD R ps] μ = mOk (.int ps.length) μ := by
  unfold caveD
  refine len_obj cls_cave (by decide) ?_ (by omega) (by show (ps.length : Int) ≤ ((1000000 : Nat) : Int); omega)
  rw [evK_call, un_CaveUU_lenUU]
  have e : retD (evS (evK pg n fs k) ir_CaveUU_lenUU [some (.obj "Cave" [("_rooms", .int R), ("_passages", .tup (ps.map Pa.d))])] μ) = mOk (.int ps.length) μ := by
    unfold ir_CaveUU_lenUU
    walk_at "ev"
    rw [att_obj (v := .tup (ps.map Pa.d)) cls_cave (by decide) (by decide) (by kernel_rfl)]
    walk_at "ev"
    rw [List.length_map]
  rw [e, fzR_same fz_int]
theorem is_passage {R : Nat} {p : Pa} (h : p.ok R) : evCall pg n fs (k+2) "" "is_passage" [p.d, .int R] μ = mOk (.bl true) μ := by
  rw [un_is_passage, ← fzR_same (μ := μ) (fz_bl (k := 15))]
  congr 1
  unfold ir_is_passage Pa.d
  have e1 : isNum (.int p.a) 0 ((R : Int) - 1) = true := by have := h.a; unfold isNum; simp only [Bool.and_eq_true, decide_eq_true_eq]; omega
  have e2 : isNum (.int p.b) 0 ((R : Int) - 1) = true := by have := h.b; unfold isNum; simp only [Bool.and_eq_true, decide_eq_true_eq]; omega
  have e3 : isNum (.int p.l) 1 1000 = true := by have := h.l; have := h.l2; unfold isNum; simp only [Bool.and_eq_true, decide_eq_true_eq]; omega
  have e4 : isNum (.int p.s) (-100000) 100000 = true := by have := h.s; have := h.s2; unfold isNum; simp only [Bool.and_eq_true, decide_eq_true_eq]; omega
  have e5 : ¬ ((p.a : Int) = p.b) := by have := h.ne; omega
  walk_at "ev"
  rw [is_number (by exact True.intro), e1]
  walk_at "ev"
  rw [is_number (by exact True.intro), e2]
  walk_at "ev"
  simp only [e5]
  walk_at "ev"
  rw [is_number (by exact True.intro), e3]
  walk_at "ev"
  rw [is_number (by exact True.intro), e4]
  walk_at "ev"
theorem are_passages {R : Nat} {ps : List Pa} (h : CaveOk R ps) : evCall pg n fs (k+3) "" "are_passages" [.tup (ps.map Pa.d), .int R] μ = mOk (.bl true) μ := by
  rw [un_are_passages, ← fzR_same (μ := μ) (fz_bl (k := 15))]
  congr 1
  unfold ir_are_passages
  have hn := h.n
  have h1 : ¬ ((60 : Int) < ((ps.map Pa.d).length : Int)) := by rw [List.length_map]; omega
  walk_at "ev"
  simp only [h1]
  walk_at "ev"
  rw [all_pure (fun _ => true) (fun _ => true) rfl _ fun d hd => ?_]
  · walk_at "ev"
    congr 2
    simp
  · obtain ⟨p, hp, rfl⟩ := List.mem_map.mp hd
    refine ⟨_, rfl, by walk_at "ev", fun _ => ?_⟩
    walk_at "ev"
    rw [is_passage (h.p p hp)]
theorem cave_init {R : Nat} {ps : List Pa} (h : CaveOk R ps) : evCall pg n fs (k+4) "Cave" "__init__" [.adr μ.length, .int R, .tup (ps.map Pa.d)] (μ ++ [.ins "Cave" []]) = mOk .non (μ ++ [.ins "Cave" [("_rooms", .int R), ("_passages", .tup (ps.map Pa.d))]]) := by
  rw [un_CaveUU_initUU]
  unfold ir_CaveUU_initUU
  have hr := h.r
  have e1 : isNum (.int R) 0 24 = true := by unfold isNum; simp only [Bool.and_eq_true, decide_eq_true_eq]; omega
  walk_at "ev"
  rw [is_number (by exact True.intro), e1]
  walk_at "ev"
  rw [check_t (x := .non) rfl]
  walk_at "ev"
  rw [are_passages h]
  walk_at "ev"
  rw [check_t (x := .non) rfl]
  walk_at "ev"
  rw [sfC_fld cls_cave (by decide) (by decide)]
  walk_at "ev"
  rw [sfC_fld cls_cave (by decide) (by simp [putD])]
  walk_at "ev"
  rfl
theorem cave_mk {R : Nat} {ps : List Pa} (h : CaveOk R ps) : dMk (evK pg n fs (k+4)) "Cave" true [.int R, .tup (ps.map Pa.d)] μ = mOk (caveD R ps) μ := by
  unfold dMk
  rw [evK_call, cave_init h]
  simp only [if_true]
  show fzR μ (mOk (.adr μ.length) _) = _
  rw [fzR_ok (d' := caveD R ps) trimOk_app ?_, List.take_left]
  exact fzA_ins (Nat.le_refl _) (by rw [gA0]; rfl) (fun x hx => by
    simp only [List.mem_cons, List.not_mem_nil, or_false] at hx
    rcases hx with rfl | rfl
    · exact fz_int
    · exact fz_up fz_pas (by decide))
theorem is_cave_t {R : Nat} {ps : List Pa} : evCall pg n fs (k+1) "" "is_cave" [caveD R ps] μ = mOk (.bl true) μ := by
  rw [un_is_cave, ← fzR_same (μ := μ) (fz_bl (k := 15))]
  congr 1
theorem is_cave_f {d : D} (h : Flat d) : evCall pg n fs (k+1) "" "is_cave" [d] μ = mOk (.bl false) μ := by
  rw [un_is_cave, ← fzR_same (μ := μ) (fz_bl (k := 15))]
  congr 1
  unfold ir_is_cave
  have e : dIsi (evK pg n fs k) d [.own "Cave"] μ = some false := by
    have h1 : knownTy (evK pg n fs k) (.own "Cave") = true := by show ((evK pg n fs k).cls "Cave").isSome = true; rw [cls_cave]; rfl
    cases d <;> first | exact h.elim | (unfold dIsi tyD; simp only [h1, List.all_cons, List.all_nil, List.any_cons, List.any_nil, isTy]; rfl)
  walk_at "ev"
  rw [e]
  walk_at "ev"
theorem check_cave_t {R : Nat} {ps : List Pa} : evCall pg n fs (k+2) "" "check_cave" [caveD R ps] μ = mOk .non μ := by
  rw [un_check_cave, ← fzR_same (μ := μ) (fz_non (k := 15))]
  congr 1
  unfold ir_check_cave
  walk_at "ev"
  rw [is_cave_t]
  walk_at "ev"
  rw [check_t (x := .non) rfl]
  walk_at "ev"
theorem check_cave_f {d : D} (h : Flat d) : evCall pg n fs (k+2) "" "check_cave" [d] μ = some (.exc ⟨"BadArgument", [("name", .str "cave")]⟩, μ) := by
  rw [un_check_cave]
  unfold ir_check_cave
  walk_at "ev"
  rw [is_cave_f h]
  walk_at "ev"
  rw [check_f rfl (by decide)]
  walk_at "ev"
  unfold fzR
  simp only [trimOk_self, if_true, optMap, List.take_length]
  rfl
theorem pa_sl {p : Pa} {m : Bool} : dSl m p.d none (some 2) μ = mOk (.tup [.int p.a, .int p.b]) μ := by unfold Pa.d; rw [slT_, cut_2]
theorem pa_0 {p : Pa} : dIx p.d (.int 0) μ = some (.int p.a) := by unfold Pa.d; rw [x_tup, at0]
theorem pa_1 {p : Pa} : dIx p.d (.int 1) μ = some (.int p.b) := by unfold Pa.d; rw [x_tup, at1]
theorem pa_2 {p : Pa} : dIx p.d (.int 2) μ = some (.int p.l) := by unfold Pa.d; rw [x_tup, at2]
theorem pa_3 {p : Pa} : dIx p.d (.int 3) μ = some (.int p.s) := by unfold Pa.d; rw [x_tup, at3]
/-! ### far_end -/
def Pa.far (p : Pa) (r : Nat) : Nat := if p.a = r then p.b else p.a
theorem far_end {p : Pa} {r : Nat} : evCall pg n fs (k+1) "" "far_end" [p.d, .int r] μ = mOk (.int (p.far r)) μ := by
  rw [un_far_end, ← fzR_same (μ := μ) (fz_int (k := 15))]
  congr 1
  unfold ir_far_end Pa.d Pa.far
  walk_at "ev"
  by_cases h : p.a = r
  · have h' : (p.a : Int) = r := by omega
    simp only [h', h]
    walk_at "ev"
  · have h' : ¬ (p.a : Int) = r := by omega
    simp only [h', h]
    walk_at "ev"
end
/-! ### _law_alike of the same -/
section
variable {n k : Nat} {μ : Mu}
theorem alike_seq (K j : Nat) {μ : Mu} (ih : ∀ {j : Nat} {d : D} {μ : Mu}, Pl j d → j < K → evCall pg n fs K "" "_law_alike" [d, d] μ = mOk (.bl true) μ) (hK : j < K + 1) : ∀ (ds : List D) (k' : Nat), j = k' + 1 → (∀ d ∈ ds, Pl k' d) → ds.length ≤ 1000000 → ∀ (x : D), (∀ i : Nat, dIx x (.int i) μ = ds[i]?) →
    compD (.nm 2) (evC (evK pg n fs K) (.not (.tru (.call "_law_alike" (.cons (.ix (.var 0) (.var 2)) (.cons (.ix (.var 1) (.var 2)) .nil)))))) (evE (evK pg n fs K) (.var 2)) [some x, some x, none, none] [] (rngD 0 ds.length) [] μ = mOk [] μ := by
  intro ds k' e h hl x hx
  rw [comp_pure (fun _ => false) id rfl _ _ (fun d hd => ?_) (by rw [rngD_len]; simpa using hl)]
  · rw [List.filter_eq_nil_iff.mpr (fun _ _ => by decide)]; rfl
  · obtain ⟨i, hi, rfl⟩ := rngD_mem hd
    refine ⟨_, rfl, ?_, fun z => by cases z⟩
    have hz : (0 : Int) + (i : Int) = (i : Int) := by omega
    have hget := List.getElem?_eq_getElem hi
    walk_at "ev"
    rw [hz, hx, hget]
    walk_at "ev"
    rw [hx, hget]
    walk_at "ev"
    rw [ih (h _ (List.getElem_mem hi)) (by omega)]
    walk_at "ev"
theorem alike_refl (K : Nat) : ∀ {j : Nat} {d : D} {μ : Mu}, Pl j d → j < K → evCall pg n fs K "" "_law_alike" [d, d] μ = mOk (.bl true) μ := by
  induction K with
  | zero => exact fun _ hK => absurd hK (Nat.not_lt_zero _)
  | succ K ih =>
    intro j d μ h hK
    rw [un__law_alike, ← fzR_same (μ := μ) (fz_bl (k := 15))]
    congr 1
    unfold ir__law_alike
    cases h with
    | non =>
      walk_at "ev"
      rw [q_eqN]
      walk_at "ev"
    | bl =>
      walk_at "ev"
    | int =>
      walk_at "ev"
    | str hs =>
      walk_at "ev"
      rw [q_eqS hs]
      walk_at "ev"
    | tup h hl =>
      rename_i k' ds
      walk_at "ev"
      rw [dRng_n hl]
      walk_at "ev"
      rw [alike_seq K (k' + 1) ih hK ds k' rfl h hl (.tup ds) (fun i => by rw [x_tup, atN'])]
      walk_at "ev"
      rw [q_eqNil]
      walk_at "ev"
    | lst h hl =>
      rename_i k' ds
      walk_at "ev"
      rw [dRng_n hl]
      walk_at "ev"
      rw [alike_seq K (k' + 1) ih hK ds k' rfl h hl (.lst ds) (fun i => by rw [x_lst, atN'])]
      walk_at "ev"
      rw [q_eqNil]
      walk_at "ev"
end
/-! ### the two sides: the walk -/
structure BS where
  ss : List (Option Nat)
  cs : List (Option (Nat × Nat))
  w : Option (Nat × Nat × Nat)
  rows : List Nat
def sdD : Option Nat → D
  | none => .non
  | some b => .int b
def cmD : Option (Nat × Nat) → D
  | none => .non
  | some q => .tup [.int q.1, .int q.2]
def wD : Option (Nat × Nat × Nat) → D
  | none => .non
  | some q => .tup [.int q.1, .int q.2.1, .int q.2.2]
def insD (R : Nat) (ps : List Pa) (m : Nat) (w : Option (Nat × Nat × Nat)) : Cell := .ins "Sides" [("cave", caveD R ps), ("sides", .adr (m + 2)), ("came", .adr (m + 4)), ("wrong", wD w)]
def bst (R : Nat) (ps : List Pa) (μ : Mu) (ss : List (Option Nat)) (cs : List (Option (Nat × Nat))) (w : Option (Nat × Nat × Nat)) (ν : Mu) : Mu :=
  μ ++ (insD R ps μ.length w :: .lst [.non] :: .lst (ss.map sdD) :: .lst [.non] :: .lst (cs.map cmD) :: ν)
section
variable {n k R : Nat} {μ ν : Mu} {ps : List Pa} {ss : List (Option Nat)} {cs : List (Option (Nat × Nat))} {w : Option (Nat × Nat × Nat)}
theorem bst_0 : (bst R ps μ ss cs w ν)[μ.length]? = some (insD R ps μ.length w) := by unfold bst; rw [gA0]; rfl
theorem bst_2 : (bst R ps μ ss cs w ν)[μ.length + 2]? = some (.lst (ss.map sdD)) := by unfold bst; rw [gA]; rfl
theorem bst_4 : (bst R ps μ ss cs w ν)[μ.length + 4]? = some (.lst (cs.map cmD)) := by unfold bst; rw [gA]; rfl
theorem bst_n {j : Nat} : (bst R ps μ ss cs w ν)[μ.length + (j + 5)]? = ν[j]? := by unfold bst; rw [gA]; rfl
theorem bst_s0 {w' : Option (Nat × Nat × Nat)} : (bst R ps μ ss cs w ν).set μ.length (insD R ps μ.length w') = bst R ps μ ss cs w' ν := by unfold bst; rw [sA0]; rfl
theorem bst_s2 {ss' : List (Option Nat)} : (bst R ps μ ss cs w ν).set (μ.length + 2) (.lst (ss'.map sdD)) = bst R ps μ ss' cs w ν := by unfold bst; rw [sA]; rfl
theorem bst_s4 {cs' : List (Option (Nat × Nat))} : (bst R ps μ ss cs w ν).set (μ.length + 4) (.lst (cs'.map cmD)) = bst R ps μ ss cs' w ν := by unfold bst; rw [sA]; rfl
theorem bst_sn {j : Nat} {c : Cell} : (bst R ps μ ss cs w ν).set (μ.length + (j + 5)) c = bst R ps μ ss cs w (ν.set j c) := by unfold bst; rw [sA]; rfl
theorem bst_app {ν' : Mu} : bst R ps μ ss cs w ν ++ ν' = bst R ps μ ss cs w (ν ++ ν') := by unfold bst; simp
theorem bst_len : (bst R ps μ ss cs w ν).length = μ.length + (ν.length + 5) := by unfold bst; simp
def ciSides : CI := ⟨["cave", "sides", "came", "wrong"], [], ["spread", "path_from"], true⟩
theorem cls_sides : (evK pg n fs k).cls "Sides" = some ciSides := by
  show pg.cls.lookup ("Sides" : Str) = some ciSides
  kernel_rfl
variable {a m : Nat} {μ' : Mu}
theorem at_cave : attC (evK pg n fs k) "cave" a μ' (some (insD R ps m w)) = mOk (caveD R ps) μ' := attC_fld cls_sides (by decide) (by decide) (by kernel_rfl)
theorem at_sides : attC (evK pg n fs k) "sides" a μ' (some (insD R ps m w)) = mOk (.adr (m + 2)) μ' := attC_fld cls_sides (by decide) (by decide) (by kernel_rfl)
theorem at_came : attC (evK pg n fs k) "came" a μ' (some (insD R ps m w)) = mOk (.adr (m + 4)) μ' := attC_fld cls_sides (by decide) (by decide) (by kernel_rfl)
theorem at_wrong : attC (evK pg n fs k) "wrong" a μ' (some (insD R ps m w)) = mOk (wD w) μ' := attC_fld cls_sides (by decide) (by decide) (by kernel_rfl)
theorem sf_wrong {q : Nat × Nat × Nat} : sfC (evK pg n fs k) "wrong" (.tup [.int q.1, .int q.2.1, .int q.2.2]) (some (insD R ps m w)) = some (insD R ps m (some q)) := by
  unfold insD
  rw [sfC_fld cls_sides (by decide) (by simp)]
  rfl
theorem me_spread {f : Str → Mo D} : meC (evK pg n fs k) "spread" (some (insD R ps m w)) f = f "Sides" := meC_ok cls_sides (by decide) (by kernel_rfl)
theorem me_path {f : Str → Mo D} : meC (evK pg n fs k) "path_from" (some (insD R ps m w)) f = f "Sides" := meC_ok cls_sides (by decide) (by kernel_rfl)
theorem wD_n : dCmp .is_ (wD w) .non μ' = some (decide (w = none)) := by cases w <;> rfl
theorem sdD_n {x : Option Nat} : dCmp .is_ (sdD x) .non μ' = some (decide (x = none)) := by cases x <;> rfl
theorem cmD_n {x : Option (Nat × Nat)} : dCmp .isnt (cmD x) .non μ' = some (!decide (x = none)) := by cases x <;> rfl
theorem ix_map {α : Type} {f : α → D} {xs : List α} {i : Nat} {x : α} (h : xs[i]? = some x) : atI (xs.map f) (i : Int) = some (f x) := by
  rw [atN', List.getElem?_map, h]; rfl
theorem st_map {α : Type} {f : α → D} {xs : List α} {i : Nat} {x : α} {v : D} (h : i < xs.length) (hv : v = f x) : stC (some (.lst (xs.map f))) (i : Int) v = some (.lst ((xs.set i x).map f)) := by
  rw [stC_nat (by omega) (by rw [List.length_map]; omega), Int.toNat_natCast, List.map_set, hv]
end
local macro_rules | `(tactic| walk_at "evb") => `(tactic| simp -implicitDefEqProofs only [e_var, e_cst, e_bin, e_neg, e_cmp, e_chain, e_not, e_and, e_or, e_ite, e_tup, e_lst, e_ix, e_sl, e_rev, e_att, e_call, e_mk, e_meth, e_bi, e_mt, e_isi, e_lc, e_gn, c_yes, c_tru, c_not, c_and, c_or, a_nil, a_cons, i_seq, i_rng, i_enm, seqI_some, enmI_some, o_no, o_some, kS_nx, kS_rt, kS_ct, kS_bk, kM_some, s_skip, s_seq, s_ex, s_asg, s_par, s_setx, s_setf, s_ite, s_whil, s_for, s_ret, s_brk, s_cnt, s_raise, retD_ok, retD_nx, retD_exc, bd_ok, bd_some, bd_exc, bd_bd, cIf_t, cIf_f, decide_true, decide_false, op_some, kI_int, kB_bl, varD_some, Option.map_some, Option.bind_some, b_add, b_sub, b_tup, b_lst, q_lt, q_le, q_gt, q_ge, q_eqI, q_neI, q_eqB, q_neB, q_isN, q_isI, q_isT, q_isL, q_isS, q_isBl, q_isO, q_isnN, q_isnI, q_isnT, q_isnL, q_isB, q_isnB, q_inT2, q_ninT2, t_bl, t_non, t_tup, t_lst, t_int, at0, at1, at2, at3, x_tup, x_lst, x_scr, x_adr, ixC_lst, x_set, puC_some, i_int, i_lenT, i_lenL, i_lenS, r_tup, r_lst, rl_lst, slT_, rv_tup, rv_lst, cut_2, List.getElem?_cons_zero, List.getElem?_cons_succ, List.set_cons_zero, List.set_cons_succ, tgD, tgDs, if_true, if_false, Bool.false_eq_true, Bool.not_true, Bool.not_false, Bool.and_true, Bool.true_and, Bool.and_false, Bool.false_and, Bool.or_true, Bool.or_false, Bool.true_or, Bool.false_or, evK_call, evK_W, gA0, gA, sA0, sA, List.cons_append, List.nil_append, List.length_cons, List.length_append, List.length_nil, List.append_assoc, Nat.add_zero, Nat.zero_add, m_app, wipeD, kL_some, lstC_lst, rl_adr, r_adr, t_adr, lenA_lst, i_lenA, appC_lst, dNew_F, dNew_T, big, Nat.reduceAdd, Nat.reduceSub, Nat.reduceLeDiff, Nat.reduceMul, Nat.le_refl, isi_non_int, isi_non_bool, isi_non_tuple, isi_non_list, isi_non_str, isi_non_dict, isi_non_tl, isi_bl_int, isi_bl_bool, isi_bl_tuple, isi_bl_list, isi_bl_str, isi_bl_dict, isi_bl_tl, isi_int_int, isi_int_bool, isi_int_tuple, isi_int_list, isi_int_str, isi_int_dict, isi_int_tl, isi_str_int, isi_str_bool, isi_str_tuple, isi_str_list, isi_str_str, isi_str_dict, isi_str_tl, isi_tup_int, isi_tup_bool, isi_tup_tuple, isi_tup_list, isi_tup_str, isi_tup_dict, isi_tup_tl, isi_lst_int, isi_lst_bool, isi_lst_tuple, isi_lst_list, isi_lst_str, isi_lst_dict, isi_lst_tl, isi_scr_int, isi_scr_bool, isi_scr_tuple, isi_scr_list, isi_scr_str, isi_scr_dict, isi_scr_tl, att_adr, sf_adr, me_adr, noX_ok', Int.cast_ofNat_Int, Int.reduceEq, Int.reduceLT, Int.reduceLE, Int.reduceAdd, Int.reduceSub, Int.reduceMul, Int.reduceNeg, eq_self, beq_self_eq_true, reduceCtorEq, kT_some, i_tup', kLs_some, i_list', lk_tup, lk_lst, lk_scr, kF_nx, kF_ct, kF_bk, kF_rt, fd_nil, kH_ok, kH_exc, e_heard', heardD_bad, setMany, bst_0, bst_2, bst_4, bst_n, bst_s0, bst_s2, bst_s4, bst_sn, bst_app, bst_len, at_cave, at_sides, at_came, at_wrong, wD_n, sdD_n, cmD_n, cave_passages, cave_rooms, far_end, pa_sl, pa_0, pa_1, pa_2, pa_3, me_spread, me_path])
/-- a passage looked at from here -/
def stepB (here num : Nat) (p : Pa) (s : BS) : BS :=
  if (here = p.a ∨ here = p.b) ∧ s.w = none then
    match s.ss[p.far here]? with
    | some none => match s.ss[here]? with
      | some (some b) => ⟨s.ss.set (p.far here) (some (1 - b)), s.cs.set (p.far here) (some (here, num)), none, s.rows ++ [p.far here]⟩
      | _ => s
    | some (some c) => if s.ss[here]? = some (some c) then { s with w := some (here, num, p.far here) } else s
    | none => s
  else s
def BS.st (R : Nat) (ps : List Pa) (μ ν : Mu) (s : BS) : Mu := bst R ps μ s.ss s.cs s.w (ν ++ [.lst (s.rows.map fun r => D.int (r : Nat))])
section
variable {n k R : Nat} {μ ν : Mu} {ps : List Pa}
theorem spread_b2 {s : BS} {here num b : Nat} {p : Pa} {at_ : Int} {bg x7 : Option D} (hp : p.ok R) (hl : s.ss.length = R) (hc : s.cs.length = R) (hh : s.ss[here]? = some (some b)) (hb : b ≤ 1) (hr : s.rows.length < 1000) :
    ∃ y7, evS (evK pg n fs (k + 1)) ir_Sides_spread_b2 [some (.adr μ.length), bg, some (.adr (μ.length + (ν.length + 5))), some (.int at_), some (.int here), some (.int num), some p.d, x7] (s.st R ps μ ν) =
      mOk (.nx, [some (.adr μ.length), bg, some (.adr (μ.length + (ν.length + 5))), some (.int at_), some (.int here), some (.int num), some p.d, y7]) ((stepB here num p s).st R ps μ ν) := by
  obtain ⟨ss, cs, w, rows⟩ := s
  have hl : ss.length = R := hl
  have hc : cs.length = R := hc
  have hh : ss[here]? = some (some b) := hh
  have hr : rows.length < 1000 := hr
  have hin : ((here : Int) = p.a ∨ (here : Int) = p.b) ↔ (here = p.a ∨ here = p.b) := by omega
  unfold ir_Sides_spread_b2 BS.st stepB
  by_cases h1 : here = p.a ∨ here = p.b
  · have hfar : p.far here < R := by
      have := hp.a; have := hp.b
      unfold Pa.far; split <;> assumption
    by_cases h2 : w = none
    · subst h2
      obtain ⟨x, hx⟩ : ∃ x, ss[p.far here]? = some x := ⟨_, List.getElem?_eq_getElem (by rw [hl]; exact hfar)⟩
      refine ⟨some (.int (p.far here)), ?_⟩
      cases x with
      | none =>
        simp only [h1, hx, hh, and_self, if_true]
        walk_at "evb"
        simp only [hin, h1]
        walk_at "evb"
        rw [ix_map hx]
        walk_at "evb"
        rw [ix_map hh]
        simp only [sdD]
        walk_at "evb"
        rw [st_map (f := sdD) (x := some (1 - b)) (by rw [hl]; exact hfar) (by unfold sdD; congr 1; omega)]
        walk_at "evb"
        rw [st_map (f := cmD) (x := some (here, num)) (v := .tup [.int here, .int num]) (by rw [hc]; exact hfar) rfl]
        walk_at "evb"
        have hb2 : (rows.map fun r => D.int (r : Nat)).length < 1000000 := by rw [List.length_map]; omega
        simp only [hb2]
        walk_at "evb"
        rw [List.map_append]
        rfl
      | some c =>
        simp only [h1, hx, hh, and_self, if_true]
        walk_at "evb"
        simp only [hin, h1]
        walk_at "evb"
        rw [ix_map hx]
        walk_at "evb"
        rw [ix_map hx]
        walk_at "evb"
        rw [ix_map hh]
        simp only [sdD]
        walk_at "evb"
        by_cases hcb : c = b
        · subst hcb
          walk_at "evb"
          rw [sf_wrong (q := (here, num, p.far here))]
          walk_at "evb"
        · have h3 : ¬ (c : Int) = b := by omega
          have h4 : ¬ (some (some b) = some (some c)) := by intro z; injection z with z; injection z with z; exact hcb z.symm
          simp only [h3, h4]
          walk_at "evb"
    · refine ⟨x7, ?_⟩
      have h3 : ¬ ((here = p.a ∨ here = p.b) ∧ w = none) := fun z => h2 z.2
      simp only [h3, if_false]
      walk_at "evb"
      simp only [hin, h1]
      walk_at "evb"
      simp only [h2]
      walk_at "evb"
  · refine ⟨x7, ?_⟩
    have h3 : ¬ ((here = p.a ∨ here = p.b) ∧ w = none) := fun z => h1 z.1
    simp only [h3, if_false]
    walk_at "evb"
    simp only [hin, h1]
    walk_at "evb"
end
/-! ### the two sides: the plain law -/
def cnt (ss : List (Option Nat)) : Nat := ss.countP (·.isSome)
theorem cnt_le (ss : List (Option Nat)) : cnt ss ≤ ss.length := List.countP_le_length
theorem cnt_set {ss : List (Option Nat)} {t c : Nat} (h : ss[t]? = some none) : cnt (ss.set t (some c)) = cnt ss + 1 := by
  unfold cnt
  have hl := (List.getElem?_eq_some_iff.mp h)
  rw [List.countP_set hl.1]
  rw [hl.2]
  simp
theorem get_set {α : Type} {xs : List α} {t r : Nat} {x : α} (h : r ≠ t) : (xs.set t x)[r]? = xs[r]? := List.getElem?_set_ne (fun z => h z.symm)
theorem get_set' {α : Type} {xs : List α} {t : Nat} {x y : α} (h : xs[t]? = some y) : (xs.set t x)[t]? = some x := List.getElem?_set_self (List.getElem?_eq_some_iff.mp h).1
inductive Up (ps : List Pa) (ss : List (Option Nat)) (cs : List (Option (Nat × Nat))) : Nat → Nat → Nat → List Nat → Prop
  | root {r : Nat} (h : ss[r]? = some (some 0)) (h2 : cs[r]? = some none) : Up ps ss cs r 0 r []
  | step {r h nr root b : Nat} {l : List Nat} {p : Pa} (h1 : cs[r]? = some (some (h, nr))) (h2 : ps[nr]? = some p) (h3 : h = p.a ∨ h = p.b) (h4 : p.far h = r) (h5 : ss[r]? = some (some (1 - b))) (u : Up ps ss cs h b root l) : Up ps ss cs r (1 - b) root (nr :: l)
section
variable {ps : List Pa} {ss : List (Option Nat)} {cs : List (Option (Nat × Nat))} {r b root : Nat} {l : List Nat}
theorem Up.side (u : Up ps ss cs r b root l) : ss[r]? = some (some b) := by cases u <;> assumption
theorem Up.le (u : Up ps ss cs r b root l) : b ≤ 1 := by cases u <;> omega
theorem Up.par (u : Up ps ss cs r b root l) : b = l.length % 2 := by
  induction u with
  | root h h2 => rfl
  | step h1 h2 h3 h4 h5 u ih =>
    have := u.le
    rw [List.length_cons]; omega
theorem Up.mono (u : Up ps ss cs r b root l) {t c : Nat} {x : Option (Nat × Nat)} (ht : ss[t]? = some none) : Up ps (ss.set t (some c)) (cs.set t x) r b root l := by
  induction u with
  | @root r h h2 =>
    have hn : r ≠ t := fun z => by rw [z, ht] at h; cases h
    exact .root (by rw [get_set hn]; exact h) (by rw [get_set hn]; exact h2)
  | @step r h nr root b l p h1 h2 h3 h4 h5 u ih =>
    have hn : r ≠ t := fun z => by rw [z, ht] at h5; cases h5
    exact .step (by rw [get_set hn]; exact h1) h2 h3 h4 (by rw [get_set hn]; exact h5) ih
end
theorem far_far {p : Pa} {r : Nat} (h : r = p.a ∨ r = p.b) (ne : p.a ≠ p.b) : p.far (p.far r) = r := by
  unfold Pa.far
  rcases h with rfl | rfl
  · simp [ne, Ne.symm ne]
  · simp [ne, Ne.symm ne]
theorem far_inc {p : Pa} {r : Nat} : p.far r = p.a ∨ p.far r = p.b := by unfold Pa.far; split <;> simp
theorem far_ne {p : Pa} {r : Nat} (h : r = p.a ∨ r = p.b) (ne : p.a ≠ p.b) : p.far r ≠ r := by
  unfold Pa.far
  rcases h with rfl | rfl
  · simp [ne, Ne.symm ne]
  · simp [ne, Ne.symm ne]
structure Base (R : Nat) (ps : List Pa) (s : BS) : Prop where
  l1 : s.ss.length = R
  l2 : s.cs.length = R
  up : ∀ (r b : Nat), s.ss[r]? = some (some b) → ∃ root l, Up ps s.ss s.cs r b root l ∧ l.length < cnt s.ss
  un : ∀ (r : Nat), s.ss[r]? = some none → s.cs[r]? = some none
def Wr (ps : List Pa) (s : BS) (beg : Nat) : Prop := ∀ q, s.w = some q → ∃ p b, ps[q.2.1]? = some p ∧ (q.1 = p.a ∨ q.1 = p.b) ∧ p.far q.1 = q.2.2 ∧ (∃ l, Up ps s.ss s.cs q.1 b beg l) ∧ (∃ l, Up ps s.ss s.cs q.2.2 b beg l)
structure InSp (R : Nat) (ps : List Pa) (beg : Nat) (s : BS) : Prop extends Base R ps s where
  rows : ∀ r ∈ s.rows, ∃ b l, Up ps s.ss s.cs r b beg l
  rl : s.rows.length ≤ cnt s.ss
  old : s.w = none → ∀ p ∈ ps, ∀ (r b : Nat), (r = p.a ∨ r = p.b) → s.ss[r]? = some (some b) → r ∉ s.rows → ∃ c, s.ss[p.far r]? = some (some c) ∧ c ≠ b ∧ p.far r ∉ s.rows
  wr : Wr ps s beg
/-- the passage is looked at from here: fine -/
def Fine (s : BS) (here : Nat) (p : Pa) : Prop := here = p.a ∨ here = p.b → ∃ b c, s.ss[here]? = some (some b) ∧ s.ss[p.far here]? = some (some c) ∧ c ≠ b
structure Grow (s t : BS) : Prop where
  m : ∀ (r b : Nat), s.ss[r]? = some (some b) → t.ss[r]? = some (some b)
  r : ∃ m, t.rows = s.rows ++ m
theorem Grow.refl (s : BS) : Grow s s := ⟨fun _ _ h => h, [], by simp⟩
theorem Grow.trans {s t u : BS} (h : Grow s t) (h2 : Grow t u) : Grow s u := ⟨fun r b z => h2.m r b (h.m r b z), by
  obtain ⟨a, e⟩ := h.r
  obtain ⟨b, f⟩ := h2.r
  exact ⟨a ++ b, by rw [f, e, List.append_assoc]⟩⟩
theorem Fine.grow {s t : BS} {here : Nat} {p : Pa} (h : Fine s here p) (g : Grow s t) : Fine t here p := fun z => by
  obtain ⟨b, c, h1, h2, h3⟩ := h z
  exact ⟨b, c, g.m _ _ h1, g.m _ _ h2, h3⟩
theorem stepB_inv {R : Nat} {ps : List Pa} {beg : Nat} {s : BS} {here num : Nat} {p : Pa} (hR : ∀ p ∈ ps, p.ok R) (I : InSp R ps beg s) (hh : here ∈ s.rows) (hp : ps[num]? = some p) :
    InSp R ps beg (stepB here num p s) ∧ Grow s (stepB here num p s) ∧ ((stepB here num p s).w = none → s.w = none ∧ Fine (stepB here num p s) here p) := by
  obtain ⟨bh, lh, uh⟩ := I.rows here hh
  have pm : p ∈ ps := List.mem_of_getElem? hp
  have pk := hR p pm
  unfold stepB
  by_cases h1 : (here = p.a ∨ here = p.b) ∧ s.w = none
  · rw [if_pos h1]
    have hfar : p.far here < R := by
      have := pk.a; have := pk.b
      unfold Pa.far; split <;> assumption
    obtain ⟨x, hx⟩ : ∃ x, s.ss[p.far here]? = some x := ⟨_, List.getElem?_eq_getElem (by rw [I.l1]; exact hfar)⟩
    cases x with
    | none =>
      simp only [hx, uh.side]
      have gm : ∀ (r b : Nat), s.ss[r]? = some (some b) → (s.ss.set (p.far here) (some (1 - bh)))[r]? = some (some b) := fun r b z => by
        rw [get_set (fun e => by rw [e, hx] at z; cases z)]; exact z
      have un : s.cs[p.far here]? = some none := I.un _ hx
      have unew : Up ps (s.ss.set (p.far here) (some (1 - bh))) (s.cs.set (p.far here) (some (here, num))) (p.far here) (1 - bh) beg (num :: lh) :=
        .step (get_set' un) hp h1.1 rfl (get_set' hx) (uh.mono hx)
      have hnr : p.far here ∉ s.rows := fun z => by
        obtain ⟨b, l, u⟩ := I.rows _ z
        rw [u.side] at hx; cases hx
      refine ⟨⟨⟨by simp [I.l1], by simp [I.l2], fun r b z => ?_, fun r z => ?_⟩, fun r z => ?_, ?_, fun _ p' hp' r b hinc z hr => ?_, (fun q z => nomatch z)⟩, ⟨gm, _, rfl⟩, fun _ => ⟨h1.2, fun _ => ⟨bh, 1 - bh, gm _ _ uh.side, get_set' hx, by have := uh.le; omega⟩⟩⟩
      · by_cases e : r = p.far here
        · subst e
          have : b = 1 - bh := by
            have z : (s.ss.set (p.far here) (some (1 - bh)))[p.far here]? = some (some b) := z
            rw [get_set' hx] at z
            injection z with z; injection z with z; exact z.symm
          subst this
          obtain ⟨root2, l2, u2, hl2⟩ := I.up here bh uh.side
          refine ⟨root2, num :: l2, .step (get_set' un) hp h1.1 rfl (get_set' hx) (u2.mono hx), ?_⟩
          show (num :: l2).length < cnt (s.ss.set (p.far here) (some (1 - bh)))
          rw [cnt_set hx, List.length_cons]; omega
        · have z : (s.ss.set (p.far here) (some (1 - bh)))[r]? = some (some b) := z
          rw [get_set e] at z
          obtain ⟨root2, l2, u2, hl2⟩ := I.up r b z
          refine ⟨root2, l2, u2.mono hx, ?_⟩
          show l2.length < cnt (s.ss.set (p.far here) (some (1 - bh)))
          rw [cnt_set hx]; omega
      · have z : (s.ss.set (p.far here) (some (1 - bh)))[r]? = some none := z
        have e : r ≠ p.far here := fun e => by rw [e, get_set' hx] at z; cases z
        rw [get_set e] at z
        show (s.cs.set (p.far here) (some (here, num)))[r]? = some none
        rw [get_set e]
        exact I.un r z
      · have z : r ∈ s.rows ++ [p.far here] := z
        rcases List.mem_append.mp z with z | z
        · obtain ⟨b, l, u⟩ := I.rows r z
          exact ⟨b, l, u.mono hx⟩
        · rw [List.mem_singleton.mp z]
          exact ⟨_, _, unew⟩
      · show (s.rows ++ [p.far here]).length ≤ cnt (s.ss.set (p.far here) (some (1 - bh)))
        have := I.rl
        rw [cnt_set hx, List.length_append]
        simp only [List.length_cons, List.length_nil]; omega
      · have hr : r ∉ s.rows ++ [p.far here] := hr
        rw [List.mem_append, List.mem_singleton] at hr
        have hr1 : r ∉ s.rows := fun z => hr (.inl z)
        have hr2 : r ≠ p.far here := fun z => hr (.inr z)
        have z : (s.ss.set (p.far here) (some (1 - bh)))[r]? = some (some b) := z
        rw [get_set hr2] at z
        obtain ⟨c, c1, c2, c3⟩ := I.old h1.2 p' hp' r b hinc z hr1
        refine ⟨c, gm _ _ c1, c2, fun z => ?_⟩
        have z : p'.far r ∈ s.rows ++ [p.far here] := z
        rcases List.mem_append.mp z with z | z
        · exact c3 z
        · rw [List.mem_singleton.mp z, hx] at c1; cases c1
    | some c =>
      simp only [hx]
      by_cases hc : s.ss[here]? = some (some c)
      · rw [if_pos hc]
        have ebc : bh = c := by rw [uh.side] at hc; injection hc with hc; injection hc
        subst ebc
        have hin : p.far here ∈ s.rows := Classical.byContradiction fun hn => by
          obtain ⟨c', c1, c2, c3⟩ := I.old h1.2 p pm (p.far here) bh far_inc hx hn
          rw [far_far h1.1 pk.ne] at c3
          exact c3 hh
        obtain ⟨b2, l2, u2⟩ := I.rows _ hin
        have eb2 : b2 = bh := by rw [u2.side] at hx; injection hx with hx; injection hx
        subst eb2
        exact ⟨⟨⟨I.l1, I.l2, I.up, I.un⟩, I.rows, I.rl, (fun z => nomatch z), fun q hq => by
          cases hq
          exact ⟨p, b2, hp, h1.1, rfl, ⟨lh, uh⟩, l2, u2⟩⟩, ⟨fun _ _ z => z, [], by simp⟩, fun z => by cases z⟩
      · rw [if_neg hc]
        exact ⟨I, Grow.refl s, fun z => ⟨z, fun _ => ⟨bh, c, uh.side, hx, fun e => hc (by rw [e]; exact uh.side)⟩⟩⟩
  · rw [if_neg h1]
    exact ⟨I, Grow.refl s, fun z => ⟨z, fun e => absurd ⟨e, z⟩ h1⟩⟩
/-! ### the two sides: the loops -/
section
variable {n k R : Nat} {μ ν : Mu} {ps : List Pa}
theorem InSp.here {beg : Nat} {s : BS} (I : InSp R ps beg s) {h : Nat} (hh : h ∈ s.rows) : ∃ b, s.ss[h]? = some (some b) ∧ b ≤ 1 := by
  obtain ⟨b, l, u⟩ := I.rows h hh
  exact ⟨b, u.side, u.le⟩
theorem InSp.few {beg : Nat} {s : BS} (I : InSp R ps beg s) : s.rows.length ≤ R := by
  have h1 := I.rl
  have h2 := cnt_le s.ss
  rw [I.l1] at h2
  omega
theorem spread_for {beg : Nat} {s : BS} {here : Nat} {at_ : Int} {bg x5 x6 x7 : Option D} (H : CaveOk R ps) (I : InSp R ps beg s) (hh : here ∈ s.rows) :
    ∃ s' y5 y6 y7, forD (.tup [.nm 5, .nm 6]) (evS (evK pg n fs (k + 1)) ir_Sides_spread_b2) [] (enumD 0 (ps.map Pa.d)) [some (.adr μ.length), bg, some (.adr (μ.length + (ν.length + 5))), some (.int at_), some (.int here), x5, x6, x7] (s.st R ps μ ν) =
      mOk (.nx, [some (.adr μ.length), bg, some (.adr (μ.length + (ν.length + 5))), some (.int at_), some (.int here), y5, y6, y7]) (s'.st R ps μ ν) ∧ InSp R ps beg s' ∧ Grow s s' ∧ (s'.w = none → s.w = none ∧ ∀ p ∈ ps, Fine s' here p) := by
  obtain ⟨Δ', μ', e, s', y5, y6, y7, e1, e2, I', g, f⟩ := for_inv (t := .tup [.nm 5, .nm 6]) (ls := []) (b := evS (evK pg n fs (k + 1)) ir_Sides_spread_b2)
    (fun pre Δ μ' => ∃ s' y5 y6 y7, Δ = [some (.adr μ.length), bg, some (.adr (μ.length + (ν.length + 5))), some (.int at_), some (.int here), y5, y6, y7] ∧ μ' = s'.st R ps μ ν ∧ InSp R ps beg s' ∧ Grow s s' ∧ (s'.w = none → s.w = none ∧ ∀ p ∈ ps.take pre.length, Fine s' here p))
    (enumD 0 (ps.map Pa.d)) ⟨s, x5, x6, x7, rfl, rfl, I, Grow.refl s, fun z => ⟨z, fun p hp => by simp at hp⟩⟩ (fun _ _ _ _ => rfl) (by
      rintro pre d post Δ μ' he ⟨s1, y5, y6, y7, rfl, rfl, I1, g1, f1⟩
      obtain ⟨x, hx, rfl⟩ := enumD_split he
      rw [List.getElem?_map] at hx
      obtain ⟨p, hp, rfl⟩ := Option.map_eq_some_iff.mp hx
      have hh1 : here ∈ s1.rows := by
        obtain ⟨m, hm⟩ := g1.r
        rw [hm]; exact List.mem_append_left _ hh
      obtain ⟨b, hb1, hb2⟩ := I1.here hh1
      obtain ⟨z7, e⟩ := spread_b2 (n := n) (k := k) (μ := μ) (ν := ν) (ps := ps) (num := pre.length) (at_ := at_) (bg := bg) (x7 := y7) (H.p p (List.mem_of_getElem? hp)) I1.l1 I1.l2 hb1 hb2 (by have := I1.few; have := H.r; omega)
      obtain ⟨I2, g2, f2⟩ := stepB_inv H.p I1 hh1 hp
      refine ⟨_, _, _, rfl, e, _, _, _, _, rfl, rfl, I2, g1.trans g2, fun z => ?_⟩
      obtain ⟨z1, z2⟩ := f2 z
      obtain ⟨z3, z4⟩ := f1 z1
      refine ⟨z3, fun p' hp' => ?_⟩
      rw [List.length_append, List.length_cons, List.length_nil, List.take_add_one, hp] at hp'
      rcases List.mem_append.mp hp' with hp' | hp'
      · exact (z4 p' hp').grow g2
      · rw [List.mem_singleton.mp (show p' ∈ [p] from hp')]; exact z2)
  subst e1 e2
  refine ⟨s', y5, y6, y7, e, I', g, fun z => ⟨(f z).1, fun p hp => (f z).2 p ?_⟩⟩
  have hl : (enumD 0 (ps.map Pa.d)).length = ps.length := by
    have : ∀ i (xs : List D), (enumD i xs).length = xs.length := by
      intro i xs
      induction xs generalizing i with
      | nil => rfl
      | cons a r ih => rw [enumD, List.length_cons, List.length_cons, ih]
    rw [this, List.length_map]
  rw [hl, List.take_length]; exact hp
theorem spread_ok {room : Nat} {ss : List (Option Nat)} {cs : List (Option (Nat × Nat))} (hn : 100 ≤ n) (H : CaveOk R ps) (I : InSp R ps room ⟨ss, cs, none, [room]⟩) :
    ∃ s', evCall pg n fs (k + 2) "Sides" "spread" [.adr μ.length, .int room] (bst R ps μ ss cs none ν) = mOk .non (s'.st R ps μ ν) ∧ InSp R ps room s' ∧ Grow ⟨ss, cs, none, [room]⟩ s' ∧ (s'.w = none → ∀ r ∈ s'.rows, ∀ p ∈ ps, Fine s' r p) := by
  obtain ⟨Δ', μ', e, s', I', g', rfl, f'⟩ := while_inv (c := evC (evK pg n fs (k + 1)) ir_Sides_spread_c1) (b := evS (evK pg n fs (k + 1)) ir_Sides_spread_b1)
    (fun m Δ μ' => ∃ s at_ y4 y5 y6 y7, Δ = [some (.adr μ.length), some (.int room), some (.adr (μ.length + (ν.length + 5))), some (.int (at_ : Nat)), y4, y5, y6, y7] ∧ μ' = BS.st R ps μ ν s ∧ InSp R ps room s ∧ Grow ⟨ss, cs, none, [room]⟩ s ∧ at_ ≤ s.rows.length ∧ m = R - at_ ∧ (s.w = none → ∀ j < at_, ∀ r, s.rows[j]? = some r → ∀ p ∈ ps, Fine s r p))
    (fun Δ μ' => ∃ s, InSp R ps room s ∧ Grow ⟨ss, cs, none, [room]⟩ s ∧ μ' = BS.st R ps μ ν s ∧ (s.w = none → ∀ r ∈ s.rows, ∀ p ∈ ps, Fine s r p)) (by
      rintro m Δ μ' ⟨s, at_, y4, y5, y6, y7, rfl, rfl, I, g, ha, rfl, f⟩
      have hc : evC (evK pg n fs (k + 1)) ir_Sides_spread_c1 [some (.adr μ.length), some (.int room), some (.adr (μ.length + (ν.length + 5))), some (.int (at_ : Nat)), y4, y5, y6, y7] (s.st R ps μ ν) = mOk (decide (at_ < s.rows.length) && decide (s.w = none)) (s.st R ps μ ν) := by
        unfold ir_Sides_spread_c1 BS.st
        walk_at "evb"
        rw [List.length_map]
        by_cases h : at_ < s.rows.length
        · have h' : (at_ : Int) < s.rows.length := by omega
          simp only [h, h']
          walk_at "evb"
        · have h' : ¬ (at_ : Int) < s.rows.length := by omega
          simp only [h, h']
          walk_at "evb"
      by_cases h : at_ < s.rows.length ∧ s.w = none
      · right
        obtain ⟨h1, h2⟩ := h
        obtain ⟨here, hhere⟩ : ∃ r, s.rows[at_]? = some r := ⟨_, List.getElem?_eq_getElem h1⟩
        have hm := List.mem_of_getElem? hhere
        obtain ⟨s', z5, z6, z7, e, I', g', f'⟩ := spread_for (n := n) (k := k) (μ := μ) (ν := ν) (at_ := at_) (bg := some (.int room)) (x5 := y5) (x6 := y6) (x7 := y7) H I hm
        have hfew := I.few
        obtain ⟨m', hm'⟩ := g'.r
        refine ⟨_, _, _, R - (at_ + 1), by rw [hc]; simp [h1, h2]; rfl, ?_, by omega, s', at_ + 1, some (.int here), z5, z6, z7, rfl, rfl, I', g.trans g', by rw [hm', List.length_append]; omega, rfl, fun z j hj r hr p hp => ?_⟩
        · unfold ir_Sides_spread_b1
          refine seq_ok (Δ1 := [some (.adr μ.length), some (.int room), some (.adr (μ.length + (ν.length + 5))), some (.int (at_ : Nat)), some (.int here), y5, y6, y7]) (μ1 := s.st R ps μ ν) ?_ ?_
          · unfold BS.st
            walk_at "evb"
            rw [ix_map hhere]
            walk_at "evb"
          refine seq_ok (Δ1 := [some (.adr μ.length), some (.int room), some (.adr (μ.length + (ν.length + 5))), some (.int (at_ : Nat)), some (.int here), z5, z6, z7]) (μ1 := s'.st R ps μ ν) ?_ ?_
          · rw [s_for]
            have hi : evI (evK pg n fs (k + 1)) (.enm (.att (.att (.var 0) "cave") "passages")) [some (.adr μ.length), some (.int room), some (.adr (μ.length + (ν.length + 5))), some (.int (at_ : Nat)), some (.int here), y5, y6, y7] (s.st R ps μ ν) = mOk (enumD 0 (ps.map Pa.d), []) (s.st R ps μ ν) := by
              unfold BS.st
              walk_at "evb"
            rw [hi]
            exact e
          · rw [s_seq, s_aug (x := (at_ : Nat)) rfl]
            walk_at "evb"
            rfl
        · obtain ⟨z1, z2⟩ := f' z
          by_cases e : j = at_
          · subst e
            rw [hm', List.getElem?_append_left h1, hhere] at hr
            cases hr
            exact z2 p hp
          · have hj2 : j < at_ := by omega
            rw [hm', List.getElem?_append_left (by omega)] at hr
            exact (f z1 j hj2 r hr p hp).grow g'
      · left
        refine ⟨_, by rw [hc]; have : (decide (at_ < s.rows.length) && decide (s.w = none)) = false := by
                        rw [Bool.eq_false_iff]; intro z; rw [Bool.and_eq_true, decide_eq_true_eq, decide_eq_true_eq] at z; exact h z
                      rw [this], s, I, g, rfl, fun z r hr p hp => ?_⟩
        obtain ⟨j, hj⟩ := List.mem_iff_getElem?.mp hr
        have hjl := (List.getElem?_eq_some_iff.mp hj).1
        exact f z j (Classical.byContradiction fun q => h ⟨by omega, z⟩) r hj p hp)
    n R [some (.adr μ.length), some (.int room), some (.adr (μ.length + (ν.length + 5))), some (.int (0 : Nat)), none, none, none, none] (BS.st R ps μ ν ⟨ss, cs, none, [room]⟩) (by have := H.r; omega)
    ⟨_, 0, none, none, none, none, rfl, rfl, I, Grow.refl _, Nat.zero_le _, by omega, fun _ j hj => absurd hj (Nat.not_lt_zero _)⟩
  refine ⟨s', ?_, I', g', f'⟩
  rw [un_Sides_spread]
  unfold ir_Sides_spread
  have key : evS (evK pg n fs (k + 1)) (.seq (.asg (.nm 2) (.lst true (.cons (.var 1) .nil))) (.seq (.asg (.nm 3) (.cst (.int 0))) (.seq (.whil ir_Sides_spread_c1 ir_Sides_spread_b1) .skip))) [some (.adr μ.length), some (.int room), none, none, none, none, none, none] (bst R ps μ ss cs none ν) = mOk (.nx, Δ') (s'.st R ps μ ν) := by
    refine seq_ok (Δ1 := [some (.adr μ.length), some (.int room), some (.adr (μ.length + (ν.length + 5))), none, none, none, none, none]) (μ1 := BS.st R ps μ ν ⟨ss, cs, none, [room]⟩) ?_ ?_
    · unfold BS.st
      walk_at "evb"
      rfl
    refine seq_ok (Δ1 := [some (.adr μ.length), some (.int room), some (.adr (μ.length + (ν.length + 5))), some (.int (0 : Nat)), none, none, none, none]) (μ1 := BS.st R ps μ ν ⟨ss, cs, none, [room]⟩) ?_ ?_
    · walk_at "evb"
    refine seq_ok (Δ1 := Δ') (μ1 := s'.st R ps μ ν) ?_ s_skip
    rw [s_whil]
    exact e
  rw [key]; rfl
/-! ### Sides(cave) -/
/-- between two spreads -/
structure InIt (R : Nat) (ps : List Pa) (s : BS) (i : Nat) : Prop extends Base R ps s where
  all : s.w = none → ∀ (r : Nat), r < i → ∃ b, s.ss[r]? = some (some b)
  fine : s.w = none → ∀ p ∈ ps, ∀ (r b : Nat), (r = p.a ∨ r = p.b) → s.ss[r]? = some (some b) → ∃ c, s.ss[p.far r]? = some (some c) ∧ c ≠ b
  wr : ∃ beg, Wr ps s beg
theorem begin_inv {s : BS} {i : Nat} (J : InIt R ps s i) (hw : s.w = none) (hi : s.ss[i]? = some none) : InSp R ps i ⟨s.ss.set i (some 0), s.cs, none, [i]⟩ := by
  have un : s.cs[i]? = some none := J.un _ hi
  have root : Up ps (s.ss.set i (some 0)) s.cs i 0 i [] := .root (get_set' hi) un
  have ecs : s.cs.set i none = s.cs := by
    obtain ⟨h1, h2⟩ := List.getElem?_eq_some_iff.mp un
    have := List.set_getElem_self (as := s.cs) h1
    rw [h2] at this
    exact this
  have mono : ∀ {r b root : Nat} {l : List Nat}, Up ps s.ss s.cs r b root l → Up ps (s.ss.set i (some 0)) s.cs r b root l := fun u => by
    have := u.mono (c := 0) (x := none) hi
    rwa [ecs] at this
  refine ⟨⟨by simp [J.l1], J.l2, fun r b z => ?_, fun r z => ?_⟩, fun r z => ?_, ?_, fun _ p hp r b hinc z hr => ?_, fun q z => nomatch z⟩
  · show ∃ root l, Up ps (s.ss.set i (some 0)) s.cs r b root l ∧ l.length < cnt (s.ss.set i (some 0))
    have z : (s.ss.set i (some 0))[r]? = some (some b) := z
    by_cases e : r = i
    · subst e
      rw [get_set' hi] at z
      injection z with z; injection z with z
      subst z
      exact ⟨r, [], root, by rw [cnt_set hi]; simp⟩
    · rw [get_set e] at z
      obtain ⟨root2, l2, u2, hl2⟩ := J.up r b z
      exact ⟨root2, l2, mono u2, by rw [cnt_set hi]; omega⟩
  · have z : (s.ss.set i (some 0))[r]? = some none := z
    have e : r ≠ i := fun e => by rw [e, get_set' hi] at z; cases z
    rw [get_set e] at z
    exact J.un r z
  · rw [List.mem_singleton.mp z]
    exact ⟨0, [], root⟩
  · show 1 ≤ cnt (s.ss.set i (some 0))
    rw [cnt_set hi]; omega
  · have e : r ≠ i := fun e => hr (by rw [e]; exact List.mem_singleton.mpr rfl)
    have z : (s.ss.set i (some 0))[r]? = some (some b) := z
    rw [get_set e] at z
    obtain ⟨c, c1, c2⟩ := J.fine hw p hp r b hinc z
    have ne : p.far r ≠ i := fun e => by rw [e, hi] at c1; cases c1
    exact ⟨c, by show (s.ss.set i (some 0))[p.far r]? = _; rw [get_set ne]; exact c1, c2, fun z => ne (List.mem_singleton.mp z)⟩
theorem end_inv {s s' : BS} {i : Nat} (J : InIt R ps s i) (hi : s.ss[i]? = some none) (hw : s.w = none) (I : InSp R ps i s') (g : Grow ⟨s.ss.set i (some 0), s.cs, none, [i]⟩ s') (f : s'.w = none → ∀ r ∈ s'.rows, ∀ p ∈ ps, Fine s' r p) : InIt R ps s' (i + 1) := by
  refine ⟨I.toBase, fun z r hr => ?_, fun z p hp r b hinc hs => ?_, ⟨i, I.wr⟩⟩
  · by_cases e : r = i
    · subst e
      exact ⟨0, g.m _ _ (get_set' hi)⟩
    · obtain ⟨b, hb⟩ := J.all hw r (by omega)
      exact ⟨b, g.m _ _ (by show (s.ss.set i (some 0))[r]? = _; rw [get_set e]; exact hb)⟩
  · by_cases hr : r ∈ s'.rows
    · obtain ⟨b', c, h1, h2, h3⟩ := f z r hr p hp hinc
      have : b' = b := by rw [hs] at h1; injection h1 with h1; injection h1 with h1; exact h1.symm
      subst this
      exact ⟨c, h2, h3⟩
    · obtain ⟨c, c1, c2, _⟩ := I.old z p hp r b hinc hs hr
      exact ⟨c, c1, c2⟩
theorem start_inv : InIt R ps ⟨List.replicate R none, List.replicate R none, none, []⟩ 0 := by
  have no : ∀ {r b : Nat}, (List.replicate R (none : Option Nat))[r]? = some (some b) → False := fun z => by
    rw [List.getElem?_replicate] at z
    split at z <;> cases z
  refine ⟨⟨List.length_replicate, List.length_replicate, fun r b z => (no z).elim, fun r z => ?_⟩, fun _ r hr => absurd hr (Nat.not_lt_zero _), fun _ p hp r b hinc z => (no z).elim, 0, fun q z => nomatch z⟩
  have z : (List.replicate R (none : Option Nat))[r]? = some none := z
  show (List.replicate R (none : Option (Nat × Nat)))[r]? = some none
  rw [List.getElem?_replicate] at z ⊢
  split at z
  · rename_i h; rw [if_pos h]
  · cases z
theorem init_ok (hn : 100 ≤ n) (H : CaveOk R ps) : ∃ (s : BS) (ν : Mu), evCall pg n fs (k + 3) "Sides" "__init__" [.adr μ.length, caveD R ps] (μ ++ [.ins "Sides" []]) = mOk .non (bst R ps μ s.ss s.cs s.w ν) ∧ InIt R ps s R := by
  have hR := H.r
  have hrep : ∀ {α : Type} (f : α → D) (x : α), (List.replicate ((R : Int).toNat) [f x]).flatten = (List.replicate R x).map f := by
    intro α f x
    rw [Int.toNat_natCast]
    clear hR H
    induction R with
    | zero => rfl
    | succ R ih => rw [List.replicate_succ, List.flatten_cons, ih]; rfl
  obtain ⟨Δ', μ', e, s, ν, x, rfl, rfl, J⟩ := for_inv (t := .nm 2) (ls := []) (b := evS (evK pg n fs (k + 2)) ir_SidesUU_initUU_b1)
    (fun pre Δ μ' => ∃ (s : BS) (ν : Mu) (x : Option D), Δ = [some (.adr μ.length), some (caveD R ps), x] ∧ μ' = bst R ps μ s.ss s.cs s.w ν ∧ InIt R ps s pre.length) (rngD 0 R)
    (Δ := [some (.adr μ.length), some (caveD R ps), none]) (μ := bst R ps μ (List.replicate R none) (List.replicate R none) none []) ⟨⟨List.replicate R none, List.replicate R none, none, []⟩, [], none, rfl, rfl,
start_inv⟩ (fun _ _ _ _ => rfl) (by
      rintro pre d post Δ μ' he ⟨s, ν, x, rfl, rfl, J⟩
      have hd := split_at he
      have hlt : pre.length < R := by
        have := (List.getElem?_eq_some_iff.mp hd).1
        rwa [rngD_len] at this
      rw [rngD_at hlt] at hd
      have hd : d = .int (pre.length : Nat) := by
        have := Option.some.inj hd
        rw [← this]; congr 1; omega
      subst hd
      obtain ⟨y, hy⟩ : ∃ y, s.ss[pre.length]? = some y := ⟨_, List.getElem?_eq_getElem (by rw [J.l1]; exact hlt)⟩
      by_cases hc : y = none ∧ s.w = none
      · obtain ⟨rfl, hw⟩ := hc
        have I := begin_inv J hw hy
        obtain ⟨s', e, I', g, f⟩ := spread_ok (n := n) (k := k) (μ := μ) (ν := ν) hn H I
        refine ⟨_, _, _, rfl, ?_, s', ν ++ [.lst (s'.rows.map fun r => D.int (r : Nat))], some (.int (pre.length : Nat)), rfl, rfl, by rw [List.length_append]; exact end_inv J hy hw I' g f⟩
        unfold ir_SidesUU_initUU_b1
        walk_at "evb"
        rw [ix_map hy]
        walk_at "evb"
        simp only [hw]
        walk_at "evb"
        rw [st_map (f := sdD) (x := some 0) (v := .int 0) (by rw [J.l1]; exact hlt) rfl]
        walk_at "evb"
        rw [hw, e]
        walk_at "evb"
        rfl
      · refine ⟨_, _, _, rfl, ?_, s, ν, some (.int (pre.length : Nat)), rfl, rfl, ?_⟩
        · unfold ir_SidesUU_initUU_b1
          walk_at "evb"
          rw [ix_map hy]
          walk_at "evb"
          by_cases h1 : y = none
          · have h2 : ¬ s.w = none := fun z => hc ⟨h1, z⟩
            simp only [h1]
            walk_at "evb"
            simp only [h2]
            walk_at "evb"
          · simp only [h1]
            walk_at "evb"
        · rw [List.length_append]
          refine ⟨J.toBase, fun z r hr => ?_, J.fine, J.wr⟩
          by_cases e : r = pre.length
          · subst e
            cases y with
            | none => exact absurd ⟨rfl, z⟩ hc
            | some b => exact ⟨b, hy⟩
          · exact J.all z r (by have : r < pre.length + 1 := hr; omega))
  rw [rngD_len] at J
  refine ⟨s, ν, ?_, J⟩
  rw [un_SidesUU_initUU]
  unfold ir_SidesUU_initUU
  walk_at "ev"
  rw [sfC_fld cls_sides (by decide) (by decide)]
  walk_at "ev"
  have hlen : (List.replicate R D.non).length ≤ 1000000 := by rw [List.length_replicate]; omega
  have hrp : (List.replicate ((R : Int).toNat) [D.non]).flatten = List.replicate R D.non := by
    have := hrep id D.non
    rwa [List.map_id] at this
  rw [cave_rooms]
  walk_at "ev"
  rw [b_repA (xs := [.non]) (by rw [gA]; rfl) ⟨by omega, by omega, by show 1 * _ ≤ 1000000; omega⟩, hrp]
  walk_at "ev"
  simp only [hlen]
  walk_at "ev"
  rw [sfC_fld cls_sides (by decide) (Nat.lt_of_le_of_lt (putD_nil (n := 0)) (by decide))]
  walk_at "ev"
  rw [cave_rooms]
  walk_at "ev"
  rw [b_repA (xs := [.non]) (by rw [gA]; rfl) ⟨by omega, by omega, by show 1 * _ ≤ 1000000; omega⟩, hrp]
  walk_at "ev"
  simp only [hlen]
  walk_at "ev"
  rw [sfC_fld cls_sides (by decide) (Nat.lt_of_le_of_lt (putD_few (putD_nil (n := 0))) (by decide))]
  walk_at "ev"
  rw [sfC_fld cls_sides (by decide) (Nat.lt_of_le_of_lt (putD_few (putD_few (putD_nil (n := 0)))) (by decide))]
  walk_at "ev"
  rw [cave_rooms]
  walk_at "ev"
  rw [dRng_n (by omega)]
  walk_at "ev"
  have e0 : μ ++ [Cell.ins "Sides" (putD "wrong" D.non (putD "came" (D.adr (μ.length + 4)) (putD "sides" (D.adr (μ.length + 2)) (putD "cave" (caveD R ps) [])))), Cell.lst [D.non], Cell.lst (List.replicate R D.non), Cell.lst [D.non], Cell.lst (List.replicate R D.non)] = bst R ps μ (List.replicate R none) (List.replicate R none) none [] := by
    unfold bst
    rw [List.map_replicate, List.map_replicate]
    rfl
  rw [e0, e]
  rfl
/-- Sides(cave) -/
theorem sides_mk (hn : 100 ≤ n) (H : CaveOk R ps) : ∃ (s : BS) (ν : Mu), dMk (evK pg n fs (k + 3)) "Sides" false [caveD R ps] μ = mOk (.adr μ.length) (bst R ps μ s.ss s.cs s.w ν) ∧ InIt R ps s R := by
  obtain ⟨s, ν, e, J⟩ := init_ok (n := n) (k := k) (μ := μ) hn H
  refine ⟨s, ν, ?_, J⟩
  unfold dMk
  rw [evK_call, e]
  rfl
end
/-! ### walks, colours -/
inductive Wk (ps : List Pa) : Nat → List Nat → Nat → Prop
  | nil {x : Nat} : Wk ps x [] x
  | cons {x y nr : Nat} {l : List Nat} {p : Pa} (h : ps[nr]? = some p) (h2 : x = p.a ∨ x = p.b) (w : Wk ps (p.far x) l y) : Wk ps x (nr :: l) y
section
variable {R : Nat} {ps : List Pa}
theorem Wk.app {x y z : Nat} {l m : List Nat} (w : Wk ps x l y) (v : Wk ps y m z) : Wk ps x (l ++ m) z := by
  induction w with
  | nil => exact v
  | cons h h2 _ ih => exact .cons h h2 (ih v)
theorem Wk.rev {x y : Nat} {l : List Nat} (hp : ∀ p ∈ ps, p.ok R) (w : Wk ps x l y) : Wk ps y l.reverse x := by
  induction w with
  | nil => exact .nil
  | @cons x y nr l p h h2 w ih =>
    rw [List.reverse_cons]
    refine ih.app (.cons h far_inc ?_)
    rw [far_far h2 (hp p (List.mem_of_getElem? h)).ne]
    exact .nil
theorem Up.wk {ss : List (Option Nat)} {cs : List (Option (Nat × Nat))} {r b root : Nat} {l : List Nat} (hp : ∀ p ∈ ps, p.ok R) (u : Up ps ss cs r b root l) : Wk ps r l root := by
  induction u with
  | root h h2 => exact .nil
  | @step r h nr root b l p h1 h2 h3 h4 h5 u ih =>
    have hf : p.far r = h := by rw [← h4]; exact far_far h3 (hp p (List.mem_of_getElem? h2)).ne
    exact .cons h2 (by rw [← h4]; exact far_inc) (by rw [hf]; exact ih)
/-- sides of all rooms -/
structure Col (R : Nat) (ps : List Pa) (cl : List Nat) : Prop where
  len : cl.length = R
  le : ∀ c ∈ cl, c ≤ 1
  ne : ∀ p ∈ ps, ∃ (x y : Nat), cl[p.a]? = some x ∧ cl[p.b]? = some y ∧ x ≠ y
theorem Col.wk {cl : List Nat} (C : Col R ps cl) {x y : Nat} {l : List Nat} (w : Wk ps x l y) : ∀ c d : Nat, cl[x]? = some c → cl[y]? = some d → d % 2 = (c + l.length) % 2 := by
  induction w with
  | nil => intro c d h1 h2; rw [h1] at h2; cases h2; rfl
  | @cons x y nr l p h h2 w ih =>
    intro c d h3 h4
    obtain ⟨u, v, h5, h6, h7⟩ := C.ne p (List.mem_of_getElem? h)
    have l5 := C.le u (List.mem_of_getElem? h5)
    have l6 := C.le v (List.mem_of_getElem? h6)
    rw [List.length_cons]
    by_cases e : p.a = x
    · have hf : p.far x = p.b := by unfold Pa.far; rw [if_pos e]
      rw [hf] at ih
      have := ih v d h6 h4
      rw [← e, h5] at h3; cases h3
      omega
    · have hf : p.far x = p.a := by unfold Pa.far; rw [if_neg e]
      rw [hf] at ih
      have := ih u d h5 h4
      have e2 : x = p.b := h2.resolve_left fun z => e z.symm
      rw [e2, h6] at h3; cases h3
      omega
def Odd (R : Nat) (ps : List Pa) (root : Nat) (l : List Nat) : Prop := root < R ∧ Wk ps root l root ∧ l.length % 2 = 1
theorem Col.noOdd {cl : List Nat} (C : Col R ps cl) {root : Nat} {l : List Nat} (o : Odd R ps root l) : False := by
  obtain ⟨h1, h2, h3⟩ := o
  obtain ⟨c, hc⟩ : ∃ c, cl[root]? = some c := ⟨_, List.getElem?_eq_getElem (by rw [C.len]; exact h1)⟩
  have := C.wk h2 c c hc hc
  omega
/-- what the two sides come to -/
theorem InIt.col {s : BS} (H : CaveOk R ps) (J : InIt R ps s R) (hw : s.w = none) : ∃ cl, Col R ps cl ∧ s.ss.map sdD = cl.map fun c => D.int (c : Nat) := by
  have key : ∀ (ss : List (Option Nat)), (∀ x ∈ ss, ∃ b : Nat, x = some b) → ss.map sdD = (ss.map fun x => x.getD 0).map fun c => D.int (c : Nat) := by
    intro ss
    induction ss with
    | nil => intro _; rfl
    | cons x r ih =>
      intro h
      obtain ⟨b, rfl⟩ := h x List.mem_cons_self
      rw [List.map_cons, List.map_cons, List.map_cons, ih fun y hy => h y (List.mem_cons_of_mem _ hy)]
      rfl
  have hs : ∀ x ∈ s.ss, ∃ b : Nat, x = some b := fun x hx => by
    obtain ⟨r, hr⟩ := List.mem_iff_getElem?.mp hx
    have hl := (List.getElem?_eq_some_iff.mp hr).1
    obtain ⟨b, hb⟩ := J.all hw r (by rw [← J.l1]; exact hl)
    rw [hr] at hb
    exact ⟨b, Option.some.inj hb⟩
  refine ⟨s.ss.map fun x => x.getD 0, ⟨by rw [List.length_map, J.l1], fun c hc => ?_, fun p hp => ?_⟩, key s.ss hs⟩
  · obtain ⟨x, hx, rfl⟩ := List.mem_map.mp hc
    obtain ⟨b, rfl⟩ := hs x hx
    obtain ⟨r, hr⟩ := List.mem_iff_getElem?.mp hx
    obtain ⟨root, l, u, _⟩ := J.up r b hr
    exact u.le
  · obtain ⟨b, hb⟩ := J.all hw p.a (H.p p hp).a
    obtain ⟨c, c1, c2⟩ := J.fine hw p hp p.a b (.inl rfl) hb
    have hf : p.far p.a = p.b := by unfold Pa.far; rw [if_pos rfl]
    rw [hf] at c1
    exact ⟨b, c, by rw [List.getElem?_map, hb]; rfl, by rw [List.getElem?_map, c1]; rfl, fun e => c2 e.symm⟩
theorem InIt.odd {s : BS} (H : CaveOk R ps) (J : InIt R ps s R) {h nr t : Nat} (hw : s.w = some (h, nr, t)) : ∃ root b l1 l2, Up ps s.ss s.cs h b root l1 ∧ Up ps s.ss s.cs t b root l2 ∧ l1.length < R ∧ l2.length < R ∧ Odd R ps root (l1.reverse ++ [nr] ++ l2) := by
  obtain ⟨beg, W⟩ := J.wr
  obtain ⟨p, b, h1, h2, h3, ⟨l1, u1⟩, l2, u2⟩ := W _ hw
  have h1 : ps[nr]? = some p := h1
  have h2 : h = p.a ∨ h = p.b := h2
  have h3 : p.far h = t := h3
  have hb1 := u1.par
  have hb2 := u2.par
  have uniq : ∀ {r b b' root root' : Nat} {l l' : List Nat}, Up ps s.ss s.cs r b root l → Up ps s.ss s.cs r b' root' l' → l = l' := by
    intro r b b' root root' l l' u
    induction u generalizing l' root' b' with
    | root h h2 =>
      intro v
      cases v with
      | root _ _ => rfl
      | step k1 _ _ _ _ _ => rw [h2] at k1; cases k1
    | @step r h nr root b l p g1 g2 g3 g4 g5 u ih =>
      intro v
      cases v with
      | root _ k2 => rw [g1] at k2; cases k2
      | @step _ h' nr' _ b2 l2 p' k1 k2 k3 k4 k5 u' =>
        rw [g1] at k1
        injection k1 with k1; injection k1 with k1; injection k1 with k1 k3
        subst k1
        have k3 : nr = nr' := by assumption
        rw [k3, ih u']
  have short : ∀ {r l}, Up ps s.ss s.cs r b beg l → l.length < R := fun {r l} u => by
    obtain ⟨root', l', u', hl⟩ := J.up r b u.side
    rw [uniq u u']
    have := cnt_le s.ss
    rw [J.l1] at this
    omega
  refine ⟨beg, b, l1, l2, u1, u2, short u1, short u2, ?_, ?_, ?_⟩
  · have hr : ∀ {r b root : Nat} {l : List Nat}, Up ps s.ss s.cs r b root l → root < R := by
      intro r b root l u
      induction u with
      | root h _ => rw [← J.l1]; exact (List.getElem?_eq_some_iff.mp h).1
      | step _ _ _ _ _ _ ih => exact ih
    exact hr u1
  · exact (((u1.wk H.p).rev H.p).app (.cons h1 h2 .nil)).app (by rw [h3]; exact u2.wk H.p)
  · simp only [List.length_append, List.length_reverse, List.length_cons, List.length_nil]; omega
end
/-! ### path_from, sides, odd_ring -/
def nD (l : List Nat) : List D := l.map fun x => D.int (x : Nat)
theorem fz_nD {k : Nat} {l : List Nat} : ∀ x ∈ nD l, Fz (k + 1) x := fun x hx => by
  obtain ⟨c, _, rfl⟩ := List.mem_map.mp hx
  exact fz_int
section
variable {n k R : Nat} {μ ν : Mu} {ps : List Pa} {ss : List (Option Nat)} {cs : List (Option (Nat × Nat))} {w : Option (Nat × Nat × Nat)}
theorem path_from {r b root : Nat} {l : List Nat} (hn : 100 ≤ n) (hR : l.length < 100) (u : Up ps ss cs r b root l) : evCall pg n fs (k + 1) "Sides" "path_from" [.adr μ.length, .int r] (bst R ps μ ss cs w ν) = mOk (.lst (nD l)) (bst R ps μ ss cs w ν) := by
  obtain ⟨Δ', μ', e, r', x3, rfl, rfl⟩ := while_inv (c := evC (evK pg n fs k) ir_Sides_path_from_c1) (b := evS (evK pg n fs k) ir_Sides_path_from_b1)
    (fun m Δ μ' => ∃ (r' b' : Nat) (done rest : List Nat) (x3 : Option D), Δ = [some (.adr μ.length), some (.int r'), some (.adr (μ.length + (ν.length + 5))), x3] ∧ μ' = bst R ps μ ss cs w (ν ++ [.lst (nD done)]) ∧ Up ps ss cs r' b' root rest ∧ done ++ rest = l ∧ m = rest.length)
    (fun Δ μ' => ∃ (r' : Nat) (x3 : Option D), Δ = [some (.adr μ.length), some (.int r'), some (.adr (μ.length + (ν.length + 5))), x3] ∧ μ' = bst R ps μ ss cs w (ν ++ [.lst (nD l)])) (by
      rintro m Δ μ' ⟨r', b', done, rest, x3, rfl, rfl, u', hd, rfl⟩
      cases u' with
      | root h h2 =>
        left
        rw [List.append_nil] at hd
        subst hd
        refine ⟨bst R ps μ ss cs w (ν ++ [.lst (nD done)]), ?_, _, x3, rfl, rfl⟩
        unfold ir_Sides_path_from_c1
        walk_at "evb"
        rw [ix_map h2]
        walk_at "evb"
      | @step _ h nr _ b2 l2 p h1 h2 h3 h4 h5 u2 =>
        right
        refine ⟨bst R ps μ ss cs w (ν ++ [.lst (nD done)]), [some (.adr μ.length), some (.int h), some (.adr (μ.length + (ν.length + 5))), some (.int nr)], _, l2.length, ?_, ?_, by rw [List.length_cons]; omega, h, b2, done ++ [nr], l2, some (.int nr), rfl, rfl, u2, by rw [← hd, List.append_assoc]; rfl, rfl⟩
        · unfold ir_Sides_path_from_c1
          walk_at "evb"
          rw [ix_map h1]
          walk_at "evb"
        · unfold ir_Sides_path_from_b1
          walk_at "evb"
          rw [ix_map h1]
          simp only [cmD]
          walk_at "evb"
          have hb : (nD done).length < 1000000 := by
            have := congrArg List.length hd
            unfold nD
            rw [List.length_append] at this
            rw [List.length_map]; omega
          simp only [hb]
          walk_at "evb"
          unfold nD
          rw [List.map_append]
          rfl)
    n l.length [some (.adr μ.length), some (.int r), some (.adr (μ.length + (ν.length + 5))), none] (bst R ps μ ss cs w (ν ++ [.lst (nD [])])) (by omega) ⟨r, b, [], l, none, rfl, rfl, u, rfl, rfl⟩
  rw [un_Sides_path_from]
  have key : retD (evS (evK pg n fs k) ir_Sides_path_from [some (.adr μ.length), some (.int r), none, none] (bst R ps μ ss cs w ν)) = mOk (.adr (bst R ps μ ss cs w ν).length) (bst R ps μ ss cs w ν ++ [.lst (nD l)]) := by
    unfold ir_Sides_path_from
    have k2 : evS (evK pg n fs k) (.seq (.asg (.nm 2) (.lst true .nil)) (.seq (.whil ir_Sides_path_from_c1 ir_Sides_path_from_b1) (.seq (.ret (.var 2)) .skip))) [some (.adr μ.length), some (.int r), none, none] (bst R ps μ ss cs w ν) = mOk (.rt (.adr (μ.length + (ν.length + 5))), [some (.adr μ.length), some (.int r'), some (.adr (μ.length + (ν.length + 5))), x3]) (bst R ps μ ss cs w (ν ++ [.lst (nD l)])) := by
      refine seq_ok (Δ1 := [some (.adr μ.length), some (.int r), some (.adr (μ.length + (ν.length + 5))), none]) (μ1 := bst R ps μ ss cs w (ν ++ [.lst (nD [])])) ?_ ?_
      · walk_at "evb"
        rfl
      refine seq_ok ((s_whil).trans e) ?_
      walk_at "evb"
    rw [k2, bst_app, bst_len]; rfl
  rw [key, fzR_ok trimOk_app (fzA_lst (Nat.le_refl _) (by rw [gA0]; rfl) fz_nD), List.take_left]
end
/-! ### sides, odd_ring -/
section
variable {n k R : Nat} {μ : Mu} {ps : List Pa}
theorem Wk.lt {x y : Nat} {l : List Nat} (w : Wk ps x l y) : ∀ m ∈ l, m < ps.length := by
  induction w with
  | nil => intro m hm; cases hm
  | cons h h2 w ih =>
    intro m hm
    rcases List.mem_cons.mp hm with rfl | hm
    · exact (List.getElem?_eq_some_iff.mp h).1
    · exact ih m hm
theorem sides_ok (hn : 100 ≤ n) (H : CaveOk R ps) : (∃ cl, Col R ps cl ∧ evCall pg n fs (k + 4) "" "sides" [caveD R ps] μ = mOk (.tup (nD cl)) μ) ∨ ((∃ root l, Odd R ps root l) ∧ evCall pg n fs (k + 4) "" "sides" [caveD R ps] μ = mOk .non μ) := by
  obtain ⟨s, ν, e, J⟩ := sides_mk (n := n) (k := k) (μ := μ) hn H
  have hw : evCall pg n fs (k + 4) "" "sides" [caveD R ps] μ = fzR μ (mOk (if s.w = none then .tup (s.ss.map sdD) else .non) (bst R ps μ s.ss s.cs s.w ν)) := by
    rw [un_sides]
    congr 1
    unfold ir_sides
    walk_at "evb"
    rw [check_cave_t]
    walk_at "evb"
    rw [e]
    walk_at "evb"
    by_cases h : s.w = none
    · simp only [h]
      walk_at "evb"
      rw [h]
    · simp only [h]
      walk_at "evb"
  cases hs : s.w with
  | none =>
    obtain ⟨cl, C, ec⟩ := J.col H hs
    left
    refine ⟨cl, C, ?_⟩
    rw [hw, if_pos hs, ec]
    unfold bst
    exact fzR_app (fz_tup fun x hx => fz_nD (k := 14) x hx)
  | some q =>
    obtain ⟨h, nr, t⟩ := q
    obtain ⟨root, b, l1, l2, _, _, _, _, o⟩ := J.odd H hs
    right
    refine ⟨⟨_, _, o⟩, ?_⟩
    rw [hw, if_neg (by rw [hs]; intro z; cases z)]
    unfold bst
    exact fzR_app fz_non
theorem nD_app {a b : List Nat} : nD a ++ nD b = nD (a ++ b) := by unfold nD; rw [List.map_append]
theorem odd_ring_ok (hn : 100 ≤ n) (H : CaveOk R ps) : (∃ cl, Col R ps cl ∧ evCall pg n fs (k + 4) "" "odd_ring" [caveD R ps] μ = mOk .non μ) ∨ (∃ root l, Odd R ps root l ∧ l.length ≤ 100 ∧ evCall pg n fs (k + 4) "" "odd_ring" [caveD R ps] μ = mOk (.tup [.int root, .tup (nD l)]) μ) := by
  obtain ⟨s, ν, e, J⟩ := sides_mk (n := n) (k := k) (μ := μ) hn H
  have hR := H.r
  cases hs : s.w with
  | none =>
    obtain ⟨cl, C, ec⟩ := J.col H hs
    left
    refine ⟨cl, C, ?_⟩
    rw [un_odd_ring, ← fzR_app (μ := μ) (ν := (insD R ps μ.length s.w :: .lst [.non] :: .lst (s.ss.map sdD) :: .lst [.non] :: .lst (s.cs.map cmD) :: ν)) (fz_non (k := 15))]
    congr 1
    unfold ir_odd_ring
    walk_at "evb"
    rw [check_cave_t]
    walk_at "evb"
    rw [e]
    walk_at "evb"
    simp only [hs]
    walk_at "evb"
    rw [hs]
    rfl
  | some q =>
    obtain ⟨h, nr, t⟩ := q
    obtain ⟨root, b, l1, l2, u1, u2, s1, s2, o⟩ := J.odd H hs
    right
    refine ⟨root, l1.reverse ++ [nr] ++ l2, o, by simp only [List.length_append, List.length_reverse, List.length_cons, List.length_nil]; omega, ?_⟩
    have hl1 : (nD l1).length ≤ 1000000 := by unfold nD; rw [List.length_map]; omega
    have hl2 : (nD l2).length ≤ 100 := by unfold nD; rw [List.length_map]; omega
    have er : (nD l1).reverse = nD l1.reverse := by unfold nD; rw [List.map_reverse]
    obtain ⟨Δ', μ', e3, x3, rfl, rfl⟩ := while_inv (c := evC (evK pg n fs (k + 3)) ir_odd_ring_c1) (b := evS (evK pg n fs (k + 3)) ir_odd_ring_b1)
      (fun m Δ μ' => ∃ (r' b' : Nat) (rest : List Nat), Δ = [some (caveD R ps), some (.adr μ.length), some (.lst (nD (l1.reverse ++ [nr] ++ l2))), some (.int r'), some (.int h), some (.int nr), some (.int t)] ∧ μ' = bst R ps μ s.ss s.cs s.w ν ∧ Up ps s.ss s.cs r' b' root rest ∧ m = rest.length)
      (fun Δ μ' => ∃ (_ : Unit), Δ = [some (caveD R ps), some (.adr μ.length), some (.lst (nD (l1.reverse ++ [nr] ++ l2))), some (.int root), some (.int h), some (.int nr), some (.int t)] ∧ μ' = bst R ps μ s.ss s.cs s.w ν) (by
        rintro m Δ μ' ⟨r', b', rest, rfl, rfl, u', rfl⟩
        cases u' with
        | root g1 g2 =>
          left
          refine ⟨bst R ps μ s.ss s.cs s.w ν, ?_, (), rfl, rfl⟩
          unfold ir_odd_ring_c1
          walk_at "evb"
          rw [ix_map g2]
          walk_at "evb"
        | @step _ h' nr' _ b2 l2' p g1 g2 g3 g4 g5 u2' =>
          right
          refine ⟨bst R ps μ s.ss s.cs s.w ν, [some (caveD R ps), some (.adr μ.length), some (.lst (nD (l1.reverse ++ [nr] ++ l2))), some (.int h'), some (.int h), some (.int nr), some (.int t)], _, l2'.length, ?_, ?_, by rw [List.length_cons]; omega, h', b2, l2', rfl, rfl, u2', rfl⟩
          · unfold ir_odd_ring_c1
            walk_at "evb"
            rw [ix_map g1]
            walk_at "evb"
          · unfold ir_odd_ring_b1
            walk_at "evb"
            rw [ix_map g1]
            simp only [cmD]
            walk_at "evb")
      n l1.length [some (caveD R ps), some (.adr μ.length), some (.lst (nD (l1.reverse ++ [nr] ++ l2))), some (.int h), some (.int h), some (.int nr), some (.int t)] (bst R ps μ s.ss s.cs s.w ν) (by omega) ⟨h, b, l1, rfl, rfl, u1, rfl⟩
    rw [un_odd_ring, ← fzR_app (μ := μ) (ν := (insD R ps μ.length s.w :: .lst [.non] :: .lst (s.ss.map sdD) :: .lst [.non] :: .lst (s.cs.map cmD) :: ν)) (d := .tup [.int root, .tup (nD (l1.reverse ++ [nr] ++ l2))]) (fz_tup (k := 15) fun x hx => by
      simp only [List.mem_cons, List.not_mem_nil, or_false] at hx
      rcases hx with rfl | rfl
      · exact fz_int
      · exact fz_tup fun x hx => fz_nD (k := 13) x hx)]
    congr 1
    unfold ir_odd_ring
    walk_at "evb"
    rw [check_cave_t]
    walk_at "evb"
    rw [e]
    walk_at "evb"
    simp only [hs]
    walk_at "evb"
    rw [hs]
    simp only [wD]
    walk_at "evb"
    rw [path_from (k := k + 2) hn (by omega) u1]
    walk_at "evb"
    rw [er]
    have hA : (nD l1.reverse).length ≤ 30 := by rw [← er, List.length_reverse]; unfold nD; rw [List.length_map]; omega
    simp only [show decide ((nD l1.reverse).length ≤ 1000000) = true from decide_eq_true (by omega)]
    walk_at "evb"
    simp only [show decide ((nD l1.reverse).length ≤ 999999) = true from decide_eq_true (by omega)]
    walk_at "evb"
    rw [path_from (k := k + 2) hn (by omega) u2]
    walk_at "evb"
    rw [hs] at e3
    have el : nD l1.reverse ++ D.int nr :: nD l2 = nD (l1.reverse ++ [nr] ++ l2) := by unfold nD; simp
    simp only [show decide ((nD l1.reverse).length + ((nD l2).length + 1) ≤ 1000000) = true from decide_eq_true (by omega)]
    walk_at "evb"
    rw [el, e3]
    walk_at "evb"
    rfl
end
/-! ### the judges of sides -/
def valI : D → Int
  | .int i => i
  | _ => 0
def sidesB (R : Nat) (ps : List Pa) : D → Bool
  | .tup ds => decide (ds.length = R) && (ds.all fun d => isNum d 0 1) && ps.all fun p => !decide (valI (ds.getD p.a .non) = valI (ds.getD p.b .non))
  | _ => false
/-- what is judged as sides -/
def ShS (v : D) : Prop := match v with
  | .tup ds => (∀ d ∈ ds, Sc d) ∧ ds.length ≤ 1000
  | .lst _ => True
  | .non => True
  | _ => False
section
variable {n k R : Nat} {μ : Mu} {ps : List Pa}
theorem sidesB_tup {ds : List D} : sidesB R ps (.tup ds) = (decide (ds.length = R) && (ds.all fun d => isNum d 0 1) && ps.all fun p => !decide (valI (ds.getD p.a .non) = valI (ds.getD p.b .non))) := rfl
theorem sc_flat {d : D} (h : Sc d) : Flat d := by cases d <;> first | exact h.elim | exact True.intro
theorem get_num {ds : List D} (hl : ds.length = R) (ha : ds.all (fun d => isNum d 0 1) = true) {i : Nat} (hi : i < R) : ∃ z : Int, ds[i]? = some (.int z) ∧ ds.getD i .non = .int z := by
  have h1 := List.getElem?_eq_getElem (l := ds) (by rw [hl]; exact hi)
  rw [List.all_eq_true] at ha
  have h2 := ha _ (List.getElem_mem (by rw [hl]; exact hi))
  generalize hg : ds[i]'(by rw [hl]; exact hi) = d at h1 h2
  cases d with
  | int z => exact ⟨z, h1, by rw [List.getD_eq_getElem?_getD, h1]; rfl⟩
  | _ => simp [isNum] at h2
theorem are_sides_ok {v : D} (H : CaveOk R ps) (hv : ShS v) : evCall pg n fs (k + 3) "" "are_sides" [caveD R ps, v] μ = mOk (.bl (sidesB R ps v)) μ := by
  rw [un_are_sides, ← fzR_same (μ := μ) (fz_bl (k := 15))]
  congr 1
  unfold ir_are_sides
  have hR := H.r
  cases v <;> first | exact hv.elim | skip
  · walk_at "ev"
    rw [check_cave_t]
    walk_at "ev"
    rfl
  · rename_i ds
    obtain ⟨h1, h2⟩ := hv
    walk_at "ev"
    rw [check_cave_t]
    walk_at "ev"
    rw [cave_rooms]
    walk_at "ev"
    by_cases hl : ds.length = R
    · have hl' : (ds.length : Int) = R := by omega
      simp only [hl']
      walk_at "ev"
      rw [all_pure (fun _ => true) (fun d => isNum d 0 1) rfl _ fun d hd => ⟨_, rfl, by walk_at "ev", fun _ => by
        walk_at "ev"
        rw [is_number (sc_flat (h1 d hd))]⟩]
      walk_at "ev"
      cases ha : ds.all fun d => isNum d 0 1 with
      | false =>
        walk_at "ev"
        rw [sidesB_tup, ha, Bool.and_false, Bool.false_and]
      | true =>
        walk_at "ev"
        rw [cave_passages]
        walk_at "ev"
        have e := all_pure (t := .nm 2) (c := evC (evK pg n fs (k + 2)) .yes) (e := evE (evK pg n fs (k + 2)) (.cmp .ne (.ix (.var 1) (.ix (.var 2) (.cst (.int 0)))) (.ix (.var 1) (.ix (.var 2) (.cst (.int 1))))))
          (Δ := [some (caveD R ps), some (.tup ds), none, none]) (ls := []) (μ := μ) (fun _ => true) (fun d => match d with
          | .tup [.int a, .int b, _, _] => !decide (valI (ds.getD a.toNat .non) = valI (ds.getD b.toNat .non))
          | _ => false) rfl (ps.map Pa.d) (fun d hd => by
            obtain ⟨p, hp, rfl⟩ := List.mem_map.mp hd
            refine ⟨_, rfl, by walk_at "ev", fun _ => ?_⟩
            obtain ⟨x, x1, x2⟩ := get_num hl ha (H.p p hp).a
            obtain ⟨y, y1, y2⟩ := get_num hl ha (H.p p hp).b
            walk_at "ev"
            rw [pa_0]
            walk_at "ev"
            rw [atN', x1]
            walk_at "ev"
            rw [pa_1]
            walk_at "ev"
            rw [atN', y1]
            walk_at "ev"
            unfold Pa.d
            simp only [Int.toNat_natCast, x2, y2]
            rfl)
        rw [e]
        walk_at "ev"
        rw [sidesB_tup, ha, hl, List.all_map]
        congr 2
        simp
        rfl
    · have hl' : ¬ (ds.length : Int) = R := by omega
      simp only [hl']
      walk_at "ev"
      rw [sidesB_tup, decide_eq_false hl]; rfl
  · walk_at "ev"
    rw [check_cave_t]
    walk_at "ev"
    rfl
theorem fz_sides {v : D} : True := trivial
theorem law_are_sides_ok {v : D} (H : CaveOk R ps) (hv : ShS v) : evCall pg n fs (k + 1) "" "_law_are_sides" [.int R, .tup (ps.map Pa.d), v] μ = mOk (.bl (sidesB R ps v)) μ := by
  rw [un__law_are_sides, ← fzR_same (μ := μ) (fz_bl (k := 15))]
  congr 1
  unfold ir__law_are_sides
  have hR := H.r
  have hP := H.n
  cases v <;> first | exact hv.elim | skip
  · walk_at "ev"
    rfl
  · rename_i ds
    obtain ⟨h1, h2⟩ := hv
    walk_at "ev"
    by_cases hl : ds.length = R
    · have hl' : (ds.length : Int) = R := by omega
      simp only [hl']
      walk_at "ev"
      rw [comp_pure (fun d => !isNum d 0 1) id rfl _ _ (fun d hd => by
        refine ⟨_, rfl, ?_, fun _ => by walk_at "ev"; rfl⟩
        have := h1 d hd
        cases d <;> first | exact this.elim | skip
        · walk_at "ev"
          rfl
        · walk_at "ev"
          rfl
        · rename_i z
          walk_at "ev"
          unfold isNum
          by_cases z1 : (0 : Int) ≤ z
          · simp only [z1]
            walk_at "ev"
          · simp only [z1]
            walk_at "ev") (by show _ ≤ 1000000; simp; omega)]
      walk_at "ev"
      rw [q_neNil' (fun x hx => by
        obtain ⟨y, hy, rfl⟩ := List.mem_map.mp hx
        exact (h1 y (List.mem_filter.mp hy).1).py)]
      walk_at "ev"
      have e0 : (List.map id (List.filter (fun d => !isNum d 0 1) ds)).isEmpty = ds.all fun d => isNum d 0 1 := by
        rw [List.map_id, filter_empty]
        simp
      rw [e0]
      cases ha : ds.all fun d => isNum d 0 1 with
      | false =>
        walk_at "ev"
        rw [sidesB_tup, ha, Bool.and_false, Bool.false_and]
      | true =>
        walk_at "ev"
        rw [comp_pure (fun d => match d with
          | .tup [.int a, .int b, _, _] => decide (valI (ds.getD a.toNat .non) = valI (ds.getD b.toNat .non))
          | _ => false) id rfl _ _ (fun d hd => by
            obtain ⟨p, hp, rfl⟩ := List.mem_map.mp hd
            refine ⟨_, rfl, ?_, fun _ => by walk_at "ev"; rfl⟩
            obtain ⟨x, x1, x2⟩ := get_num hl ha (H.p p hp).a
            obtain ⟨y, y1, y2⟩ := get_num hl ha (H.p p hp).b
            walk_at "ev"
            rw [pa_0]
            walk_at "ev"
            rw [atN', x1]
            walk_at "ev"
            rw [pa_1]
            walk_at "ev"
            rw [atN', y1]
            walk_at "ev"
            unfold Pa.d
            simp only [Int.toNat_natCast, x2, y2]
            rfl) (by show _ ≤ 1000000; simp; omega)]
        walk_at "ev"
        rw [q_eqNil' (fun x hx => by
          obtain ⟨y, hy, rfl⟩ := List.mem_map.mp hx
          obtain ⟨p, hp, rfl⟩ := List.mem_map.mp (List.mem_filter.mp hy).1
          rfl)]
        walk_at "ev"
        rw [sidesB_tup, ha, hl, List.map_id, filter_empty, List.all_map]
        simp
        rfl
    · have hl' : ¬ (ds.length : Int) = R := by omega
      simp only [hl']
      walk_at "ev"
      rw [sidesB_tup, decide_eq_false hl]; rfl
  · walk_at "ev"
    rfl
end
/-! ### the judges of odd rings -/
/-- where numbers lead from here -/
def endB (ps : List Pa) : Nat → List Int → Option Nat
  | here, [] => some here
  | here, z :: l => if 0 ≤ z ∧ z < ps.length then
      match ps[z.toNat]? with
      | some p => if here = p.a ∨ here = p.b then endB ps (p.far here) l else none
      | none => none
    else none
def oddB (R : Nat) (ps : List Pa) (r : Int) (ns : List Int) : Bool := decide (0 ≤ r) && decide (r < R) && decide (ns.length % 2 = 1) && decide (endB ps r.toNat ns = some r.toNat)
section
variable {n k R : Nat} {μ : Mu} {ps : List Pa}
theorem ix_pas {i : Int} {p : Pa} (h : ps[i.toNat]? = some p) (h0 : 0 ≤ i) : atI (ps.map Pa.d) i = some p.d := by rw [atN h0, List.getElem?_map, h]; rfl
theorem trail_for {v : D} (H : CaveOk R ps) : ∀ (ns : List Int) (here : Nat) (x3 : Option D), ∃ Δ', forD (.nm 3) (evS (evK pg n fs (k + 1)) ir_is_trail_b1) [] (ns.map .int) [some (caveD R ps), some v, some (.int here), x3] μ =
    mOk (if (endB ps here ns).isSome then .nx else .rt (.bl false), Δ') μ
  | [], here, x3 => ⟨_, by rw [List.map_nil, fd_nil]; rfl⟩
  | z :: l, here, x3 => by
    have hn := H.n
    have hb : isNum (.int z) 0 ((ps.length : Int) - 1) = decide (0 ≤ z ∧ z < ps.length) := by
      unfold isNum
      by_cases h : 0 ≤ z ∧ z < ps.length
      · rw [decide_eq_true h, Bool.and_eq_true, decide_eq_true_eq, decide_eq_true_eq]; omega
      · rw [decide_eq_false h, Bool.eq_false_iff]
        intro z'
        rw [Bool.and_eq_true, decide_eq_true_eq, decide_eq_true_eq] at z'
        exact h ⟨z'.1, by omega⟩
    have step : ∀ (x3 : Option D), evS (evK pg n fs (k + 1)) ir_is_trail_b1 [some (caveD R ps), some v, some (.int here), some (.int z)] μ =
        if 0 ≤ z ∧ z < ps.length then
          match ps[z.toNat]? with
          | some p => if here = p.a ∨ here = p.b then mOk (.nx, [some (caveD R ps), some v, some (.int (p.far here)), some (.int z)]) μ else mOk (.rt (.bl false), [some (caveD R ps), some v, some (.int here), some (.int z)]) μ
          | none => none
        else mOk (.rt (.bl false), [some (caveD R ps), some v, some (.int here), some (.int z)]) μ := by
      intro x3
      unfold ir_is_trail_b1
      walk_at "ev"
      rw [cave_len (by omega)]
      walk_at "ev"
      rw [is_number (by exact True.intro), hb]
      walk_at "ev"
      by_cases h : 0 ≤ z ∧ z < ps.length
      · rw [decide_eq_true h]
        walk_at "ev"
        rw [cave_passages]
        walk_at "ev"
        obtain ⟨p, hp⟩ : ∃ p, ps[z.toNat]? = some p := ⟨_, List.getElem?_eq_getElem (by omega)⟩
        rw [ix_pas hp h.1]
        walk_at "ev"
        rw [pa_sl]
        walk_at "ev"
        have hin : ((here : Int) = p.a ∨ (here : Int) = p.b) ↔ (here = p.a ∨ here = p.b) := by omega
        simp only [hin, hp]
        by_cases h2 : here = p.a ∨ here = p.b
        · simp only [h2]
          walk_at "ev"
          rw [cave_passages]
          walk_at "ev"
          rw [ix_pas hp h.1]
          walk_at "ev"
          rw [far_end]
          walk_at "ev"
          simp [h]
        · simp only [h2]
          walk_at "ev"
          simp [h]
      · rw [decide_eq_false h, if_neg h]
        walk_at "ev"
    rw [List.map_cons, fd_cons]
    walk_at "ev"
    rw [step x3]
    unfold endB
    by_cases h : 0 ≤ z ∧ z < ps.length
    · rw [if_pos h, if_pos h]
      obtain ⟨p, hp⟩ : ∃ p, ps[z.toNat]? = some p := ⟨_, List.getElem?_eq_getElem (by omega)⟩
      simp only [hp]
      by_cases h2 : here = p.a ∨ here = p.b
      · rw [if_pos h2, if_pos h2]
        walk_at "ev"
        exact trail_for H l (p.far here) _
      · rw [if_neg h2, if_neg h2]
        walk_at "ev"
        exact ⟨_, rfl⟩
    · rw [if_neg h, if_neg h]
      walk_at "ev"
      exact ⟨_, rfl⟩
end
section
variable {n k R : Nat} {μ : Mu} {ps : List Pa}
theorem endB_some {z : Int} {l : List Int} {here e : Nat} (h : endB ps here (z :: l) = some e) : ∃ p, 0 ≤ z ∧ z < ps.length ∧ ps[z.toNat]? = some p ∧ (here = p.a ∨ here = p.b) ∧ endB ps (p.far here) l = some e := by
  unfold endB at h
  split at h
  · rename_i h1
    split at h
    · rename_i p hp
      split at h
      · rename_i h2
        exact ⟨p, h1.1, h1.2, hp, h2, h⟩
      · cases h
    · cases h
  · cases h
theorem endB_lt (H : CaveOk R ps) : ∀ {ns : List Int} {here e : Nat}, here < R → endB ps here ns = some e → e < R
  | [], here, e, h, he => by unfold endB at he; cases he; exact h
  | z :: l, here, e, h, he => by
    obtain ⟨p, h1, h2, hp, h3, h4⟩ := endB_some he
    refine endB_lt H ?_ h4
    have hk := H.p p (List.mem_of_getElem? hp)
    have := hk.a; have := hk.b
    unfold Pa.far; split <;> assumption
theorem is_trail_1 {r : Int} {ns : List Int} (H : CaveOk R ps) (hl : ns.length ≤ 1000) : evCall pg n fs (k + 2) "" "is_trail" [caveD R ps, .tup [.int r, .tup (ns.map .int)]] μ = mOk (.bl (isNum (.int r) 0 ((R : Int) - 1) && !ns.isEmpty && (endB ps r.toNat ns).isSome)) μ := by
  rw [un_is_trail, ← fzR_same (μ := μ) (fz_bl (k := 15))]
  congr 1
  unfold ir_is_trail
  walk_at "ev"
  rw [cave_rooms]
  walk_at "ev"
  rw [is_number (by exact True.intro)]
  walk_at "ev"
  cases hr : isNum (.int r) 0 ((R : Int) - 1) with
  | false =>
    walk_at "ev"
  | true =>
    walk_at "ev"
    have he : (ns.map D.int).isEmpty = ns.isEmpty := by cases ns <;> rfl
    rw [he]
    cases hn : ns.isEmpty with
    | true =>
      walk_at "ev"
    | false =>
      walk_at "ev"
      have h0 : 0 ≤ r := by
        unfold isNum at hr
        rw [Bool.and_eq_true, decide_eq_true_eq] at hr
        exact hr.1
      have hc : D.int r = D.int (r.toNat : Nat) := by congr 1; omega
      obtain ⟨Δ', e⟩ := trail_for (n := n) (k := k) (μ := μ) (v := .tup [.int r, .tup (ns.map .int)]) H ns r.toNat none
      rw [← hc] at e
      rw [e]
      cases (endB ps r.toNat ns).isSome with
      | true =>
        simp only [if_true]
        walk_at "ev"
      | false =>
        simp only [Bool.false_eq_true, if_false]
        walk_at "ev"
theorem ring_for {v : D} (H : CaveOk R ps) : ∀ (ns : List Int) (here e : Nat) (x3 : Option D), endB ps here ns = some e → ∃ y3, forD (.nm 3) (evS (evK pg n fs (k + 1)) ir_is_odd_ring_b1) [] (ns.map .int) [some (caveD R ps), some v, some (.int here), x3] μ =
    mOk (.nx, [some (caveD R ps), some v, some (.int e), y3]) μ
  | [], here, e, x3, h => ⟨x3, by unfold endB at h; cases h; rw [List.map_nil, fd_nil]⟩
  | z :: l, here, e, x3, h => by
    obtain ⟨p, h1, h2, hp, h3, h4⟩ := endB_some h
    obtain ⟨y3, ih⟩ := ring_for H l (p.far here) e (some (.int z)) h4
    refine ⟨y3, ?_⟩
    rw [List.map_cons, fd_cons]
    unfold ir_is_odd_ring_b1
    walk_at "ev"
    rw [cave_passages]
    walk_at "ev"
    rw [ix_pas hp h1]
    walk_at "ev"
    rw [far_end]
    walk_at "ev"
    exact ih
theorem isNum_R {r : Int} : isNum (.int r) 0 ((R : Int) - 1) = (decide (0 ≤ r) && decide (r < R)) := by
  show (decide (0 ≤ r) && decide (r ≤ (R : Int) - 1)) = _
  congr 1
  by_cases h : r < R
  · rw [decide_eq_true h, decide_eq_true (by omega)]
  · rw [decide_eq_false h, decide_eq_false (by omega)]
theorem mod2 {a : Nat} : decide (((a : Int) % 2) = 0) = !decide (a % 2 = 1) := by
  by_cases h : a % 2 = 1
  · rw [decide_eq_true h, decide_eq_false (by omega)]; rfl
  · rw [decide_eq_false h, decide_eq_true (by omega)]; rfl
theorem is_odd_1 {r : Int} {ns : List Int} (H : CaveOk R ps) (hl : ns.length ≤ 1000) : evCall pg n fs (k + 3) "" "is_odd_ring" [caveD R ps, .tup [.int r, .tup (ns.map .int)]] μ = mOk (.bl (oddB R ps r ns)) μ := by
  rw [un_is_odd_ring, ← fzR_same (μ := μ) (fz_bl (k := 15))]
  congr 1
  unfold ir_is_odd_ring oddB
  walk_at "ev"
  rw [check_cave_t]
  walk_at "ev"
  rw [is_trail_1 H hl, isNum_R]
  walk_at "ev"
  cases hr : (decide (0 ≤ r) && decide (r < R)) with
  | false =>
    walk_at "ev"
  | true =>
    walk_at "ev"
    cases hn : ns.isEmpty with
    | true =>
      have : ns = [] := by simpa using hn
      subst this
      walk_at "ev"
    | false =>
      walk_at "ev"
      cases he : endB ps r.toNat ns with
      | none =>
        simp only [Option.isSome_none]
        walk_at "ev"
      | some e =>
        simp only [Option.isSome_some]
        walk_at "ev"
        rw [b_mod (by decide)]
        walk_at "ev"
        rw [List.length_map, mod2]
        cases hodd : decide (ns.length % 2 = 1) with
        | false =>
          walk_at "ev"
        | true =>
          walk_at "ev"
          rw [Bool.and_eq_true, decide_eq_true_eq, decide_eq_true_eq] at hr
          have hc : D.int r = D.int (r.toNat : Nat) := by congr 1; omega
          obtain ⟨y3, e3⟩ := ring_for (n := n) (k := k + 1) (μ := μ) (v := .tup [.int r, .tup (ns.map .int)]) H ns r.toNat e none he
          rw [← hc] at e3
          rw [e3]
          walk_at "ev"
          congr 2
          by_cases h : e = r.toNat
          · rw [decide_eq_true (show (e : Int) = r by omega), decide_eq_true (by rw [h])]
          · rw [decide_eq_false (show ¬ (e : Int) = r by omega), decide_eq_false (by intro z; injection z with z; exact h z)]
theorem is_odd_2 {r : Int} {ds : List D} : evCall pg n fs (k + 3) "" "is_odd_ring" [caveD R ps, .tup [.int r, .lst ds]] μ = mOk (.bl false) μ := by
  rw [un_is_odd_ring, ← fzR_same (μ := μ) (fz_bl (k := 15))]
  congr 1
  have e : evCall pg n fs (k + 2) "" "is_trail" [caveD R ps, .tup [.int r, .lst ds]] μ = mOk (.bl false) μ := by
    rw [un_is_trail, ← fzR_same (μ := μ) (fz_bl (k := 15))]
    congr 1
    unfold ir_is_trail
    walk_at "ev"
    rw [cave_rooms]
    walk_at "ev"
    rw [is_number (by exact True.intro)]
    walk_at "ev"
    cases hr : isNum (.int r) 0 ((R : Int) - 1) with
    | false =>
      walk_at "ev"
    | true =>
      walk_at "ev"
  unfold ir_is_odd_ring
  walk_at "ev"
  rw [check_cave_t]
  walk_at "ev"
  rw [e]
  walk_at "ev"
theorem is_odd_3 {ds : List D} : evCall pg n fs (k + 3) "" "is_odd_ring" [caveD R ps, .lst ds] μ = mOk (.bl false) μ := by
  rw [un_is_odd_ring, ← fzR_same (μ := μ) (fz_bl (k := 15))]
  congr 1
  have e : evCall pg n fs (k + 2) "" "is_trail" [caveD R ps, .lst ds] μ = mOk (.bl false) μ := by
    rw [un_is_trail, ← fzR_same (μ := μ) (fz_bl (k := 15))]
    congr 1
  unfold ir_is_odd_ring
  walk_at "ev"
  rw [check_cave_t]
  walk_at "ev"
  rw [e]
  walk_at "ev"
/-! the law's own -/
theorem path_for {one other v : D} (H : CaveOk R ps) : ∀ (ns : List Int) (here : Nat) (x5 x6 x7 x8 x9 : Option D), ∃ Δ', forD (.nm 5) (evS (evK pg n fs k) ir__law_is_path_b1) [] (ns.map .int) [some (.tup (ps.map Pa.d)), some one, some other, some v, some (.int here), x5, x6, x7, x8, x9] μ =
    mOk (if (endB ps here ns).isSome then .nx else .rt (.bl false), Δ') μ ∧ ∀ e, endB ps here ns = some e → Δ'[2]? = some (some other) ∧ Δ'[4]? = some (some (.int e))
  | [], here, x5, x6, x7, x8, x9 => ⟨_, by rw [List.map_nil, fd_nil]; rfl, fun e h => by unfold endB at h; cases h; exact ⟨rfl, rfl⟩⟩
  | z :: l, here, x5, x6, x7, x8, x9 => by
    have hn := H.n
    rw [List.map_cons, fd_cons]
    unfold endB
    by_cases h : 0 ≤ z ∧ z < ps.length
    · obtain ⟨p, hp⟩ : ∃ p, ps[z.toNat]? = some p := ⟨_, List.getElem?_eq_getElem (by omega)⟩
      have hk := H.p p (List.mem_of_getElem? hp)
      by_cases h2 : here = p.a ∨ here = p.b
      · obtain ⟨Δ', e1, e2⟩ := path_for (one := one) (other := other) (v := v) H l (p.far here) (some (.int z)) (some (.int p.a)) (some (.int p.b)) (some (.int p.l)) (some (.int p.s))
        rw [if_pos h]
        simp only [hp]
        rw [if_pos h2]
        refine ⟨Δ', ?_, e2⟩
        have step : evS (evK pg n fs k) ir__law_is_path_b1 [some (.tup (ps.map Pa.d)), some one, some other, some v, some (.int here), some (.int z), x6, x7, x8, x9] μ = mOk (.nx, [some (.tup (ps.map Pa.d)), some one, some other, some v, some (.int (p.far here)), some (.int z), some (.int p.a), some (.int p.b), some (.int p.l), some (.int p.s)]) μ := by
          unfold ir__law_is_path_b1
          walk_at "ev"
          simp only [h.1]
          walk_at "ev"
          rw [List.length_map]
          simp only [h.2]
          walk_at "ev"
          rw [ix_pas hp h.1]
          unfold Pa.d
          walk_at "ev"
          unfold Pa.far
          by_cases ha : p.a = here
          · subst ha
            rw [if_pos rfl]
            walk_at "ev"
          · have ha' : ¬ (here : Int) = p.a := by omega
            obtain rfl : here = p.b := by omega
            rw [if_neg ha]
            simp only [ha']
            walk_at "ev"
            simp only [ha']
            walk_at "ev"
        walk_at "ev"
        rw [step]
        walk_at "ev"
        exact e1
      · rw [if_pos h]
        simp only [hp]
        rw [if_neg h2]
        have step : ∃ Δ', evS (evK pg n fs k) ir__law_is_path_b1 [some (.tup (ps.map Pa.d)), some one, some other, some v, some (.int here), some (.int z), x6, x7, x8, x9] μ = mOk (.rt (.bl false), Δ') μ := by
          refine ⟨[some (.tup (ps.map Pa.d)), some one, some other, some v, some (.int here), some (.int z), some (.int p.a), some (.int p.b), some (.int p.l), some (.int p.s)], ?_⟩
          unfold ir__law_is_path_b1
          walk_at "ev"
          simp only [h.1]
          walk_at "ev"
          rw [List.length_map]
          simp only [h.2]
          walk_at "ev"
          rw [ix_pas hp h.1]
          unfold Pa.d
          walk_at "ev"
          have ha' : ¬ (here : Int) = p.a := by omega
          have hb' : ¬ (here : Int) = p.b := by omega
          simp only [ha']
          walk_at "ev"
          simp only [hb']
          walk_at "ev"
        obtain ⟨Δ', step⟩ := step
        refine ⟨Δ', ?_, fun e z => by cases z⟩
        walk_at "ev"
        rw [step]
        walk_at "ev"
        first | done | rfl
    · rw [if_neg h]
      have step : ∃ Δ', evS (evK pg n fs k) ir__law_is_path_b1 [some (.tup (ps.map Pa.d)), some one, some other, some v, some (.int here), some (.int z), x6, x7, x8, x9] μ = mOk (.rt (.bl false), Δ') μ := by
        refine ⟨[some (.tup (ps.map Pa.d)), some one, some other, some v, some (.int here), some (.int z), x6, x7, x8, x9], ?_⟩
        unfold ir__law_is_path_b1
        walk_at "ev"
        by_cases h0 : 0 ≤ z
        · have h1 : ¬ z < ps.length := fun q => h ⟨h0, q⟩
          simp only [h0]
          walk_at "ev"
          rw [List.length_map]
          simp only [h1]
          walk_at "ev"
        · simp only [h0]
          walk_at "ev"
      obtain ⟨Δ', step⟩ := step
      refine ⟨Δ', ?_, fun e z => by cases z⟩
      walk_at "ev"
      rw [step]
      walk_at "ev"
      first | done | rfl
theorem law_odd_1 {r : Int} {ns : List Int} (H : CaveOk R ps) (hl : ns.length ≤ 1000) : evCall pg n fs (k + 2) "" "_law_is_odd_ring" [.int R, .tup (ps.map Pa.d), .tup [.int r, .tup (ns.map .int)]] μ = mOk (.bl (oddB R ps r ns)) μ := by
  rw [un__law_is_odd_ring, ← fzR_same (μ := μ) (fz_bl (k := 15))]
  congr 1
  unfold ir__law_is_odd_ring oddB
  walk_at "ev"
  by_cases h0 : 0 ≤ r
  · simp only [h0]
    walk_at "ev"
    by_cases h1 : r < R
    · simp only [h1]
      walk_at "ev"
      rw [b_mod (by decide)]
      walk_at "ev"
      rw [List.length_map, mod2]
      cases hodd : decide (ns.length % 2 = 1) with
      | false =>
        walk_at "ev"
      | true =>
        walk_at "ev"
        have hc : D.int r = D.int (r.toNat : Nat) := by congr 1; omega
        have e : evCall pg n fs (k + 1) "" "_law_is_path" [.tup (ps.map Pa.d), .int r, .int r, .tup (ns.map .int)] μ = mOk (.bl (decide (endB ps r.toNat ns = some r.toNat))) μ := by
          rw [un__law_is_path, ← fzR_same (μ := μ) (fz_bl (k := 15))]
          congr 1
          unfold ir__law_is_path
          walk_at "ev"
          obtain ⟨Δ', e1, e2⟩ := path_for (n := n) (k := k) (μ := μ) (one := .int r) (other := .int r) (v := .tup (ns.map .int)) H ns r.toNat none none none none none
          rw [← hc] at e1
          rw [e1]
          cases he : endB ps r.toNat ns with
          | none =>
            simp only [Option.isSome_none, Bool.false_eq_true, if_false]
            walk_at "ev"
          | some e =>
            obtain ⟨f1, f2⟩ := e2 e he
            simp only [Option.isSome_some, if_true]
            walk_at "ev"
            rw [f2]
            walk_at "ev"
            rw [f1]
            walk_at "ev"
            congr 2
            by_cases h : e = r.toNat
            · rw [decide_eq_true (show (e : Int) = r by omega), decide_eq_true (by rw [h])]
            · rw [decide_eq_false (show ¬ (e : Int) = r by omega), decide_eq_false (by intro z; injection z with z; exact h z)]
        rw [e]
        walk_at "ev"
    · simp only [h1]
      walk_at "ev"
  · simp only [h0]
    walk_at "ev"
theorem law_odd_2 {r : Int} {ds : List D} : evCall pg n fs (k + 2) "" "_law_is_odd_ring" [.int R, .tup (ps.map Pa.d), .tup [.int r, .lst ds]] μ = mOk (.bl false) μ := by
  rw [un__law_is_odd_ring, ← fzR_same (μ := μ) (fz_bl (k := 15))]
  congr 1
  unfold ir__law_is_odd_ring
  walk_at "ev"
  by_cases h0 : 0 ≤ r
  · simp only [h0]
    walk_at "ev"
    by_cases h1 : r < R
    · simp only [h1]
      walk_at "ev"
    · simp only [h1]
      walk_at "ev"
  · simp only [h0]
    walk_at "ev"
theorem law_odd_3 {ds : List D} : evCall pg n fs (k + 2) "" "_law_is_odd_ring" [.int R, .tup (ps.map Pa.d), .lst ds] μ = mOk (.bl false) μ := by
  rw [un__law_is_odd_ring, ← fzR_same (μ := μ) (fz_bl (k := 15))]
  congr 1
end
/-! ### bent rows, refusals -/
local macro_rules | `(tactic| walk_at "evr") => `(tactic| simp -implicitDefEqProofs only [e_var, e_cst, e_bin, e_neg, e_cmp, e_chain, e_not, e_and, e_or, e_ite, e_tup, e_lst, e_ix, e_sl, e_rev, e_att, e_call, e_mk, e_meth, e_bi, e_mt, e_isi, e_lc, e_gn, c_yes, c_tru, c_not, c_and, c_or, a_nil, a_cons, i_seq, i_rng, i_enm, seqI_some, enmI_some, o_no, o_some, kS_nx, kS_rt, kS_ct, kS_bk, kM_some, s_skip, s_seq, s_ex, s_asg, s_par, s_setx, s_setf, s_ite, s_whil, s_for, s_ret, s_brk, s_cnt, s_raise, retD_ok, retD_nx, retD_exc, bd_ok, bd_some, bd_exc, bd_bd, cIf_t, cIf_f, decide_true, decide_false, op_some, kI_int, kB_bl, varD_some, Option.map_some, Option.bind_some, b_add, b_sub, b_tup, b_lst, q_lt, q_le, q_gt, q_ge, q_eqI, q_neI, q_eqB, q_neB, q_isN, q_isI, q_isT, q_isL, q_isS, q_isBl, q_isO, q_isnN, q_isnI, q_isnT, q_isnL, q_isB, q_isnB, q_inT2, q_ninT2, t_bl, t_non, t_tup, t_lst, t_int, at0, at1, at2, at3, x_tup, x_lst, x_scr, x_adr, ixC_lst, x_set, puC_some, i_int, i_lenT, i_lenL, i_lenS, r_tup, r_lst, rl_lst, slT_, rv_tup, rv_lst, cut_2, List.getElem?_cons_zero, List.getElem?_cons_succ, List.set_cons_zero, List.set_cons_succ, tgD, tgDs, if_true, if_false, Bool.false_eq_true, Bool.not_true, Bool.not_false, Bool.and_true, Bool.true_and, Bool.and_false, Bool.false_and, Bool.or_true, Bool.or_false, Bool.true_or, Bool.false_or, evK_call, evK_W, gA0, gA, sA0, sA, List.cons_append, List.nil_append, List.length_cons, List.length_append, List.length_nil, List.append_assoc, Nat.add_zero, Nat.zero_add, m_app, wipeD, kL_some, lstC_lst, rl_adr, r_adr, t_adr, lenA_lst, i_lenA, appC_lst, dNew_F, dNew_T, big, Nat.reduceAdd, Nat.reduceSub, Nat.reduceLeDiff, Nat.reduceMul, Nat.le_refl, isi_non_int, isi_non_bool, isi_non_tuple, isi_non_list, isi_non_str, isi_non_dict, isi_non_tl, isi_bl_int, isi_bl_bool, isi_bl_tuple, isi_bl_list, isi_bl_str, isi_bl_dict, isi_bl_tl, isi_int_int, isi_int_bool, isi_int_tuple, isi_int_list, isi_int_str, isi_int_dict, isi_int_tl, isi_str_int, isi_str_bool, isi_str_tuple, isi_str_list, isi_str_str, isi_str_dict, isi_str_tl, isi_tup_int, isi_tup_bool, isi_tup_tuple, isi_tup_list, isi_tup_str, isi_tup_dict, isi_tup_tl, isi_lst_int, isi_lst_bool, isi_lst_tuple, isi_lst_list, isi_lst_str, isi_lst_dict, isi_lst_tl, isi_scr_int, isi_scr_bool, isi_scr_tuple, isi_scr_list, isi_scr_str, isi_scr_dict, isi_scr_tl, att_adr, sf_adr, me_adr, noX_ok', Int.cast_ofNat_Int, Int.reduceEq, Int.reduceLT, Int.reduceLE, Int.reduceAdd, Int.reduceSub, Int.reduceMul, Int.reduceNeg, eq_self, beq_self_eq_true, reduceCtorEq, kT_some, i_tup', kLs_some, i_list', lk_tup, lk_lst, lk_scr, kF_nx, kF_ct, kF_bk, kF_rt, fd_nil, kH_ok, kH_exc, e_heard', heardD_bad, setMany, rw0, rw1, rw2, rw3, rs1, rs2, rs3])
section
variable {n k R : Nat} {μ : Mu} {ps : List Pa}
theorem fz_tupSc {ds : List D} (h : ∀ d ∈ ds, Sc d) : Fz 16 (.tup ds) := fz_tup fun x hx => (h x hx).fz
theorem fz_lstSc {ds : List D} (h : ∀ d ∈ ds, Sc d) : Fz 16 (.lst ds) := fz_lst fun x hx => (h x hx).fz
theorem sc_nD {cl : List Nat} : ∀ d ∈ nD cl, Sc d := fun d hd => by
  obtain ⟨c, _, rfl⟩ := List.mem_map.mp hd
  exact True.intro
theorem bent {r : Row} {cl : List Nat} {most : Nat} (h : r.ok) (hl : cl.length ≤ 100) (hm : most ≤ 1000) : ∃ (r' : Row) (d : D), r'.ok ∧ ShS d ∧ Fz 16 d ∧ evCall pg n fs (k+3) "" "_law_bent_row" [.adr 0, .tup (nD cl), .int most] (r.cell :: μ) = mOk d (r'.cell :: μ) := by
  have hxl : (nD cl).length = cl.length := List.length_map ..
  have hsc := sc_nD (cl := cl)
  have hq : dCmp .eq (.tup (nD cl)) (.tup []) (r.cell :: μ) = some (nD cl).isEmpty := q_eqNilT fun x hx => (hsc x hx).py
  cases he : (nD cl).isEmpty with
  | true =>
    obtain ⟨r1, d, o1, hd, e1⟩ := pick (n := n) (k := k) (μ := μ) (xs := [.tup [], .non, .lst [], .tup [.int 0], .tup [.int 0, .int 1], .tup [.int most]]) h (by simp) (by simp) (by
      intro d hd
      simp only [List.mem_cons, List.not_mem_nil, or_false] at hd
      rcases hd with rfl | rfl | rfl | rfl | rfl | rfl
      · exact fz_tupSc fun x hx => nomatch hx
      · exact fz_non
      · exact fz_lstSc fun x hx => nomatch hx
      · exact fz_tupSc fun x hx => by simp only [List.mem_cons, List.not_mem_nil, or_false] at hx; subst hx; exact True.intro
      · exact fz_tupSc fun x hx => by simp only [List.mem_cons, List.not_mem_nil, or_false] at hx; rcases hx with rfl | rfl <;> exact True.intro
      · exact fz_tupSc fun x hx => by simp only [List.mem_cons, List.not_mem_nil, or_false] at hx; subst hx; exact True.intro)
    have hs : ShS d ∧ Fz 16 d := by
      simp only [List.mem_cons, List.not_mem_nil, or_false] at hd
      rcases hd with rfl | rfl | rfl | rfl | rfl | rfl
      · exact ⟨⟨(fun x hx => nomatch hx), by simp⟩, fz_tupSc fun x hx => nomatch hx⟩
      · exact ⟨True.intro, fz_non⟩
      · exact ⟨True.intro, fz_lstSc fun x hx => nomatch hx⟩
      · exact ⟨⟨fun x hx => by simp only [List.mem_cons, List.not_mem_nil, or_false] at hx; subst hx; exact True.intro, by simp⟩, fz_tupSc fun x hx => by simp only [List.mem_cons, List.not_mem_nil, or_false] at hx; subst hx; exact True.intro⟩
      · exact ⟨⟨fun x hx => by simp only [List.mem_cons, List.not_mem_nil, or_false] at hx; rcases hx with rfl | rfl <;> exact True.intro, by simp⟩, fz_tupSc fun x hx => by simp only [List.mem_cons, List.not_mem_nil, or_false] at hx; rcases hx with rfl | rfl <;> exact True.intro⟩
      · exact ⟨⟨fun x hx => by simp only [List.mem_cons, List.not_mem_nil, or_false] at hx; subst hx; exact True.intro, by simp⟩, fz_tupSc fun x hx => by simp only [List.mem_cons, List.not_mem_nil, or_false] at hx; subst hx; exact True.intro⟩
    refine ⟨r1, d, o1, hs.1, hs.2, ?_⟩
    rw [un__law_bent_row, ← fz_rowD (r := r) hs.2]
    congr 1
    unfold ir__law_bent_row
    walk_at "evr"
    rw [hq, he]
    walk_at "evr"
    rw [e1]
    walk_at "evr"
  | false =>
    have hpos : 0 < cl.length := by
      rw [← hxl]
      cases hx : nD cl with
      | nil => rw [hx] at he; cases he
      | cons a b => simp
    obtain ⟨r1, v, o1, a1, b1, e1⟩ := taken (n := n) (k := k + 1) (μ := μ) (m := (cl.length : Int)) h (by omega) (by omega)
    obtain ⟨j, rfl⟩ := Int.eq_ofNat_of_zero_le a1
    have hj : j < cl.length := by omega
    obtain ⟨r2, v2, o2, a2, b2, e2⟩ := taken (n := n) (k := k + 1) (μ := μ) (m := (most : Int) + 1) o1 (by omega) (by omega)
    have hat : atI (nD cl) (j : Int) = some (.int (cl[j] : Nat)) := by
      rw [atN']; unfold nD; rw [List.getElem?_map, List.getElem?_eq_getElem hj]; rfl
    obtain ⟨r3, d3, o3, hd3, e3⟩ := pick (n := n) (k := k) (μ := μ) (xs := [.int v2, .int ((cl[j] : Nat) + 1), .int ((cl[j] : Nat) - 1), .non, .bl true]) o2 (by simp) (by simp) (by
      intro d hd
      simp only [List.mem_cons, List.not_mem_nil, or_false] at hd
      rcases hd with rfl | rfl | rfl | rfl | rfl <;> first | exact fz_int | exact fz_non | exact fz_bl)
    have hs3 : Sc d3 := by
      simp only [List.mem_cons, List.not_mem_nil, or_false] at hd3
      rcases hd3 with rfl | rfl | rfl | rfl | rfl <;> exact True.intro
    have hA : cutD (nD cl) none (some (j : Int)) = (nD cl).take j := cut_to (by omega)
    have hB : cutD (nD cl) (some ((j : Int) + 1)) none = (nD cl).drop (j + 1) := by
      have := cut_from (xs := nD cl) (k := j + 1) (by omega)
      simpa using this
    have hC : cutD (nD cl) none (some 1) = (nD cl).take 1 := cut_to (k := 1) (by omega)
    have hD : cutD (nD cl) (some (j : Int)) none = (nD cl).drop j := cut_from (by omega)
    have lA : ((nD cl).take j).length ≤ 100 := by rw [List.length_take]; omega
    have lB : ((nD cl).drop (j + 1)).length ≤ 100 := by rw [List.length_drop]; omega
    have lC : ((nD cl).take 1).length ≤ 100 := by rw [List.length_take]; omega
    have lD : ((nD cl).drop j).length ≤ 100 := by rw [List.length_drop]; omega
    have sA : ∀ x ∈ (nD cl).take j, Sc x := fun x hx => hsc x (List.mem_of_mem_take hx)
    have sB : ∀ x ∈ (nD cl).drop (j + 1), Sc x := fun x hx => hsc x (List.mem_of_mem_drop hx)
    have sC : ∀ x ∈ (nD cl).take 1, Sc x := fun x hx => hsc x (List.mem_of_mem_take hx)
    have sD : ∀ x ∈ (nD cl).drop j, Sc x := fun x hx => hsc x (List.mem_of_mem_drop hx)
    have app : ∀ {as bs : List D}, (∀ x ∈ as, Sc x) → (∀ x ∈ bs, Sc x) → ∀ x ∈ as ++ bs, Sc x := fun ha hb x hx => (List.mem_append.mp hx).elim (ha x) (hb x)
    have one : ∀ {d : D}, Sc d → ∀ x ∈ [d], Sc x := fun hd x hx => by rw [List.mem_singleton.mp hx]; exact hd
    have hall : ∀ d ∈ [D.tup ((nD cl).take j ++ (nD cl).drop (j + 1)), .tup ((nD cl).take j ++ [d3] ++ (nD cl).drop (j + 1)), .tup (nD cl ++ (nD cl).take 1), .tup (nD cl).reverse, .lst (nD cl), .tup ((nD cl).take j ++ [.int (cl[j] : Nat)] ++ (nD cl).drop j)], ShS d ∧ Fz 16 d := by
      intro d hd
      simp only [List.mem_cons, List.not_mem_nil, or_false] at hd
      rcases hd with rfl | rfl | rfl | rfl | rfl | rfl
      · exact ⟨⟨app sA sB, by rw [List.length_append]; omega⟩, fz_tupSc (app sA sB)⟩
      · exact ⟨⟨app (app sA (one hs3)) sB, by simp only [List.length_append, List.length_cons, List.length_nil]; omega⟩, fz_tupSc (app (app sA (one hs3)) sB)⟩
      · exact ⟨⟨app hsc sC, by rw [List.length_append]; omega⟩, fz_tupSc (app hsc sC)⟩
      · exact ⟨⟨fun x hx => hsc x (List.mem_reverse.mp hx), by rw [List.length_reverse]; omega⟩, fz_tupSc fun x hx => hsc x (List.mem_reverse.mp hx)⟩
      · exact ⟨True.intro, fz_lstSc hsc⟩
      · exact ⟨⟨app (app sA (one True.intro)) sD, by simp only [List.length_append, List.length_cons, List.length_nil]; omega⟩, fz_tupSc (app (app sA (one True.intro)) sD)⟩
    obtain ⟨r4, d, o4, hd, e4⟩ := pick (n := n) (k := k) (μ := μ) (xs := [D.tup ((nD cl).take j ++ (nD cl).drop (j + 1)), .tup ((nD cl).take j ++ [d3] ++ (nD cl).drop (j + 1)), .tup (nD cl ++ (nD cl).take 1), .tup (nD cl).reverse, .lst (nD cl), .tup ((nD cl).take j ++ [.int (cl[j] : Nat)] ++ (nD cl).drop j)]) o3 (by simp) (by simp) (fun d hd => (hall d hd).2)
    refine ⟨r4, d, o4, (hall d hd).1, (hall d hd).2, ?_⟩
    rw [un__law_bent_row, ← fz_rowD (r := r) (hall d hd).2]
    congr 1
    unfold ir__law_bent_row
    walk_at "evr"
    rw [hq, he]
    walk_at "evr"
    rw [hxl, e1]
    walk_at "evr"
    rw [e2]
    walk_at "evr"
    rw [hat]
    walk_at "evr"
    rw [hat]
    walk_at "evr"
    rw [e3]
    walk_at "evr"
    rw [hA, hB, b_tup (by show _ ≤ 1000000; omega)]
    walk_at "evr"
    rw [hA, b_tup (by show _ + 1 ≤ 1000000; omega)]
    walk_at "evr"
    rw [hB, b_tup (by show _ ≤ 1000000; simp only [List.length_append, List.length_cons, List.length_nil]; omega)]
    walk_at "evr"
    rw [hC, b_tup (by show _ ≤ 1000000; omega)]
    walk_at "evr"
    simp only [show decide ((nD cl).length ≤ 1000000) = true from decide_eq_true (by omega)]
    walk_at "evr"
    rw [hat]
    walk_at "evr"
    rw [hA, b_tup (by show _ + 1 ≤ 1000000; omega)]
    walk_at "evr"
    rw [hD, b_tup (by show _ ≤ 1000000; simp only [List.length_append, List.length_cons, List.length_nil]; omega)]
    walk_at "evr"
    simp only [List.append_assoc, List.cons_append, List.nil_append] at e4
    rw [e4]
    walk_at "evr"
theorem sides_bad {d : D} (h : Flat d) : evCall pg n fs (k + 3) "" "sides" [d] μ = some (.exc ⟨"BadArgument", [("name", .str "cave")]⟩, μ) := by
  rw [un_sides, ← fzR_bad]
  congr 1
  unfold ir_sides
  walk_at "ev"
  rw [check_cave_f h]
  walk_at "ev"
theorem odd_ring_bad {d : D} (h : Flat d) : evCall pg n fs (k + 3) "" "odd_ring" [d] μ = some (.exc ⟨"BadArgument", [("name", .str "cave")]⟩, μ) := by
  rw [un_odd_ring, ← fzR_bad]
  congr 1
  unfold ir_odd_ring
  walk_at "ev"
  rw [check_cave_f h]
  walk_at "ev"
theorem are_sides_bad {d v : D} (h : Flat d) : evCall pg n fs (k + 3) "" "are_sides" [d, v] μ = some (.exc ⟨"BadArgument", [("name", .str "cave")]⟩, μ) := by
  rw [un_are_sides, ← fzR_bad]
  congr 1
  unfold ir_are_sides
  walk_at "ev"
  rw [check_cave_f h]
  walk_at "ev"
theorem is_odd_bad {d v : D} (h : Flat d) : evCall pg n fs (k + 3) "" "is_odd_ring" [d, v] μ = some (.exc ⟨"BadArgument", [("name", .str "cave")]⟩, μ) := by
  rw [un_is_odd_ring, ← fzR_bad]
  congr 1
  unfold ir_is_odd_ring
  walk_at "ev"
  rw [check_cave_f h]
  walk_at "ev"
def badD : D := .tup [.str "bad", .str "cave", .bl true]
theorem pl_bad : Pl 1 badD := .tup (fun d hd => by
  simp only [List.mem_cons, List.not_mem_nil, or_false] at hd
  rcases hd with rfl | rfl | rfl
  · exact .str (by decide +kernel)
  · exact .str (by decide +kernel)
  · exact .bl) (by simp)
theorem refused {r : Row} (h : r.ok) : ∃ (r' : Row), evCall pg n fs (k + 5) "" "_law_refused" [.adr 0, .tup (ps.map Pa.d)] (r.cell :: μ) = mOk (.bl true) (r'.cell :: μ) := by
  obtain ⟨r1, d, o1, hd, e1⟩ := pick (n := n) (k := k + 2) (μ := μ) (xs := [.non, .tup (ps.map Pa.d), .int 0, .str "x"]) h (by simp) (by simp) (by
    intro d hd
    simp only [List.mem_cons, List.not_mem_nil, or_false] at hd
    rcases hd with rfl | rfl | rfl | rfl
    · exact fz_non
    · exact fz_up fz_pas (by decide)
    · exact fz_int
    · exact fz_str)
  have hf : Flat d := by
    simp only [List.mem_cons, List.not_mem_nil, or_false] at hd
    rcases hd with rfl | rfl | rfl | rfl <;> exact True.intro
  refine ⟨r1, ?_⟩
  rw [un__law_refused, ← fz_rowD (r := r) (d := .bl true) fz_bl]
  congr 1
  unfold ir__law_refused
  walk_at "evr"
  rw [e1]
  walk_at "evr"
  rw [sides_bad (k := k + 1) hf]
  walk_at "evr"
  rw [odd_ring_bad (k := k + 1) hf]
  walk_at "evr"
  rw [are_sides_bad (k := k + 1) hf]
  walk_at "evr"
  rw [is_odd_bad (k := k + 1) hf]
  walk_at "evr"
  rw [b_repL ⟨by decide, by decide, by show 1 * 4 ≤ 1000000; decide⟩]
  walk_at "evr"
  have e2 : (List.replicate ((4 : Int).toNat) [D.tup [.str "bad", .str "cave", .bl true]]).flatten = [badD, badD, badD, badD] := rfl
  rw [e2]
  walk_at "evr"
  have pl : Pl 2 (.lst [badD, badD, badD, badD]) := .lst (fun d hd => by
    simp only [List.mem_cons, List.not_mem_nil, or_false] at hd
    rcases hd with rfl | rfl | rfl | rfl <;> exact pl_bad) (by simp)
  have e3 := alike_refl (n := n) (k + 4) (μ := r1.cell :: μ) pl (by omega)
  unfold badD at e3 ⊢
  rw [e3]
  walk_at "evr"
end
/-! ### the law -/
local macro_rules | `(tactic| walk_at "evr") => `(tactic| simp -implicitDefEqProofs only [e_var, e_cst, e_bin, e_neg, e_cmp, e_chain, e_not, e_and, e_or, e_ite, e_tup, e_lst, e_ix, e_sl, e_rev, e_att, e_call, e_mk, e_meth, e_bi, e_mt, e_isi, e_lc, e_gn, c_yes, c_tru, c_not, c_and, c_or, a_nil, a_cons, i_seq, i_rng, i_enm, seqI_some, enmI_some, o_no, o_some, kS_nx, kS_rt, kS_ct, kS_bk, kM_some, s_skip, s_seq, s_ex, s_asg, s_par, s_setx, s_setf, s_ite, s_whil, s_for, s_ret, s_brk, s_cnt, s_raise, retD_ok, retD_nx, retD_exc, bd_ok, bd_some, bd_exc, bd_bd, cIf_t, cIf_f, decide_true, decide_false, op_some, kI_int, kB_bl, varD_some, Option.map_some, Option.bind_some, b_add, b_sub, b_tup, b_lst, q_lt, q_le, q_gt, q_ge, q_eqI, q_neI, q_eqB, q_neB, q_isN, q_isI, q_isT, q_isL, q_isS, q_isBl, q_isO, q_isnN, q_isnI, q_isnT, q_isnL, q_isB, q_isnB, q_inT2, q_ninT2, t_bl, t_non, t_tup, t_lst, t_int, at0, at1, at2, at3, x_tup, x_lst, x_scr, x_adr, ixC_lst, x_set, puC_some, i_int, i_lenT, i_lenL, i_lenS, r_tup, r_lst, rl_lst, slT_, rv_tup, rv_lst, cut_2, List.getElem?_cons_zero, List.getElem?_cons_succ, List.set_cons_zero, List.set_cons_succ, tgD, tgDs, if_true, if_false, Bool.false_eq_true, Bool.not_true, Bool.not_false, Bool.and_true, Bool.true_and, Bool.and_false, Bool.false_and, Bool.or_true, Bool.or_false, Bool.true_or, Bool.false_or, evK_call, evK_W, gA0, gA, sA0, sA, List.cons_append, List.nil_append, List.length_cons, List.length_append, List.length_nil, List.append_assoc, Nat.add_zero, Nat.zero_add, m_app, wipeD, kL_some, lstC_lst, rl_adr, r_adr, t_adr, lenA_lst, i_lenA, appC_lst, dNew_F, dNew_T, big, Nat.reduceAdd, Nat.reduceSub, Nat.reduceLeDiff, Nat.reduceMul, Nat.le_refl, isi_non_int, isi_non_bool, isi_non_tuple, isi_non_list, isi_non_str, isi_non_dict, isi_non_tl, isi_bl_int, isi_bl_bool, isi_bl_tuple, isi_bl_list, isi_bl_str, isi_bl_dict, isi_bl_tl, isi_int_int, isi_int_bool, isi_int_tuple, isi_int_list, isi_int_str, isi_int_dict, isi_int_tl, isi_str_int, isi_str_bool, isi_str_tuple, isi_str_list, isi_str_str, isi_str_dict, isi_str_tl, isi_tup_int, isi_tup_bool, isi_tup_tuple, isi_tup_list, isi_tup_str, isi_tup_dict, isi_tup_tl, isi_lst_int, isi_lst_bool, isi_lst_tuple, isi_lst_list, isi_lst_str, isi_lst_dict, isi_lst_tl, isi_scr_int, isi_scr_bool, isi_scr_tuple, isi_scr_list, isi_scr_str, isi_scr_dict, isi_scr_tl, att_adr, sf_adr, me_adr, noX_ok', Int.cast_ofNat_Int, Int.reduceEq, Int.reduceLT, Int.reduceLE, Int.reduceAdd, Int.reduceSub, Int.reduceMul, Int.reduceNeg, eq_self, beq_self_eq_true, reduceCtorEq, kT_some, i_tup', kLs_some, i_list', lk_tup, lk_lst, lk_scr, kF_nx, kF_ct, kF_bk, kF_rt, fd_nil, kH_ok, kH_exc, e_heard', heardD_bad, setMany, rw0, rw1, rw2, rw3, rs1, rs2, rs3])
section
variable {n k R : Nat} {μ : Mu} {ps : List Pa}
/-- a comprehension of draws -/
theorem comp_row {S : Ev} {t : IT} {e : IE} {Δ : Dl} {m : Int} (ds : List D) (h : ∀ d ∈ ds, ∃ Δ1, tgD t d Δ = some Δ1 ∧ ∀ r : Row, r.ok → ∃ (r' : Row) (v : Int), r'.ok ∧ 0 ≤ v ∧ v < m ∧ evE S e Δ1 (r.cell :: μ) = mOk (.int v) (r'.cell :: μ)) :
    ∀ (acc : List Int) (r : Row), r.ok → acc.length + ds.length ≤ 1000 → (∀ z ∈ acc, 0 ≤ z ∧ z < m) → ∃ (r' : Row) (zs : List Int), r'.ok ∧ zs.length = acc.length + ds.length ∧ (∀ z ∈ zs, 0 ≤ z ∧ z < m) ∧ compD t (evC S .yes) (evE S e) Δ [] ds (acc.map .int) (r.cell :: μ) = mOk (zs.map .int) (r'.cell :: μ) := by
  induction ds with
  | nil => exact fun acc r hr hl ha => ⟨r, acc, hr, rfl, ha, by unfold compD; rw [if_pos lock_nil]⟩
  | cons d ds ih =>
    intro acc r hr hl ha
    obtain ⟨Δ1, h1, h2⟩ := h d List.mem_cons_self
    obtain ⟨r1, v, o1, a1, b1, e1⟩ := h2 r hr
    rw [List.length_cons] at hl
    obtain ⟨r2, zs, o2, l2, z2, e2⟩ := ih (fun x hx => h x (List.mem_cons_of_mem _ hx)) (acc ++ [v]) r1 o1 (by rw [List.length_append]; simp only [List.length_cons, List.length_nil]; omega) (fun z hz => by
      rcases List.mem_append.mp hz with hz | hz
      · exact ha z hz
      · rw [List.mem_singleton.mp hz]; exact ⟨a1, b1⟩)
    refine ⟨r2, zs, o2, by rw [l2, List.length_append, List.length_cons]; simp only [List.length_cons, List.length_nil]; omega, z2, ?_⟩
    unfold compD
    rw [if_pos lock_nil, h1, op_some, mb_ok]
    rw [c_yes, noX_ok', mb_ok]
    simp only [if_true]
    rw [e1, noX_ok', mb_ok]
    rw [if_pos (by rw [List.length_map]; show _ < 1000000; omega)]
    rw [List.map_append] at e2
    exact e2
theorem nD_map {l : List Nat} : nD l = List.map D.int (List.map (fun x : Nat => (x : Int)) l) := by unfold nD; rw [List.map_map]; rfl
def ShO (v : D) : Prop := (∃ (r : Int) (ns : List Int), v = .tup [.int r, .tup (ns.map .int)] ∧ ns.length ≤ 1000) ∨ (∃ (r : Int) (ds : List D), v = .tup [.int r, .lst ds]) ∨ ∃ ds, v = .lst ds
theorem judge_o {v : D} (H : CaveOk R ps) (hv : ShO v) : ∃ b : Bool, evCall pg n fs (k + 3) "" "is_odd_ring" [caveD R ps, v] μ = mOk (.bl b) μ ∧ evCall pg n fs (k + 3) "" "_law_is_odd_ring" [.int R, .tup (ps.map Pa.d), v] μ = mOk (.bl b) μ := by
  rcases hv with ⟨r, ns, rfl, hl⟩ | ⟨r, ds, rfl⟩ | ⟨ds, rfl⟩
  · exact ⟨_, is_odd_1 H hl, law_odd_1 (k := k + 1) H hl⟩
  · exact ⟨false, is_odd_2, law_odd_2 (k := k + 1)⟩
  · exact ⟨false, is_odd_3, law_odd_3 (k := k + 1)⟩
theorem fz_ro {r : Int} {ns : List Int} : Fz 16 (.tup [.int r, .tup (ns.map .int)]) := fz_tup fun x hx => by
  simp only [List.mem_cons, List.not_mem_nil, or_false] at hx
  rcases hx with rfl | rfl
  · exact fz_int
  · exact fz_tup (k := 14) fun y hy => by
      obtain ⟨z, _, rfl⟩ := List.mem_map.mp hy
      exact fz_int
/-- what is known of value and paper -/
def VP (R : Nat) (ps : List Pa) (v p : D) : Prop := (∃ cl, Col R ps cl ∧ v = .tup (nD cl) ∧ p = .non) ∨ (∃ root l, Odd R ps root l ∧ l.length ≤ 100 ∧ v = .non ∧ p = .tup [.int root, .tup (nD l)])
theorem law_body {r : Row} {v p : D} {x0 x6 x7 x10 x11 x12 : Option D} {i : Int} (h : r.ok) (H : CaveOk R ps) (hvp : VP R ps v p) :
    ∃ (r' : Row) (y10 y11 y12 : Option D), r'.ok ∧ evS (evK pg n fs (k + 5)) ir_law_b1 [x0, some (.adr 0), some (.int R), some (.tup (ps.map Pa.d)), some (caveD R ps), some (.int i), x6, x7, some v, some p, x10, x11, x12] [r.cell] =
      mOk (.nx, [x0, some (.adr 0), some (.int R), some (.tup (ps.map Pa.d)), some (caveD R ps), some (.int i), x6, x7, some v, some p, y10, y11, y12]) [r'.cell] := by
  have hR := H.r
  have hN := H.n
  obtain ⟨cl, hcl, hval⟩ : ∃ cl : List Nat, cl.length ≤ 100 ∧ ∀ μ', evE (evK pg n fs (k + 5)) (.ite (.tru (.cmp .isnt (.var 8) (.cst .non))) (.var 8) (.bin .mul false (.tup (.cons (.cst (.int 0)) (.cons (.cst (.int 1)) .nil))) (.cst (.int 4)))) [x0, some (.adr 0), some (.int R), some (.tup (ps.map Pa.d)), some (caveD R ps), some (.int i), x6, x7, some v, some p, x10, x11, x12] μ' = mOk (.tup (nD cl)) μ' := by
    rcases hvp with ⟨cl, C, rfl, rfl⟩ | ⟨root, l, o, hl, rfl, rfl⟩
    · refine ⟨cl, by rw [C.len]; omega, fun μ' => ?_⟩
      walk_at "ev"
    · refine ⟨[0, 1, 0, 1, 0, 1, 0, 1], by decide, fun μ' => ?_⟩
      walk_at "ev"
      rw [b_rep (by simp)]
      rfl
  obtain ⟨r1, s1, o1, sh1, fz1, e1⟩ := bent (n := n) (k := k + 2) (μ := []) (cl := cl) (most := 2) h hcl (by omega)
  obtain ⟨r2, v2, o2, a2, b2, e2⟩ := taken (n := n) (k := k + 4) (μ := []) (m := (R : Int) + 1) o1 (by omega) (by omega)
  obtain ⟨r3, v3, o3, a3, b3, e3⟩ := taken (n := n) (k := k + 4) (μ := []) (m := 3) o2 (by omega) (by omega)
  obtain ⟨r4, zs, o4, l4, z4, e4⟩ := comp_row (S := evK pg n fs (k + 5)) (t := .nm 11) (μ := []) (m := (ps.length : Int) + 1) (e := .call "_law_taken" (.cons (.var 1) (.cons (.bin .add false (.bi .len (.cons (.var 3) .nil)) (.cst (.int 1))) .nil)))
    (Δ := [x0, some (.adr 0), some (.int R), some (.tup (ps.map Pa.d)), some (caveD R ps), some (.int i), x6, x7, some v, some p, some s1, none, x12]) (rngD 0 (1 + 2 * v3).toNat) (fun d hd => by
      refine ⟨_, rfl, fun r hr => ?_⟩
      obtain ⟨r', v', o', a', b', e'⟩ := taken (n := n) (k := k + 4) (μ := []) (m := (ps.length : Int) + 1) hr (by omega) (by omega)
      refine ⟨r', v', o', a', b', ?_⟩
      walk_at "ev"
      rw [List.length_map, e']) [] r3 o3 (by rw [rngD_len]; simp; omega) (fun z hz => nomatch hz)
  have l4' : zs.length ≤ 1000 := by rw [l4, rngD_len]; simp; omega
  -- what is judged last
  obtain ⟨r5, s5, o5, sh5, e5⟩ : ∃ (r5 : Row) (s5 : D), r5.ok ∧ ShO s5 ∧ evS (evK pg n fs (k + 5)) (.ite (.tru (.cmp .isnt (.var 9) (.cst .non)))
      (.seq (.asg (.nm 10) (.call "_law_pick" (.cons (.var 1) (.cons (.lst false (.cons (.var 10) (.cons (.tup (.cons (.ix (.var 9) (.cst (.int 0))) (.cons (.rev false (.ix (.var 9) (.cst (.int 1)))) .nil))) (.cons (.tup (.cons (.ix (.var 9) (.cst (.int 0))) (.cons (.bin .add false (.ix (.var 9) (.cst (.int 1))) (.ix (.var 9) (.cst (.int 1)))) .nil))) (.cons (.tup (.cons (.ix (.var 9) (.cst (.int 0))) (.cons (.sl false (.ix (.var 9) (.cst (.int 1))) (.some (.cst (.int 1))) .no) .nil))) (.cons (.tup (.cons (.bin .add false (.ix (.var 9) (.cst (.int 0))) (.cst (.int 1))) (.cons (.ix (.var 9) (.cst (.int 1))) .nil))) (.cons (.bi (.list false) (.cons (.var 9) .nil)) (.cons (.tup (.cons (.ix (.var 9) (.cst (.int 0))) (.cons (.bi (.list false) (.cons (.ix (.var 9) (.cst (.int 1))) .nil)) .nil))) .nil)))))))) .nil)))) .skip) .skip)
      [x0, some (.adr 0), some (.int R), some (.tup (ps.map Pa.d)), some (caveD R ps), some (.int i), x6, x7, some v, some p, some (.tup [.int v2, .tup (zs.map .int)]), x11, x12] [r4.cell] =
      mOk (.nx, [x0, some (.adr 0), some (.int R), some (.tup (ps.map Pa.d)), some (caveD R ps), some (.int i), x6, x7, some v, some p, some s5, x11, x12]) [r5.cell] := by
    rcases hvp with ⟨cl, C, rfl, rfl⟩ | ⟨root, l, o, hl, rfl, rfl⟩
    · refine ⟨r4, _, o4, .inl ⟨v2, zs, rfl, l4'⟩, ?_⟩
      walk_at "ev"
    · have hnl : (nD l).length ≤ 100 := by unfold nD; rw [List.length_map]; exact hl
      have hc1 : cutD (nD l) (some 1) none = nD (l.drop 1) := by
        by_cases h1 : 1 ≤ l.length
        · have := cut_from (xs := nD l) (k := 1) (by unfold nD; rw [List.length_map]; exact h1)
          rw [show (some (1 : Int)) = some ((1 : Nat) : Int) from rfl, this]
          unfold nD; rw [List.map_drop]
        · have : l = [] := by cases l with
            | nil => rfl
            | cons a b => simp at h1
          subst this; rfl
      have hrv : (nD l).reverse = nD l.reverse := by unfold nD; rw [List.map_reverse]
      have happ : nD l ++ nD l = nD (l ++ l) := by unfold nD; rw [List.map_append]
      have hall : ∀ d ∈ [D.tup [.int v2, .tup (zs.map .int)], .tup [.int root, .tup (nD l.reverse)], .tup [.int root, .tup (nD (l ++ l))], .tup [.int root, .tup (nD (l.drop 1))], .tup [.int ((root : Int) + 1), .tup (nD l)], .lst [.int root, .tup (nD l)], .tup [.int root, .lst (nD l)]], ShO d ∧ Fz 16 d := by
        intro d hd
        simp only [List.mem_cons, List.not_mem_nil, or_false] at hd
        rcases hd with rfl | rfl | rfl | rfl | rfl | rfl | rfl
        · exact ⟨.inl ⟨_, _, rfl, l4'⟩, fz_ro⟩
        · rw [nD_map]; exact ⟨.inl ⟨_, _, rfl, by simp; omega⟩, fz_ro⟩
        · rw [nD_map]; exact ⟨.inl ⟨_, _, rfl, by simp; omega⟩, fz_ro⟩
        · rw [nD_map]; exact ⟨.inl ⟨_, _, rfl, by simp; omega⟩, fz_ro⟩
        · rw [nD_map]; exact ⟨.inl ⟨_, _, rfl, by simp; omega⟩, fz_ro⟩
        · refine ⟨.inr (.inr ⟨_, rfl⟩), fz_lst (k := 15) fun x hx => ?_⟩
          simp only [List.mem_cons, List.not_mem_nil, or_false] at hx
          rcases hx with rfl | rfl
          · exact fz_int
          · exact fz_tup (k := 14) fun x hx => fz_nD (k := 13) x hx
        · refine ⟨.inr (.inl ⟨_, _, rfl⟩), fz_tup (k := 15) fun x hx => ?_⟩
          simp only [List.mem_cons, List.not_mem_nil, or_false] at hx
          rcases hx with rfl | rfl
          · exact fz_int
          · exact fz_lst (k := 14) fun x hx => fz_nD (k := 13) x hx
      obtain ⟨r5, d, o5, hd, e5⟩ := pick (n := n) (k := k + 3) (μ := []) (xs := [D.tup [.int v2, .tup (zs.map .int)], .tup [.int root, .tup (nD l.reverse)], .tup [.int root, .tup (nD (l ++ l))], .tup [.int root, .tup (nD (l.drop 1))], .tup [.int ((root : Int) + 1), .tup (nD l)], .lst [.int root, .tup (nD l)], .tup [.int root, .lst (nD l)]]) o4 (by simp) (by simp) (fun d hd => (hall d hd).2)
      refine ⟨r5, d, o5, (hall d hd).1, ?_⟩
      walk_at "ev"
      rw [hrv, b_tup (by show _ ≤ 1000000; omega), happ]
      walk_at "ev"
      rw [hc1]
      simp only [show decide ((nD l).length ≤ 1000000) = true from decide_eq_true (by omega)]
      walk_at "ev"
      rw [e5]
      walk_at "ev"
  obtain ⟨b, j1, j2⟩ := judge_o (n := n) (k := k + 2) (μ := [r5.cell]) H sh5
  refine ⟨r5, some s5, x11, x12, o5, ?_⟩
  unfold ir_law_b1
  refine seq_ok (Δ1 := [x0, some (.adr 0), some (.int R), some (.tup (ps.map Pa.d)), some (caveD R ps), some (.int i), x6, x7, some v, some p, some s1, x11, x12]) (μ1 := [r1.cell]) ?_ ?_
  · have hval' : ∀ μ', evA (evK pg n fs (k + 5)) (.cons (.ite (.tru (.cmp .isnt (.var 8) (.cst .non))) (.var 8) (.bin .mul false (.tup (.cons (.cst (.int 0)) (.cons (.cst (.int 1)) .nil))) (.cst (.int 4)))) (.cons (.cst (.int 2)) .nil)) [x0, some (.adr 0), some (.int R), some (.tup (ps.map Pa.d)), some (caveD R ps), some (.int i), x6, x7, some v, some p, x10, x11, x12] μ' = mOk [.tup (nD cl), .int ((2 : Nat) : Int)] μ' := fun μ' => by
      rw [a_cons, hval]
      walk_at "ev"
    rw [s_asg, e_call, a_cons, e_var]
    simp only [List.getElem?_cons_succ, List.getElem?_cons_zero, varD_some, bd_ok, hval', evK_call, e1]
    walk_at "ev"
  refine seq_ok (Δ1 := [x0, some (.adr 0), some (.int R), some (.tup (ps.map Pa.d)), some (caveD R ps), some (.int i), x6, x7, some v, some p, some s1, x11, x12]) (μ1 := [r1.cell]) ?_ ?_
  · walk_at "ev"
    rw [are_sides_ok (k := k + 2) H sh1]
    walk_at "ev"
    rw [law_are_sides_ok (k := k + 4) H sh1]
    walk_at "ev"
    rw [alike_refl (j := 0) (k + 5) .bl (by omega)]
    walk_at "ev"
  refine seq_ok (Δ1 := [x0, some (.adr 0), some (.int R), some (.tup (ps.map Pa.d)), some (caveD R ps), some (.int i), x6, x7, some v, some p, some (.tup [.int v2, .tup (zs.map .int)]), x11, x12]) (μ1 := [r4.cell]) ?_ ?_
  · walk_at "ev"
    rw [e2]
    walk_at "ev"
    rw [e3]
    walk_at "ev"
    rw [b_mul (okMul_l (by decide))]
    walk_at "ev"
    have hrg : dRng [.int (1 + 2 * v3)] = some (rngD 0 (1 + 2 * v3).toNat) := by
      have := dRng_n (n := (1 + 2 * v3).toNat) (by omega)
      rwa [show (((1 + 2 * v3).toNat : Nat) : Int) = 1 + 2 * v3 by omega] at this
    rw [hrg]
    walk_at "ev"
    rw [List.map_nil] at e4
    rw [e4]
    walk_at "ev"
  refine seq_ok e5 ?_
  walk_at "ev"
  rw [j1]
  walk_at "ev"
  rw [j2]
  walk_at "ev"
  rw [alike_refl (j := 0) (k + 5) .bl (by omega)]
  walk_at "ev"
end
/-! ### the whole -/
section
variable {n k R : Nat} {μ : Mu} {ps : List Pa}
theorem Wk.endB (H : CaveOk R ps) {x y : Nat} {l : List Nat} (w : Wk ps x l y) : endB ps x (l.map fun z : Nat => (z : Int)) = some y := by
  induction w with
  | nil => rfl
  | @cons x y nr l p h h2 w ih =>
    rw [List.map_cons]
    unfold LK.endB
    have hl := (List.getElem?_eq_some_iff.mp h).1
    rw [if_pos ⟨by omega, by omega⟩]
    simp only [Int.toNat_natCast, h]
    rw [if_pos h2]
    exact ih
theorem Odd.oddB (H : CaveOk R ps) {root : Nat} {l : List Nat} (o : Odd R ps root l) : oddB R ps root (l.map fun z : Nat => (z : Int)) = true := by
  obtain ⟨h1, h2, h3⟩ := o
  unfold LK.oddB
  rw [Int.toNat_natCast, h2.endB H, List.length_map, decide_eq_true (show (0 : Int) ≤ root by omega), decide_eq_true (show (root : Int) < R by omega), decide_eq_true h3, decide_eq_true rfl]
  rfl
theorem Col.sidesB (H : CaveOk R ps) {cl : List Nat} (C : Col R ps cl) : sidesB R ps (.tup (nD cl)) = true := by
  rw [sidesB_tup]
  have h1 : (nD cl).length = R := by unfold nD; rw [List.length_map, C.len]
  rw [decide_eq_true h1, Bool.true_and, Bool.and_eq_true, List.all_eq_true, List.all_eq_true]
  refine ⟨fun d hd => ?_, fun p hp => ?_⟩
  · obtain ⟨c, hc, rfl⟩ := List.mem_map.mp hd
    have := C.le c hc
    unfold isNum
    rw [Bool.and_eq_true, decide_eq_true_eq, decide_eq_true_eq]
    omega
  · obtain ⟨x, y, hx, hy, hne⟩ := C.ne p hp
    have ex : (nD cl).getD p.a .non = .int x := by unfold nD; rw [List.getD_eq_getElem?_getD, List.getElem?_map, hx]; rfl
    have ey : (nD cl).getD p.b .non = .int y := by unfold nD; rw [List.getD_eq_getElem?_getD, List.getElem?_map, hy]; rfl
    rw [ex, ey]
    show (!decide ((x : Int) = (y : Int))) = true
    rw [Bool.not_eq_true', decide_eq_false_iff_not]
    omega
theorem of_pas : ∀ {L : List D}, (∀ x ∈ L, ∃ p ∈ ps, x = p.d) → ∃ ps' : List Pa, L = ps'.map Pa.d ∧ ∀ p ∈ ps', p ∈ ps
  | [], _ => ⟨[], rfl, fun p hp => nomatch hp⟩
  | x :: L, h => by
    obtain ⟨p, hp, rfl⟩ := h x List.mem_cons_self
    obtain ⟨ps', rfl, h2⟩ := of_pas (L := L) fun y hy => h y (List.mem_cons_of_mem _ hy)
    exact ⟨p :: ps', rfl, fun q hq => (List.mem_cons.mp hq).elim (fun e => e ▸ hp) (h2 q)⟩
theorem enumD_len : ∀ (i : Nat) (xs : List D), (enumD i xs).length = xs.length
  | _, [] => rfl
  | i, d :: r => by rw [enumD, List.length_cons, List.length_cons, enumD_len]
theorem enumD_mem {xs : List D} {d : D} (h : d ∈ enumD 0 xs) : ∃ (i : Nat) (x : D), x ∈ xs ∧ d = .tup [.int i, x] := by
  obtain ⟨j, hj⟩ := List.mem_iff_getElem?.mp h
  rw [enumD_at] at hj
  obtain ⟨x, h1, h2⟩ := Option.map_eq_some_iff.mp hj
  exact ⟨0 + j, x, List.mem_of_getElem? h1, h2.symm⟩
/-- the draw that leaves out passages -/
theorem thin {r : Row} {x0 : Option D} (h : r.ok) (H : CaveOk R ps) : ∃ (r' : Row) (ps' : List Pa) (y6 y7 : Option D), r'.ok ∧ CaveOk R ps' ∧ evS (evK pg n fs (k + 5)) (.seq (.asg (.nm 6) (.lc false (.nm 11) (.rng (.cons (.var 2) .nil)) .yes (.call "_law_taken" (.cons (.var 1) (.cons (.cst (.int 2)) .nil))) [11]))
    (.seq (.asg (.nm 7) (.call "_law_taken" (.cons (.var 1) (.cons (.cst (.int 2)) .nil))))
    (.seq (.asg (.nm 3) (.bi .tuple (.cons (.lc false (.tup [(.nm 11), (.nm 12)]) (.enm (.var 3)) (.or (.tru (.cmp .ne (.ix (.var 6) (.ix (.var 12) (.cst (.int 0)))) (.ix (.var 6) (.ix (.var 12) (.cst (.int 1)))))) (.tru (.cmp .lt (.var 11) (.var 7)))) (.var 12) [11, 12]) .nil)))
    .skip))) [x0, some (.adr 0), some (.int R), some (.tup (ps.map Pa.d)), none, none, none, none, none, none, none, none, none] [r.cell] =
    mOk (.nx, [x0, some (.adr 0), some (.int R), some (.tup (ps'.map Pa.d)), none, none, y6, y7, none, none, none, none, none]) [r'.cell] := by
  have hR := H.r
  have hN := H.n
  obtain ⟨r1, zs, o1, l1, z1, e1⟩ := comp_row (S := evK pg n fs (k + 5)) (t := .nm 11) (μ := []) (m := 2) (e := .call "_law_taken" (.cons (.var 1) (.cons (.cst (.int 2)) .nil)))
    (Δ := [x0, some (.adr 0), some (.int R), some (.tup (ps.map Pa.d)), none, none, none, none, none, none, none, none, none]) (rngD 0 R) (fun d hd => by
      refine ⟨_, rfl, fun r hr => ?_⟩
      obtain ⟨r', v', o', a', b', e'⟩ := taken (n := n) (k := k + 4) (μ := []) (m := 2) hr (by omega) (by omega)
      refine ⟨r', v', o', a', b', ?_⟩
      walk_at "ev"
      rw [e']) [] r h (by rw [rngD_len]; simp; omega) (fun z hz => nomatch hz)
  rw [rngD_len, List.length_nil, Nat.zero_add] at l1
  rw [List.map_nil] at e1
  obtain ⟨r2, v2, o2, a2, b2, e2⟩ := taken (n := n) (k := k + 4) (μ := []) (m := 2) o1 (by omega) (by omega)
  have e3 := comp_pure (t := .tup [.nm 11, .nm 12]) (c := evC (evK pg n fs (k + 5)) (.or (.tru (.cmp .ne (.ix (.var 6) (.ix (.var 12) (.cst (.int 0)))) (.ix (.var 6) (.ix (.var 12) (.cst (.int 1)))))) (.tru (.cmp .lt (.var 11) (.var 7))))) (e := evE (evK pg n fs (k + 5)) (.var 12))
    (Δ := [x0, some (.adr 0), some (.int R), some (.tup (ps.map Pa.d)), none, none, some (.lst (zs.map .int)), some (.int v2), none, none, none, none, none]) (ls := []) (μ := [r2.cell]) (fun d => match d with
      | .tup [.int i, .tup [.int a, .int b, _, _]] => !decide (zs.getD a.toNat 0 = zs.getD b.toNat 0) || decide (i < v2)
      | _ => false) (fun d => match d with
      | .tup [_, x] => x
      | _ => .non) rfl (enumD 0 (ps.map Pa.d)) [] (fun d hd => by
        obtain ⟨i, x, hx, rfl⟩ := enumD_mem hd
        obtain ⟨p, hp, rfl⟩ := List.mem_map.mp hx
        refine ⟨_, rfl, ?_, fun _ => by walk_at "ev"⟩
        have ha := (H.p p hp).a
        have hb := (H.p p hp).b
        have ga : atI (zs.map D.int) (p.a : Int) = some (.int (zs.getD p.a 0)) := by
          rw [atN', List.getElem?_map, List.getElem?_eq_getElem (by omega), List.getD_eq_getElem?_getD, List.getElem?_eq_getElem (by omega)]; rfl
        have gb : atI (zs.map D.int) (p.b : Int) = some (.int (zs.getD p.b 0)) := by
          rw [atN', List.getElem?_map, List.getElem?_eq_getElem (by omega), List.getD_eq_getElem?_getD, List.getElem?_eq_getElem (by omega)]; rfl
        walk_at "ev"
        rw [pa_0]
        walk_at "ev"
        rw [ga]
        walk_at "ev"
        rw [pa_1]
        walk_at "ev"
        rw [gb]
        walk_at "ev"
        unfold Pa.d
        simp only [Int.toNat_natCast]
        cases hd : decide (zs.getD p.a 0 = zs.getD p.b 0) with
        | true =>
          walk_at "ev"
        | false =>
          walk_at "ev") (by rw [enumD_len]; show _ ≤ 1000000; simp; omega)
  obtain ⟨ps', ep, hp'⟩ := of_pas (ps := ps) (L := ((enumD 0 (ps.map Pa.d)).filter (fun d => match d with
      | .tup [.int i, .tup [.int a, .int b, _, _]] => !decide (zs.getD a.toNat 0 = zs.getD b.toNat 0) || decide (i < v2)
      | _ => false)).map (fun d => match d with
      | .tup [_, x] => x
      | _ => .non)) (fun x hx => by
    obtain ⟨d, hd, rfl⟩ := List.mem_map.mp hx
    obtain ⟨i, x', hx', rfl⟩ := enumD_mem (List.mem_filter.mp hd).1
    obtain ⟨p, hp, rfl⟩ := List.mem_map.mp hx'
    exact ⟨p, hp, rfl⟩)
  rw [List.nil_append, ep] at e3
  have hlen : ps'.length ≤ ps.length := by
    have := congrArg List.length ep
    rw [List.length_map, List.length_map] at this
    rw [← this]
    refine Nat.le_trans (List.length_filter_le _ _) ?_
    rw [enumD_len, List.length_map]; exact Nat.le_refl _
  refine ⟨r2, ps', some (.lst (zs.map .int)), some (.int v2), o2, ⟨hR, by omega, fun p hp => H.p p (hp' p hp)⟩, ?_⟩
  refine seq_ok (Δ1 := [x0, some (.adr 0), some (.int R), some (.tup (ps.map Pa.d)), none, none, some (.lst (zs.map .int)), none, none, none, none, none, none]) (μ1 := [r1.cell]) ?_ ?_
  · walk_at "ev"
    rw [dRng_n (by omega)]
    walk_at "ev"
    rw [e1]
    walk_at "ev"
  refine seq_ok (Δ1 := [x0, some (.adr 0), some (.int R), some (.tup (ps.map Pa.d)), none, none, some (.lst (zs.map .int)), some (.int v2), none, none, none, none, none]) (μ1 := [r2.cell]) ?_ ?_
  · walk_at "ev"
    rw [e2]
    walk_at "ev"
  walk_at "ev"
  rw [e3]
  walk_at "ev"
theorem pickN {r : Row} {xs : List Nat} (h : r.ok) (hx : xs ≠ []) (hl : xs.length < 1000) : ∃ (r' : Row) (m : Nat), r'.ok ∧ m ∈ xs ∧ evCall pg n fs (k+2) "" "_law_pick" [.adr 0, .lst (nD xs)] (r.cell :: μ) = mOk (.int m) (r'.cell :: μ) := by
  obtain ⟨r1, d, o1, hd, e1⟩ := pick (n := n) (k := k) (μ := μ) (xs := nD xs) h (by unfold nD; simpa using hx) (by unfold nD; rw [List.length_map]; omega) (fun d hd => fz_nD (k := 15) d hd)
  obtain ⟨m, hm, rfl⟩ := List.mem_map.mp hd
  exact ⟨r1, m, o1, hm, e1⟩
theorem law_all (ns : List Int) : ∃ μ, evCall pg 100 fs (k + 6) "" "law" [.scr ns] [] = some (.ok (.bl true), μ) := by
  have o0 : (⟨ns, 0, 4011016, 0⟩ : Row).ok := ⟨by show (0 : Int) ≤ 0; decide, by show (0 : Int) ≤ 4011016; decide, by show (4011016 : Int) < 2147483647; decide, by show (0 : Int) ≤ 0; decide⟩
  obtain ⟨r1, m1, o1, h1, e1⟩ := pickN (n := 100) (k := k + 3) (μ := []) (xs := [4, 9, 24]) o0 (by simp) (by simp)
  have hm1 : 3 ≤ m1 ∧ m1 ≤ 24 := by
    simp only [List.mem_cons, List.not_mem_nil, or_false] at h1
    omega
  obtain ⟨r2, R, o2, hR, e2⟩ := rooms_ (n := 100) (k := k + 2) (μ := []) (m := m1) o1 hm1.1 (by omega)
  obtain ⟨r3, m2, o3, h3, e3⟩ := pickN (n := 100) (k := k + 3) (μ := []) (xs := [6, 14, 30, 60]) o2 (by simp) (by simp)
  have hm2 : m2 ≤ 60 := by
    simp only [List.mem_cons, List.not_mem_nil, or_false] at h3
    omega
  obtain ⟨r4, ps0, o4, hp4, l4, e4⟩ := passages_ (n := 100) (k := k + 2) (μ := []) (R := R) (m := m2) o3 (by omega) (by omega)
  have H0 : CaveOk R ps0 := ⟨by omega, by omega, hp4⟩
  obtain ⟨r5, v5, o5, a5, b5, e5⟩ := taken (n := 100) (k := k + 4) (μ := []) (m := 2) o4 (by omega) (by omega)
  obtain ⟨r6, ps, y6, y7, o6, H, e6⟩ : ∃ (r6 : Row) (ps : List Pa) (y6 y7 : Option D), r6.ok ∧ CaveOk R ps ∧ evS (evK pg 100 fs (k + 5)) (.ite (.tru (.cmp .eq (.call "_law_taken" (.cons (.var 1) (.cons (.cst (.int 2)) .nil))) (.cst (.int 0))))
    (.seq (.asg (.nm 6) (.lc false (.nm 11) (.rng (.cons (.var 2) .nil)) .yes (.call "_law_taken" (.cons (.var 1) (.cons (.cst (.int 2)) .nil))) [11]))
    (.seq (.asg (.nm 7) (.call "_law_taken" (.cons (.var 1) (.cons (.cst (.int 2)) .nil))))
    (.seq (.asg (.nm 3) (.bi .tuple (.cons (.lc false (.tup [(.nm 11), (.nm 12)]) (.enm (.var 3)) (.or (.tru (.cmp .ne (.ix (.var 6) (.ix (.var 12) (.cst (.int 0)))) (.ix (.var 6) (.ix (.var 12) (.cst (.int 1)))))) (.tru (.cmp .lt (.var 11) (.var 7)))) (.var 12) [11, 12]) .nil)))
    .skip))) .skip) [some (.scr ns), some (.adr 0), some (.int R), some (.tup (ps0.map Pa.d)), none, none, none, none, none, none, none, none, none] [r4.cell] =
    mOk (.nx, [some (.scr ns), some (.adr 0), some (.int R), some (.tup (ps.map Pa.d)), none, none, y6, y7, none, none, none, none, none]) [r6.cell] := by
    by_cases hv : v5 = 0
    · obtain ⟨r6, ps, y6, y7, o6, H, e6⟩ := thin (n := 100) (k := k) (x0 := some (.scr ns)) o5 H0
      refine ⟨r6, ps, y6, y7, o6, H, ?_⟩
      rw [s_ite]
      have hc : evC (evK pg 100 fs (k + 5)) (.tru (.cmp .eq (.call "_law_taken" (.cons (.var 1) (.cons (.cst (.int 2)) .nil))) (.cst (.int 0)))) [some (.scr ns), some (.adr 0), some (.int R), some (.tup (ps0.map Pa.d)), none, none, none, none, none, none, none, none, none] [r4.cell] = mOk true [r5.cell] := by
        walk_at "ev"
        rw [e5]
        walk_at "ev"
        rw [decide_eq_true hv]
      rw [hc, bd_ok, cIf_t]
      exact e6
    · refine ⟨r5, ps0, none, none, o5, H0, ?_⟩
      rw [s_ite]
      have hc : evC (evK pg 100 fs (k + 5)) (.tru (.cmp .eq (.call "_law_taken" (.cons (.var 1) (.cons (.cst (.int 2)) .nil))) (.cst (.int 0)))) [some (.scr ns), some (.adr 0), some (.int R), some (.tup (ps0.map Pa.d)), none, none, none, none, none, none, none, none, none] [r4.cell] = mOk false [r5.cell] := by
        walk_at "ev"
        rw [e5]
        walk_at "ev"
        rw [decide_eq_false hv]
      rw [hc, bd_ok, cIf_f, s_skip]
  obtain ⟨v, p, hvp, es, eo⟩ : ∃ v p, VP R ps v p ∧ evCall pg 100 fs (k + 5) "" "sides" [caveD R ps] [r6.cell] = mOk v [r6.cell] ∧ evCall pg 100 fs (k + 5) "" "odd_ring" [caveD R ps] [r6.cell] = mOk p [r6.cell] := by
    rcases sides_ok (n := 100) (k := k + 1) (μ := [r6.cell]) (by decide) H with ⟨cl, C, e⟩ | ⟨⟨root, l, o⟩, e⟩
    · rcases odd_ring_ok (n := 100) (k := k + 1) (μ := [r6.cell]) (by decide) H with ⟨cl2, C2, e'⟩ | ⟨root, l, o, hl, e'⟩
      · exact ⟨_, _, .inl ⟨cl, C, rfl, rfl⟩, e, e'⟩
      · exact (C.noOdd o).elim
    · rcases odd_ring_ok (n := 100) (k := k + 1) (μ := [r6.cell]) (by decide) H with ⟨cl2, C2, e'⟩ | ⟨root, l, o, hl, e'⟩
      · exact (C2.noOdd o).elim
      · exact ⟨_, _, .inr ⟨root, l, o, hl, rfl, rfl⟩, e, e'⟩
  obtain ⟨Δ', μ', e7, r7, x5, x10, x11, x12, rfl, rfl, o7⟩ := for_inv (t := .nm 5) (ls := []) (b := evS (evK pg 100 fs (k + 5)) ir_law_b1)
    (fun pre Δ μ' => ∃ (r' : Row) (x5 x10 x11 x12 : Option D), Δ = [some (.scr ns), some (.adr 0), some (.int R), some (.tup (ps.map Pa.d)), some (caveD R ps), x5, y6, y7, some v, some p, x10, x11, x12] ∧ μ' = [r'.cell] ∧ r'.ok) (rngD 0 6)
    (Δ := [some (.scr ns), some (.adr 0), some (.int R), some (.tup (ps.map Pa.d)), some (caveD R ps), none, y6, y7, some v, some p, none, none, none]) (μ := [r6.cell]) ⟨r6, none, none, none, none, rfl, rfl, o6⟩ (fun _ _ _ _ => rfl) (by
      rintro pre d post Δ μ' he ⟨r', x5, x10, x11, x12, rfl, rfl, o'⟩
      have hd := split_at he
      have hlt : pre.length < 6 := by
        have := (List.getElem?_eq_some_iff.mp hd).1
        rwa [rngD_len] at this
      rw [rngD_at hlt] at hd
      obtain rfl := Option.some.inj hd
      obtain ⟨r8, y10, y11, y12, o8, e8⟩ := law_body (n := 100) (k := k) (x0 := some (.scr ns)) (x6 := y6) (x7 := y7) (x10 := x10) (x11 := x11) (x12 := x12) (i := 0 + (pre.length : Int)) o' H hvp
      exact ⟨_, _, _, rfl, e8, r8, _, _, _, _, rfl, rfl, o8⟩)
  obtain ⟨r9, e9⟩ := refused (n := 100) (k := k) (μ := []) (ps := ps) o7
  refine ⟨[], ?_⟩
  rw [un_law]
  have key : evS (evK pg 100 fs (k + 5)) ir_law [some (.scr ns), none, none, none, none, none, none, none, none, none, none, none, none] [] = mOk (.rt (.bl true), [some (.scr ns), some (.adr 0), some (.int R), some (.tup (ps.map Pa.d)), some (caveD R ps), x5, y6, y7, some v, some p, x10, x11, x12]) [r9.cell] := by
    unfold ir_law
    refine seq_ok (Δ1 := [some (.scr ns), some (.adr 0), none, none, none, none, none, none, none, none, none, none, none]) (μ1 := [(⟨ns, 0, 4011016, 0⟩ : Row).cell]) ?_ ?_
    · walk_at "ev"
      rfl
    refine seq_ok (Δ1 := [some (.scr ns), some (.adr 0), some (.int R), none, none, none, none, none, none, none, none, none, none]) (μ1 := [r2.cell]) ?_ ?_
    · walk_at "ev"
      rw [show ([.int 4, .int 9, .int 24] : List D) = nD [4, 9, 24] from rfl, e1]
      walk_at "ev"
      rw [e2]
      walk_at "ev"
    refine seq_ok (Δ1 := [some (.scr ns), some (.adr 0), some (.int R), some (.tup (ps0.map Pa.d)), none, none, none, none, none, none, none, none, none]) (μ1 := [r4.cell]) ?_ ?_
    · walk_at "ev"
      rw [show ([.int 6, .int 14, .int 30, .int 60] : List D) = nD [6, 14, 30, 60] from rfl, e3]
      walk_at "ev"
      rw [e4]
      walk_at "ev"
    refine seq_ok e6 ?_
    refine seq_ok (Δ1 := [some (.scr ns), some (.adr 0), some (.int R), some (.tup (ps.map Pa.d)), some (caveD R ps), none, y6, y7, none, none, none, none, none]) (μ1 := [r6.cell]) ?_ ?_
    · walk_at "ev"
      rw [cave_mk (k := k + 1) H]
      walk_at "ev"
    refine seq_ok (Δ1 := [some (.scr ns), some (.adr 0), some (.int R), some (.tup (ps.map Pa.d)), some (caveD R ps), none, y6, y7, some v, some p, none, none, none]) (μ1 := [r6.cell]) ?_ ?_
    · walk_at "ev"
      rw [es]
      walk_at "ev"
      rw [eo]
      walk_at "ev"
    refine seq_ok (Δ1 := [some (.scr ns), some (.adr 0), some (.int R), some (.tup (ps.map Pa.d)), some (caveD R ps), none, y6, y7, some v, some p, none, none, none]) (μ1 := [r6.cell]) ?_ ?_
    · rcases hvp with ⟨cl, C, rfl, rfl⟩ | ⟨root, l, o, hl, rfl, rfl⟩
      · walk_at "ev"
        simp
        walk_at "ev"
      · walk_at "ev"
        simp
        walk_at "ev"
    refine seq_ok (Δ1 := [some (.scr ns), some (.adr 0), some (.int R), some (.tup (ps.map Pa.d)), some (caveD R ps), none, y6, y7, some v, some p, none, none, none]) (μ1 := [r6.cell]) ?_ ?_
    · rcases hvp with ⟨cl, C, rfl, rfl⟩ | ⟨root, l, o, hl, rfl, rfl⟩
      · have hs : ShS (.tup (nD cl)) := ⟨sc_nD, by unfold nD; rw [List.length_map, C.len]; have := H.r; omega⟩
        walk_at "ev"
        rw [law_are_sides_ok (k := k + 4) H hs, C.sidesB H]
        walk_at "ev"
        rw [are_sides_ok (k := k + 2) H hs, C.sidesB H]
        walk_at "ev"
      · walk_at "ev"
    refine seq_ok (Δ1 := [some (.scr ns), some (.adr 0), some (.int R), some (.tup (ps.map Pa.d)), some (caveD R ps), none, y6, y7, some v, some p, none, none, none]) (μ1 := [r6.cell]) ?_ ?_
    · rcases hvp with ⟨cl, C, rfl, rfl⟩ | ⟨root, l, o, hl, rfl, rfl⟩
      · walk_at "ev"
      · rw [nD_map]
        walk_at "ev"
        rw [law_odd_1 (k := k + 3) H (by simp; omega), o.oddB H]
        walk_at "ev"
        rw [is_odd_1 (k := k + 2) H (by simp; omega), o.oddB H]
        walk_at "ev"
    refine seq_ok (Δ1 := [some (.scr ns), some (.adr 0), some (.int R), some (.tup (ps.map Pa.d)), some (caveD R ps), x5, y6, y7, some v, some p, x10, x11, x12]) (μ1 := [r7.cell]) ?_ ?_
    · walk_at "ev"
      rw [show dRng [.int 6] = some (rngD 0 6) from dRng_n (n := 6) (by decide)]
      walk_at "ev"
      exact e7
    walk_at "ev"
    rw [e9]
    walk_at "ev"
  rw [key, retD_ok, fzR_ok (d' := .bl true) rfl rfl]
  rfl
/-- the plain law -/
theorem lawOk : LawOk pg fs 12 := fun ns _ _ => by
  obtain ⟨μ, e⟩ := law_all (k := 7) ns
  exact ⟨100, μ, e⟩
end

end LK

set_option Elab.async false
set_option linter.all false
set_option maxRecDepth 100000
set_option maxHeartbeats 0
namespace LK
open M PySem PySem.Spec L2
abbrev R : PySem.W.OpenRow := PySem.W.OpenLaw.row PySem.Challenge.rw_cavetrue_k16_whole_sides_and_odd_rings
abbrev hk : PySem.W.Hook := hookM 7 pg (fp ++ [p_heard]) xs q.main.file tf.all ex
def ob (s : PySem.W.SharedT) : Bool × List He.FnW × List XW := obsM 7 pg (fp ++ [p_heard]) xs q.main.file tf.all ex (HandSHeadRun.getT s)
theorem ob_eq (s : PySem.W.SharedT) : ob s = hk.obs s.abs := obsM_eq (HandSHeadRun.getT_eq s)
theorem run (w : World) : HandSHeadRun.RunEq R (PySem.W.view R.prog [37]) hk ob 6000 names w := by
  intro os
  kernel_rfl
end LK

set_option Elab.async false
set_option linter.all false
set_option maxRecDepth 100000
set_option maxHeartbeats 0
namespace LK
open M PySem PySem.Spec L2
end LK
open PySem PySem.W PySem.Calls PyProof.Rows
theorem PySem.Challenge.cw_cavetrue_k16_whole_sides_and_odd_rings_holds : PySem.Challenge.rw_cavetrue_k16_whole_sides_and_odd_rings.Holds := by
  w_on; o_law
  refine HandSHeadRun.head_any (r := OpenLaw.row PySem.Challenge.rw_cavetrue_k16_whole_sides_and_odd_rings) (q := view (OpenLaw.row PySem.Challenge.rw_cavetrue_k16_whole_sides_and_odd_rings).prog [37]) (H := LK.hk) (ob := LK.ob) (M := 6000) (loose := LK.names) (d := HandSHeadRun.topDef (OpenLaw.row PySem.Challenge.rw_cavetrue_k16_whole_sides_and_odd_rings).prog 37) (kwd := []) LK.ob_eq
    (by kernel_rfl) (fun s => by kernel_rfl) LK.run (by kernel_rfl) (by kernel_rfl) (by kernel_rfl) (by rfl) (by first | assumption | decide +kernel) (by decide +kernel) ⟨rfl, rfl, rfl, rfl, rfl, by decide +kernel⟩ ?hw ?hc
  case hw => w_witness2
  case hc =>
    refine LamX.walk_ofTsE (l := PySem.Challenge.rw_cavetrue_k16_whole_sides_and_odd_rings) (n := 63) (k := 8 * 12 + 8) (x := "script") (CX := fun w => L2.CX PySem.Challenge.rw_cavetrue_k16_whole_sides_and_odd_rings.prog w) rfl (by decide) (by kernel_rfl) ⟨rfl, by decide, by decide⟩ ?F ?cx
    case cx =>
      intro w H s e s' z
      obtain ⟨_, _, _, _, _, _, _, _, _, _, _, _, z⟩ := z
      exact z.elim
    intro w mg fa h Y G hmg0
    obtain ⟨K, KX, c⟩ := Y
    have hmg : mg ("law" : PySem.Str) = some (.ref fa) := by
      have e : (HandSHeadRun.topDef (OpenLaw.row PySem.Challenge.rw_cavetrue_k16_whole_sides_and_odd_rings).prog 37).name = ("law" : PySem.Str) := by kernel_rfl
      rw [← e]
      exact hmg0
    refine ⟨K, KX, M.law_end (fp := LK.fp) (t := LK.tf) (hs := [LK.p_heard]) (pl := LK.p_law) (by decide) KX G hmg c LK.T (by decide +kernel) LK.hgen LK.hlam (fun K hK => ?ex) (fun _ => ⟨LK.p_heard, List.mem_singleton.mpr rfl, LK.t_heard⟩) (by kernel_rfl) LK.XTs (by kernel_rfl) (by decide +kernel) (by kernel_rfl) (by kernel_rfl) (by decide +kernel) ?bind LK.lawOk⟩
    case ex =>
      unfold LK.ex at hK
      rw [Bool.and_eq_true] at hK
      exact ⟨hK.1, fun _ => hK.2⟩
    case bind => exact fun fd F s u => L2.FunD.bindsA (ps := ["script"]) F (fun _ _ _ _ _ _ us hl => match us, hl with | [_], _ => rfl) s [u] rfl
