import PyProof.Rows.All
import Wide.All
import OpenK.AllK
import Wide.FinOn
import HandS.ForMost
import HandS.AnyAll
import HandS.GenOver
import HandS.DictComp
import HandS.TupAny
import HandS.Zip
import HandS.IsInst
import HandS.EndTab
import HandS.WordsExc
import HandS.TryMany
import HandS.ExcOwn
import HandS.Text
import KE.GoesMore
import KE.GoesEnum
import HandS.More
import HandS.Wide
import HandS.Lambda
import PyProof.ExcBaseAll.ValueError
import PySem.Challenge.RW_rewritehall_k08_orders_that_end
set_option Elab.async false
set_option linter.all false
set_option maxRecDepth 100000
set_option maxHeartbeats 2000000
/-! any, all, sum of a generator expression whose element may call further. -/
namespace Gx
open PySem PySem.Spec PyProof.Rows L2 GxR GenW

/-- the context of a generator expression's frame -/
abbrev gexCx (X : Cx) (s : Shared) (H : Hp) (cenv : Env) (fp : List Addr) (A : Around) : Cx :=
  { X with A := A, s_0 := s, H_0 := H, env := cenv, outer := X.stack, stack := cenv :: X.stack, ex := fp, fn := fun _ => false, calm := true, pn := [], xe := fun _ _ => False }

section
variable {X : Cx} {α : Type}
/-- between a yield and the next wake the consumer may change its own objects xp -/
structure Rsm (xp : α → List (Addr × Obj)) (gsz : Nat) (al al' : α) (s s' : Shared) : Prop where
  os : s'.os = s.os
  bare : AllBare s'.gens
  size : gsz ≤ s'.gens.size
  keep : ∀ b o, b ∉ (xp al).map (·.1) → s.heap.get? b = some o → s'.heap.get? b = some o
  here : ∀ p ∈ xp al', s'.heap.get? p.1 = some p.2
  same : (xp al').map (·.1) = (xp al).map (·.1)
  nocell : ∀ p ∈ xp al', ∀ v, p.2.data ≠ .cell v

theorem Rsm.inv {pp : List (Addr × Obj)} {σ : L2.St} {H : Hp} {s s' : Shared} {xp : α → List (Addr × Obj)} {gsz : Nat} {al al' : α} (I : Inv X (pp ++ xp al) σ H s) (z : Rsm xp gsz al al' s s')
    (hxs : ∀ p ∈ xp al, X.s_0.heap.objs.size ≤ p.1) (hpx : ∀ p ∈ X.pn ++ pp, p.1 ∉ (xp al).map (·.1)) : Inv X (pp ++ xp al') σ H s' := by
  have I0 : Inv X pp σ H s := I.pins_of fun p hp => I.pin p (List.mem_append_right _ (List.mem_append_left _ hp))
  have px : ∀ b ∈ (xp al).map (·.1), H b = none ∧ b ≠ X.env.locals ∧ b ∉ X.fs ∧ X.s_0.heap.objs.size ≤ b ∧ ∀ x c, X.env.cells.lookup x = some c → c ≠ b := fun b hb => by
    obtain ⟨p, hp, e⟩ := List.mem_map.mp hb
    obtain ⟨h1, h2, h3, h4, h5⟩ := I.pin p (List.mem_append_right _ (List.mem_append_right _ hp))
    subst e
    refine ⟨h2, h3, h4, hxs p hp, fun x c hc e => ?_⟩
    obtain ⟨v, o, ho, hd⟩ := I.cell x c hc
    rw [e, h1] at ho
    cases ho
    exact h5 v hd
  have nt : ∀ b u, H b = some u → b ∉ (xp al).map (·.1) := fun b u q hb => by
    rw [(px b hb).1] at q
    cases q
  obtain ⟨z1, z2, z3, z4, z5, z6, z7⟩ := z
  obtain ⟨hh, g, d, t, o⟩ := s'
  have ho : o = s.os := z1
  subst ho
  have J : Inv X pp σ H { s with heap := hh, gens := g, drawn := d, toks := t } := by
    refine I0.step (g' := g) (t' := t) (d' := d) (ch := (xp al).map (·.1)) (fun b hb => ?_)
      (fun b ob _ _ hc q _ => z4 b ob hc q) (fun b ob _ _ hc q _ => ⟨ob.slots, z4 b ob hc q⟩) (fun _ _ _ _ n => n) (fun b ob hc q => ⟨ob, z4 b ob hc q⟩)
      (fun _ _ q => q) (fun _ _ _ q => q) (fun b ps q => ⟨#[], by rw [q]; simp⟩) (fun m hm => ?_) (fun b u q => ?_) z2
    · obtain ⟨h1, h2, h3, h4, h5⟩ := px b hb
      exact ⟨.inr h4, h2, h5, fun p hp e => hpx p hp (by rw [e]; exact hb)⟩
    · obtain ⟨ob, es, ep, ho, r⟩ := hm
      exact ⟨ob, es, ep, z4 _ ob (fun hb => (px _ hb).2.1 rfl) ho, r⟩
    · refine (I0.hok b u q).stay (fun c v hc y => z4 c v ?_ y) (fun _ y => y) fun _ _ y => y
      rcases hc with y | y
      · rw [y]
        exact nt b u q
      · exact nt c _ y
  refine J.pins_of fun p hp => ?_
  rcases List.mem_append.mp hp with hp | hp
  · exact J.pin p (List.mem_append_right _ hp)
  · have hb : p.1 ∈ (xp al).map (·.1) := by
      rw [← z6]
      exact List.mem_map.mpr ⟨p, hp, rfl⟩
    obtain ⟨h1, h2, h3, _⟩ := px _ hb
    exact ⟨z5 p hp, h1, h2, h3, z7 p hp⟩

/-- what the generator's end and its yields say -/
def GxR (X : Cx) (pp : List (Addr × Obj)) (xp : α → List (Addr × Obj)) (gsz : Nat) (Fn : α → Hp → Prop) (_ : Nat) (s₀ : Shared) (s : Shared) : Prop :=
  ∃ al σ H, Inv X (pp ++ xp al) σ H s ∧ Fn al H ∧ gsz ≤ s.gens.size ∧ ∀ p ∈ xp al, s₀.heap.get? p.1 = some p.2
def GxY (X : Cx) (pp : List (Addr × Obj)) (xp : α → List (Addr × Obj)) (gsz : Nat) (Cs : α → V → Hp → (α → Hp → Prop) → Prop) : Protocol := fun _ s₀ v s kap =>
  ∃ al y σ H Nx, RelV y v ∧ Inv X (pp ++ xp al) σ H s ∧ gsz ≤ s.gens.size ∧ (∀ p ∈ xp al, s₀.heap.get? p.1 = some p.2) ∧ Cs al y H Nx ∧ ∀ al' s', Nx al' H → Rsm xp gsz al al' s s' → kap (.send .none) s'

theorem seg_gexLoop {A : Around} {elt tg iter : Expr} {ifs : List Expr} {scope : Scope} {pos : Pos} {it : Addr} {fp : List Addr} {tn : Nat → Heap → Prop} {J : It} {g : TG} {tt : TT} {te : TE} {pp : List (Addr × Obj)} {xp : α → List (Addr × Obj)} {gsz : Nat}
    {Cs : α → V → Hp → (α → Hp → Prop) → Prop} {Fn : α → Hp → Prop} {W : Nat → Nat → α → Hp → Prop} {σ0 : L2.St} {vs : List Nat}
    (T : Turn X.prog X.w X.K tg J fp it tn) (hA : A.over (.compLoop (.GeneratorExp elt [⟨tg, iter, ifs, 0⟩] scope pos) 0 (.ref it) .none X.env) [] = X.A) (hcalm : X.calm = true) (hco : X.env.scope.isCoroutine = false) (hxe : X.xe = fun _ _ => False)
    (hfx : X.ex = fp) (hpn : X.pn = [])
    (pg : PG X tg g) (pt : PTs X ifs tt) (pe : PE X elt te)
    (hxs : ∀ al, ∀ p ∈ xp al, X.s_0.heap.objs.size ≤ p.1) (hpx : ∀ al, ∀ p ∈ pp, p.1 ∉ (xp al).map (·.1)) (hpf : ∀ p ∈ pp, p.1 ∉ fp) (hxf : ∀ al, ∀ p ∈ xp al, p.1 ∉ fp)
    (hw0 : wipe σ0 vs = σ0)
    (turn : ∀ i m al H, W i m al H → (J.stop i H ∧ Fn al H) ∨ (J.go i H ∧ ∃ Nx : α → Hp → Prop, (∀ al' H', Nx al' H' → ∃ m', m' < m ∧ W (i + 1) m' al' H') ∧
      ∀ x H', J.yld i H x H' → g x σ0 H' fun σ2 H2 => wipe σ2 vs = σ0 ∧ tt σ2 H2 fun b H3 => if b = true then te σ2 H3 fun y H4 => Cs al y H4 Nx else Nx al H3)) :
    ∀ (m n i : Nat) (al : α) (H : Hp) (s₀ s : Shared), m + 1 ≤ n → W i m al H → Inv X (pp ++ xp al) σ0 H s → tn i s.heap → (∀ b ∈ fp, H b = none) → gsz ≤ s.gens.size → (∀ p ∈ xp al, s₀.heap.get? p.1 = some p.2) →
      Seg (model X.prog X.w) A (fun n s₀ r s₁ => r = .ok .next ∧ GxR X pp xp gsz Fn n s₀ s₁) (GxY X pp xp gsz Cs) n s₀
        (.compLoop (.GeneratorExp elt [⟨tg, iter, ifs, 0⟩] scope pos) 0 (.ref it) .none X.env) ((model X.prog X.w).den (.compLoop (.GeneratorExp elt [⟨tg, iter, ifs, 0⟩] scope pos) 0 (.ref it) .none X.env)) [] s := by
  have stat : ∀ {al : α} {σ' : L2.St} {H' : Hp} {s' : Shared}, Inv X (pp ++ xp al) σ' H' s' → (∀ b ∈ fp, H' b = none) → ∀ b ∈ fp, FpOk X (pp ++ xp al) H' b := fun {al σ' H' s'} I' hn b hb => by
    have hb' : b ∈ X.ex := by rw [hfx]; exact hb
    refine ⟨hn b hb, (I'.ok.exf b hb').1, I'.ok.exfs b hb', .inl hb', fun x c e => (I'.ok.exf b hb').2 x c e, fun p hp => ?_⟩
    rw [hpn, List.nil_append] at hp
    rcases List.mem_append.mp hp with hp | hp
    · exact fun e => hpf p hp (by rw [e]; exact hb)
    · exact fun e => hxf al p hp (by rw [e]; exact hb)
  intro m
  induction m using Nat.strongRecOn with
  | ind m ih =>
    intro n i al H s₀ s hmn w I st hn0 hgs hs0
    show Seg _ A _ _ _ s₀ _ ((compTurn (.GeneratorExp elt [⟨tg, iter, ifs, 0⟩] scope pos) 0 (.ref it) .none X.env).onRaise (leaving X.env)) [] s
    rw [compTurn_gen, Sem.onRaise_eq_wrap]
    refine seg_bind_wrap (wpAny_standAt ?_)
    rcases turn i m al H w with ⟨stop, qq⟩ | ⟨go, Nx, hNx, step⟩
    · refine seg_bind_wrap ?_
      rw [hA]
      refine wpAny_gsz hgs ?_
      refine thnF (T.done X rfl rfl rfl hcalm i _ s _ H (fun _ _ => False) I (stat I hn0) st stop) fun r s6 ⟨hr, I6⟩ hg6 => ?_
      subst hr
      exact seg_end (.ok .next) ⟨rfl, al, _, H, I6, qq, hg6, hs0⟩
    · obtain ⟨n, rfl⟩ : ∃ k, n = k + 1 := ⟨n - 1, by omega⟩
      refine seg_bind_wrap ?_
      rw [hA]
      refine wpAny_gsz hgs ?_
      refine thnF (T.item X rfl rfl rfl hcalm i _ s _ H (fun _ _ => False) I (stat I hn0) st go) fun r s6 ⟨u, hr, h6⟩ hg6 => ?_
      subst hr
      refine seg_bind_wrap ?_
      rw [hA]
      refine wpAny_gsz hg6 ?_
      refine thnF h6 fun _ s7 ⟨x, H7, I7, r7, y7, st7, n7⟩ hg7 => ?_
      have I7' := I7.pinned (stat I7 n7) (T.obj _ _ st7)
      refine seg_bind_wrap ?_
      rw [hA]
      refine wpAny_gsz hg7 ?_
      have pgr := pg.run _ s7 _ H7 x u _ I7' r7 (step x H7 y7)
      rw [hxe] at pgr
      refine thnF pgr fun _ s8 ⟨σ8, H8, I8, hw8, q8⟩ hg8 => ?_
      refine seg_bind_wrap ?_
      rw [hA]
      refine wpAny_gsz hg8 ?_
      have ptr := pt.run _ s8 σ8 H8 _ I8 q8
      rw [hxe] at ptr
      refine thnF ptr fun b s9 ⟨H9, I9, q9⟩ hg9 => ?_
      -- the pins of the iterator come back
      have back : ∀ {s' : Shared} {H' : Hp}, Inv X ((pp ++ xp al) ++ pinsAt fp s7.heap) σ8 H' s' → Inv X (pp ++ xp al) σ8 H' s' ∧ tn (i + 1) s'.heap ∧ ∀ b ∈ fp, H' b = none := fun {s' H'} I' => by
        have pin' : ∀ b ∈ fp, ∀ o, s7.heap.get? b = some o → s'.heap.get? b = some o ∧ H' b = none := fun b hb o e =>
          let z := I'.pin (b, o) (List.mem_append_right _ (List.mem_append_right _ (mem_pinsAt hb e)))
          ⟨z.1, z.2.1⟩
        refine ⟨I'.pins_of fun p hp => I'.pin p (List.mem_append_right _ (List.mem_append_left _ hp)), T.keep _ _ _ st7 fun b hb o e => (pin' b hb o e).1, fun b hb => ?_⟩
        obtain ⟨o, e, _⟩ := T.obj _ _ st7 b hb
        exact (pin' b hb o e).2
      have forget : ∀ {al' : α} {s' : Shared} {H' : Hp}, Inv X (pp ++ xp al') σ8 H' s' → Inv X (pp ++ xp al') σ0 H' s' := fun {al' s' H'} I' => by
        have hl : σ0.length = σ8.length := by rw [← hw8, wipe_length]
        refine I'.weak hl fun j v e => ?_
        rw [← hw8] at e
        exact (wipe_some e).1
      cases b with
      | false =>
        simp only [Bool.false_eq_true, if_false] at q9 ⊢
        obtain ⟨m', hm, w'⟩ := hNx al H9 q9
        obtain ⟨I9', st9, n9⟩ := back I9
        exact seg_again rfl (ih m' hm (n + 1) (i + 1) al H9 s₀ s9 (by omega) w' (forget I9') st9 n9 hg9 hs0)
      | true =>
        simp only [if_true] at q9 ⊢
        have hy : ∀ v, yieldOut X.env v = yieldValue v := fun v => by simp only [yieldOut, hco, Bool.false_eq_true, if_false]
        simp only [hy]
        rw [Sem.bind_eq_wrap', Sem.bind_eq_wrap', Sem.wrap_wrap, Sem.wrap_wrap]
        refine seg_wrap ?_
        rw [hA]
        refine wpAny_gsz hg9 ?_
        have per := pe.run _ s9 σ8 H9 _ I9 q9
        rw [hxe] at per
        refine thnF per fun z s10 ⟨yv, H10, I10, r10, cs⟩ hg10 => ?_
        obtain ⟨I10', st10, n10⟩ := back I10
        refine seg_at (seg_yield rfl rfl rfl ⟨al, yv, σ8, H10, Nx, r10, I10', hg10, hs0, cs, fun al' s' nx z => ?_⟩)
        obtain ⟨m', hm, w'⟩ := hNx al' H10 nx
        have I11 := forget (Rsm.inv I10' z (hxs al) (fun p hp => hpx al p (by rw [hpn, List.nil_append] at hp; exact hp)))
        refine seg_again rfl (ih m' hm n (i + 1) al' H10 s' s' (by omega) w' I11 (T.keep _ _ _ st10 fun b hb o e => z.keep b o (fun hm => ?_) e) n10 z.size z.here)
        obtain ⟨p, hp, e⟩ := List.mem_map.mp hm
        exact hxf al p hp (by rw [e]; exact hb)

theorem seg_gexStart {A : Around} {elt tg iter : Expr} {ifs : List Expr} {scope : Scope} {pos : Pos} {it : Addr} {R : GenEnd} {Y : Protocol} {n : Nat} {fp : List Addr} {tn : Nat → Heap → Prop} {J : It} (T : Turn X.prog X.w X.K tg J fp it tn) {s₀ s : Shared} (st : tn 0 s.heap)
    (loop : Seg (model X.prog X.w) A R Y n s₀ (.compLoop (.GeneratorExp elt [⟨tg, iter, ifs, 0⟩] scope pos) 0 (.ref it) .none X.env) ((model X.prog X.w).den (.compLoop (.GeneratorExp elt [⟨tg, iter, ifs, 0⟩] scope pos) 0 (.ref it) .none X.env)) [] s) :
    Seg (model X.prog X.w) A R Y n s₀ (.compStart (.GeneratorExp elt [⟨tg, iter, ifs, 0⟩] scope pos) 0 (.ref it) .none X.env) ((model X.prog X.w).den (.compStart (.GeneratorExp elt [⟨tg, iter, ifs, 0⟩] scope pos) 0 (.ref it) .none X.env)) [] s := by
  show Seg _ A _ _ _ s₀ _ ((compStart (.GeneratorExp elt [⟨tg, iter, ifs, 0⟩] scope pos) 0 (.ref it) .none X.env).onRaise (leaving X.env)) [] s
  unfold compStart
  rw [Sem.onRaise_eq_wrap]
  show Seg _ A _ _ _ s₀ _ ((ask >>= _).wrap _ _ _ _) [] s
  refine seg_bind_wrap (wpAny_askSetting ?_)
  split
  · exact seg_again rfl loop
  · first
      | exact seg_bind_wrap (wpAny_rule (seg_bind_wrap (wpAny_standAt (seg_bind_wrap (T.self _ 0 s _ _ st (seg_again rfl loop))))))
      | (refine seg_bind_wrap (wpAny_rule ?_); show Seg _ A _ _ _ s₀ _ ((standAt iter.pos >>= _).wrap _ _ _ _) [] s; exact seg_bind_wrap (wpAny_standAt (seg_bind_wrap (T.self _ 0 s _ _ st (seg_again rfl loop)))))
end
end Gx
set_option Elab.async false
set_option linter.all false
set_option maxRecDepth 100000
set_option maxHeartbeats 2000000
namespace Gx
open PySem PySem.Spec PyProof.Rows L2 GxR GenW

theorem allBare_set {s : Shared} {g : Nat} {x : GenState} (h : AllBare s.gens) (hx : x.bare = true) : AllBare (s.setGen g x).gens := by
  intro y hy
  obtain ⟨i, hi, rfl⟩ := Array.mem_iff_getElem.mp hy
  have e : (s.setGen g x).gens = s.gens.setIfInBounds g x := rfl
  simp only [e] at hi ⊢
  have hi2 : i < s.gens.size := by simpa using hi
  rw [Array.getElem_setIfInBounds hi2]
  split
  · exact hx
  · exact h _ (Array.getElem_mem hi2)

section
variable {prog : Program} {w : World} {α : Type}
/-- the generator at a, its table's number g, ready for its next wake: up to n yields; T: what is wanted at its end, Yp: at a yield -/
structure Rdy (prog : Program) (w : World) (A : Around) (a : Addr) (g : Nat) (T : Shared → Shared → Prop) (Y : Protocol) (n : Nat) (s : Shared) : Prop where
  gen : s.heap.IsGen a g
  lim : s.heap.NoLimit
  go : ∃ gs, s.gens[g]? = some gs ∧ ∀ t, gs.Goes (model prog w) A.in1 (fun _ s₀ r s₁ => r = .ok .next ∧ T s₀ s₁) Y n (.send .none) (({ s with toks := t } : Shared).setGen g .running)

theorem Rdy.next {A : Around} {E : Value → Shared → Prop} {a : Addr} {g : Nat} {T : Shared → Shared → Prop} {Y : Protocol} {n : Nat} {s : Shared} {Q : Option Value → Shared → Prop} (hh : A.handled = none) (hroom : A.depth < recursionLimit) (h : Rdy prog w A a g T Y n s)
    (hY : ∀ v s₁ gs', gs'.bare = true → Y (n - 1) (s.setGen g .running) v s₁ (fun r' s'' => match n with
        | 0 => False
        | m + 1 => gs'.Goes (model prog w) A.in1 (fun _ s₀ r s₁ => r = .ok .next ∧ T s₀ s₁) Y m r' s'') → Q (some v) (s₁.setGen g gs'))
    (hP : ∀ s₁, T (s.setGen g .running) s₁ → ∀ h', (∀ b o, s₁.heap.get? b = some o → h'.get? b = some o) → Q none { s₁.setGen g .finished with heap := h' }) :
    wpAny (model prog w) A (pyNext (.ref a)) Q E s := by
  obtain ⟨hg, hl, gs, hgs, hgo⟩ := h
  exact wpAny_pyNext_genexpQ (P := fun _ s₀ s₁ => T s₀ s₁) hh hl hroom hg hgs (hgo s.toks) hY hP

/-- all(gen): the generator's protocol tells bools -/
theorem codeAny_all_gen {A : Around} {R : Result → Shared → Prop} {a : Addr} {g : Nat} {T : Shared → Shared → Prop} {S : Shared → Prop} {Y : Protocol} (hh : A.handled = none) (hroom : A.depth < recursionLimit)
    (hY : ∀ n s₀ v s kap, Y n s₀ v s kap → ∃ b, v = .bool b ∧ g < s.gens.size ∧ s.heap.IsGen a g ∧ s.heap.NoLimit ∧ AllBare s.gens ∧ if b = true then ∀ s' : Shared, s'.heap = s.heap → s'.os = s.os → s.gens.size = s'.gens.size → AllBare s'.gens → kap (.send .none) s' else S s)
    (hS : ∀ s s' : Shared, S s → s'.heap = s.heap → s'.os = s.os → AllBare s'.gens → R (.ok (.ret (.bool false))) s')
    (hT : ∀ s₀ s s' : Shared, T s₀ s → (∀ b o, s.heap.get? b = some o → s'.heap.get? b = some o) → s'.os = s.os → AllBare s'.gens → R (.ok (.ret (.bool true))) s')
    (hTb : ∀ s₀ s, T s₀ s → AllBare s.gens) :
    ∀ (n : Nat) (s : Shared), Rdy prog w A.in1 a g T Y n s → codeAny (model prog w) A (.builtin "all.loop" ⟨[.ref a], []⟩) R s := by
  intro n
  induction n with
  | zero =>
    intro s h
    refine codeAny_builtin F.entry_all_loop ?_
    rw [Around.under_plainId F.plain_all_loop _]
    show wpAny _ A.in1 (pyNext (.ref a) >>= _) _ _ s
    refine wpAny_bind (h.next hh hroom (fun v s₁ gs' hb hy => ?_) fun s₁ ht h' hk => ?_)
    · obtain ⟨b, rfl, hgs, hig, hlm, hbare, hc⟩ := hY _ _ _ _ _ hy
      refine wpAny_bind (wpAny_holding (wpAny_truthy_bool ?_))
      refine wpAny_bind (wpAny_letGo ?_)
      cases b with
      | true =>
        rw [if_pos rfl] at hc
        exact (hc s₁ rfl rfl rfl hbare).elim
      | false =>
        rw [if_neg Bool.false_ne_true] at hc
        simp only [Bool.false_eq_true, if_false]
        refine wpAny_bind (wpAny_rule (wpAny_pure ?_))
        exact hS s₁ _ hc rfl rfl (allBare_set hbare hb)
    · refine wpAny_bind (wpAny_rule (wpAny_pure ?_))
      exact hT _ s₁ _ ht hk rfl (allBare_set (hTb _ _ ht) rfl)
  | succ n ih =>
    intro s h
    refine codeAny_builtin F.entry_all_loop ?_
    rw [Around.under_plainId F.plain_all_loop _]
    show wpAny _ A.in1 (pyNext (.ref a) >>= _) _ _ s
    refine wpAny_bind (h.next hh hroom (fun v s₁ gs' hb hy => ?_) fun s₁ ht h' hk => ?_)
    · obtain ⟨b, rfl, hgs, hig, hlm, hbare, hc⟩ := hY _ _ _ _ _ hy
      refine wpAny_bind (wpAny_holding (wpAny_truthy_bool ?_))
      refine wpAny_bind (wpAny_letGo ?_)
      cases b with
      | true =>
        rw [if_pos rfl] at hc
        simp only [if_true]
        refine wpAny_pure ⟨plainId_quiet F.plain_all_loop _, ih _ ⟨hig, hlm, gs', setGen_self (gs := s₁.gens[g]) (by exact Array.getElem?_eq_getElem hgs), fun t => ?_⟩⟩
        exact hc _ rfl rfl (by rw [setGen_size]; show _ = (s₁.setGen g gs').gens.size; rw [setGen_size]) (allBare_set (s := { s₁.setGen g gs' with toks := t }) (allBare_set hbare hb) rfl)
      | false =>
        rw [if_neg Bool.false_ne_true] at hc
        simp only [Bool.false_eq_true, if_false]
        refine wpAny_bind (wpAny_rule (wpAny_pure ?_))
        exact hS s₁ _ hc rfl rfl (allBare_set hbare hb)
    · refine wpAny_bind (wpAny_rule (wpAny_pure ?_))
      exact hT _ s₁ _ ht hk rfl (allBare_set (hTb _ _ ht) rfl)

theorem codeAny_any_gen {A : Around} {R : Result → Shared → Prop} {a : Addr} {g : Nat} {T : Shared → Shared → Prop} {S : Shared → Prop} {Y : Protocol} (hh : A.handled = none) (hroom : A.depth < recursionLimit)
    (hY : ∀ n s₀ v s kap, Y n s₀ v s kap → ∃ b, v = .bool b ∧ g < s.gens.size ∧ s.heap.IsGen a g ∧ s.heap.NoLimit ∧ AllBare s.gens ∧ if b = true then S s else ∀ s' : Shared, s'.heap = s.heap → s'.os = s.os → s.gens.size = s'.gens.size → AllBare s'.gens → kap (.send .none) s')
    (hS : ∀ s s' : Shared, S s → s'.heap = s.heap → s'.os = s.os → AllBare s'.gens → R (.ok (.ret (.bool true))) s')
    (hT : ∀ s₀ s s' : Shared, T s₀ s → (∀ b o, s.heap.get? b = some o → s'.heap.get? b = some o) → s'.os = s.os → AllBare s'.gens → R (.ok (.ret (.bool false))) s')
    (hTb : ∀ s₀ s, T s₀ s → AllBare s.gens) :
    ∀ (n : Nat) (s : Shared), Rdy prog w A.in1 a g T Y n s → codeAny (model prog w) A (.builtin "any.loop" ⟨[.ref a], []⟩) R s := by
  intro n
  induction n with
  | zero =>
    intro s h
    refine codeAny_builtin F.entry_any_loop ?_
    rw [Around.under_plainId F.plain_any_loop _]
    show wpAny _ A.in1 (pyNext (.ref a) >>= _) _ _ s
    refine wpAny_bind (h.next hh hroom (fun v s₁ gs' hb hy => ?_) fun s₁ ht h' hk => ?_)
    · obtain ⟨b, rfl, hgs, hig, hlm, hbare, hc⟩ := hY _ _ _ _ _ hy
      refine wpAny_bind (wpAny_holding (wpAny_truthy_bool ?_))
      refine wpAny_bind (wpAny_letGo ?_)
      cases b with
      | false =>
        rw [if_neg Bool.false_ne_true] at hc
        exact (hc s₁ rfl rfl rfl hbare).elim
      | true =>
        rw [if_pos rfl] at hc
        simp only [if_true]
        refine wpAny_bind (wpAny_rule (wpAny_pure ?_))
        exact hS s₁ _ hc rfl rfl (allBare_set hbare hb)
    · refine wpAny_bind (wpAny_rule (wpAny_pure ?_))
      exact hT _ s₁ _ ht hk rfl (allBare_set (hTb _ _ ht) rfl)
  | succ n ih =>
    intro s h
    refine codeAny_builtin F.entry_any_loop ?_
    rw [Around.under_plainId F.plain_any_loop _]
    show wpAny _ A.in1 (pyNext (.ref a) >>= _) _ _ s
    refine wpAny_bind (h.next hh hroom (fun v s₁ gs' hb hy => ?_) fun s₁ ht h' hk => ?_)
    · obtain ⟨b, rfl, hgs, hig, hlm, hbare, hc⟩ := hY _ _ _ _ _ hy
      refine wpAny_bind (wpAny_holding (wpAny_truthy_bool ?_))
      refine wpAny_bind (wpAny_letGo ?_)
      cases b with
      | false =>
        rw [if_neg Bool.false_ne_true] at hc
        simp only [Bool.false_eq_true, if_false]
        refine wpAny_pure ⟨plainId_quiet F.plain_any_loop _, ih _ ⟨hig, hlm, gs', setGen_self (gs := s₁.gens[g]) (by exact Array.getElem?_eq_getElem hgs), fun t => ?_⟩⟩
        exact hc _ rfl rfl (by rw [setGen_size]; show _ = (s₁.setGen g gs').gens.size; rw [setGen_size]) (allBare_set (s := { s₁.setGen g gs' with toks := t }) (allBare_set hbare hb) rfl)
      | true =>
        rw [if_pos rfl] at hc
        simp only [if_true]
        refine wpAny_bind (wpAny_rule (wpAny_pure ?_))
        exact hS s₁ _ hc rfl rfl (allBare_set hbare hb)
    · refine wpAny_bind (wpAny_rule (wpAny_pure ?_))
      exact hT _ s₁ _ ht hk rfl (allBare_set (hTb _ _ ht) rfl)

/-- sum(gen): its state stands in a list at S -/
abbrev sumObj (i : Int) (t : Tok) (c : Nat) : Obj := { cls := .type "list", dict := none, data := .seq #[.int i t] c, slots := #[] }
theorem codeAny_sum_gen {A : Around} {R : Result → Shared → Prop} {a S : Addr} {g : Nat} {T : Shared → Shared → Prop} {Y : Protocol} (hh : A.handled = none) (hroom : A.depth < recursionLimit)
    (hY : ∀ n s₀ v s kap, Y n s₀ v s kap → ∃ b t i tk c, v = .int b t ∧ s₀.heap.get? S = some (sumObj i tk c) ∧ s.heap.get? S = some (sumObj i tk c) ∧ g < s.gens.size ∧ (∀ h' : Heap, (∀ x o, x ≠ S → s.heap.get? x = some o → h'.get? x = some o) → h'.IsGen a g ∧ h'.NoLimit) ∧ AllBare s.gens ∧
      ∀ s' : Shared, (∀ x o, x ≠ S → s.heap.get? x = some o → s'.heap.get? x = some o) → (∃ tk c, s'.heap.get? S = some (sumObj (i + b) tk c)) → s'.os = s.os → s.gens.size = s'.gens.size → AllBare s'.gens → kap (.send .none) s')
    (hT : ∀ s₀ s s' i t, T s₀ s → (∃ tk c, s₀.heap.get? S = some (sumObj i tk c)) → (∀ b o, s.heap.get? b = some o → s'.heap.get? b = some o) → s'.os = s.os → AllBare s'.gens → R (.ok (.ret (.int i t))) s')
    (hTb : ∀ s₀ s, T s₀ s → AllBare s.gens) :
    ∀ (n : Nat) (s : Shared) (i : Int) (tA : Tok) (c : Nat) (st : Int), (st = 0 ∨ st = 2) → s.heap.get? S = some (sumObj i tA c) → Rdy prog w A.in1 a g T Y n s →
      codeAny (model prog w) A (.builtin "sum.loop" ⟨[.ref a, .ref S, rawInt st, rawInt 0], []⟩) R s := by
  intro n
  induction n with
  | zero =>
    intro s i tA c st hst2 hS h
    refine codeAny_builtin F.entry_sum_loop ?_
    rw [Around.under_plainId F.plain_sum_loop _]
    show wpAny _ A.in1 (seqItems? (.ref S) >>= _) _ _ s
    refine wpAny_bind (wpAny_seqItems hS rfl ?_)
    show wpAny _ A.in1 (tryCatch (pyNext (.ref a)) _ >>= _) _ _ s
    refine wpAny_bind (wpAny_tryCatch (h.next hh hroom (fun v s₁ gs' hb hy => ?_) fun s₁ ht h' hk => ?_))
    · obtain ⟨b, t, i', tk, c', rfl, h0, h1, hgs, hig, hbare, hc⟩ := hY _ _ _ _ _ hy
      refine (hc { s₁ with heap := s₁.heap.update S (Obj.mapSeq fun _ => #[.int (i' + b) 0]) } (fun x o hx e => (Heap.get?_update_other _ _ (Ne.symm hx)).trans e) ⟨0, _, Heap.get?_update_self _ h1 rfl⟩ rfl rfl hbare).elim
    · exact wpAny_pure (hT _ s₁ _ i tA ht ⟨tA, c, hS⟩ hk rfl (allBare_set (hTb _ _ ht) rfl))
  | succ n ih =>
    intro s i tA c st hst2 hS h
    refine codeAny_builtin F.entry_sum_loop ?_
    rw [Around.under_plainId F.plain_sum_loop _]
    show wpAny _ A.in1 (seqItems? (.ref S) >>= _) _ _ s
    refine wpAny_bind (wpAny_seqItems hS rfl ?_)
    show wpAny _ A.in1 (tryCatch (pyNext (.ref a)) _ >>= _) _ _ s
    refine wpAny_bind (wpAny_tryCatch (h.next hh hroom (fun v s₁ gs' hb hy => ?_) fun s₁ ht h' hk => ?_))
    · obtain ⟨b, t, i', tk, c', rfl, h0, h1, hgs, hig, hbare, hc⟩ := hY _ _ _ _ _ hy
      have h0' : s.heap.get? S = some (sumObj i' tk c') := h0
      rw [hS] at h0'
      have ei : i = i' := by
        have z := congrArg Obj.data (Option.some.inj h0')
        have z2 : (Data.seq #[Value.int i tA] c) = Data.seq #[Value.int i' tk] c' := z
        injection z2 with z3 _
        have z4 := congrArg Array.toList z3
        simp at z4
        exact z4.1
      subst ei
      have hS' : (s₁.setGen g gs').heap.get? S = some (sumObj i tk c') := h1
      -- the state behind the turn
      have fin : ∀ (st' : Int) (s' : Shared) (tk' : Tok) (c2 : Nat), (st' = 0 ∨ st' = 2) → (∀ x o, x ≠ S → s₁.heap.get? x = some o → s'.heap.get? x = some o) → s'.heap.get? S = some (sumObj (i + b) tk' c2) → s'.os = s₁.os → s'.gens = (s₁.setGen g gs').gens →
          codeAny (model prog w) A (.builtin "sum.loop" ⟨[.ref a, .ref S, rawInt st', rawInt 0], []⟩) R s' := fun st' s' tk' c2 hst' hk hS2 ho hg => by
        obtain ⟨q1, q2⟩ := hig s'.heap hk
        refine ih s' (i + b) tk' c2 st' hst' hS2 ⟨q1, q2, gs', ?_, fun t' => ?_⟩
        · rw [hg]
          exact setGen_self (gs := s₁.gens[g]) (by exact Array.getElem?_eq_getElem hgs)
        · refine hc _ hk ⟨tk', c2, hS2⟩ ho ?_ ?_
          · rw [setGen_size]
            show _ = s'.gens.size
            rw [hg, setGen_size]
          · refine allBare_set (s := { s' with toks := t' }) ?_ rfl
            show AllBare s'.gens
            rw [hg]
            exact allBare_set hbare hb
      rcases hst2 with rfl | rfl
      · show wpAny _ A.in1 (if (_ : Bool) = true then (mkInt (i + b) >>= _) else _) _ _ _
        split
        · refine wpAny_bind (wpAny_mkInt ?_)
          show wpAny _ A.in1 (updateSeq S (fun _ => #[.int (i + b) _]) >>= _) _ _ _
          refine wpAny_bind ?_
          refine wpAny_updateSeq hS' rfl (wpAny_pure ⟨plainId_quiet F.plain_sum_loop _, fin 0 _ _ _ (.inl rfl) (fun x o hx e => (Heap.get?_update_other _ _ (Ne.symm hx)).trans e) (Heap.get?_update_self _ hS' rfl) rfl rfl⟩)
        · refine wpAny_bind (wpAny_rule ?_)
          refine wpAny_bind (wpAny_attempt (wpAny_holding (wpAny_add_int ?_)))
          show wpAny _ A.in1 (updateSeq S (fun _ => #[.int (i + b) _]) >>= _) _ _ _
          refine wpAny_bind (wpAny_updateSeq hS' rfl ?_)
          have hS₂ := Heap.get?_update_self (Obj.mapSeq fun _ => #[Value.int (i + b) (s₁.setGen g gs').toks]) hS' rfl
          refine wpAny_bind (wpAny_letGo ?_)
          refine wpAny_bind (wpAny_updateSeq hS₂ rfl (wpAny_pure ⟨plainId_quiet F.plain_sum_loop _, fin 2 _ _ _ (.inr rfl) (fun x o hx e => (Heap.get?_update_other _ _ (Ne.symm hx)).trans ((Heap.get?_update_other _ _ (Ne.symm hx)).trans e)) (Heap.get?_update_self _ hS₂ rfl) rfl rfl⟩))
      · show wpAny _ A.in1 ((holding [Value.int b t] (binaryOp .Add (.int i tA) (.int b t))).attempt >>= _) _ _ _
        refine wpAny_bind (wpAny_attempt (wpAny_holding (wpAny_add_int ?_)))
        show wpAny _ A.in1 (updateSeq S (fun _ => #[.int (i + b) _]) >>= _) _ _ _
        refine wpAny_bind (wpAny_updateSeq hS' rfl ?_)
        have hS₂ := Heap.get?_update_self (Obj.mapSeq fun _ => #[Value.int (i + b) (s₁.setGen g gs').toks]) hS' rfl
        refine wpAny_bind (wpAny_letGo ?_)
        refine wpAny_bind (wpAny_updateSeq hS₂ rfl (wpAny_pure ⟨plainId_quiet F.plain_sum_loop _, fin 2 _ _ _ (.inr rfl) (fun x o hx e => (Heap.get?_update_other _ _ (Ne.symm hx)).trans ((Heap.get?_update_other _ _ (Ne.symm hx)).trans e)) (Heap.get?_update_self _ hS₂ rfl) rfl rfl⟩))
    · exact wpAny_pure (hT _ s₁ _ i tA ht ⟨tA, c, hS⟩ hk rfl (allBare_set (hTb _ _ ht) rfl))
end
end Gx
set_option Elab.async false
set_option linter.all false
set_option maxRecDepth 100000
set_option maxHeartbeats 2000000
namespace Gx
open PySem PySem.Spec PyProof.Rows L2 GxR GenW

section
variable {X : Cx} {pins : List (Addr × Obj)} {σ : L2.St} {H : Hp} {s : Shared}
theorem gex_start {scope : Scope} {own : List (Str × Nat)} {fp : List Addr} {code : Value} {h' : Heap} {m0 : Str → Option Value} {go : Obj} {A : Around} {G : Array GenState} {tk : Nat}
    (I : Inv X pins σ H s) (ok : BlkOk X.N X.env.scope scope own) (hN : X.N.Nodup) (hcell : ∀ y ∈ scope.names, y.2 ≠ .cell) (hfp : ∀ b ∈ fp, FpOk X pins H b ∧ b < s.heap.objs.size)
    (hA : A.frames = some (genEnv scope (cloFrom X.env.cells scope.names []) s.heap.objs.size code builtinsNs X.env :: X.stack)) (hAh : A.handled = none)
    (hn : h'.Ns s.heap.objs.size m0) (hs : Heap.SameBut s.heap.objs.size (s.heap.push { cls := .type "frame", data := .dict #[] }) h') (hgo : ∀ v, go.data ≠ .cell v) (hgof : go.isFreed = false) (hG : AllBare G) :
    Inv (gexCx X s H (genEnv scope (cloFrom X.env.cells scope.names []) s.heap.objs.size code builtinsNs X.env) fp A) [(h'.objs.size, go)] (wipe σ (own.map (·.2))) H { s with heap := h'.push go, gens := G, toks := tk } := by
  have hfree : ∀ y ∈ scope.names, y.2 = .free → ∃ c, X.env.cells.lookup y.1 = some c := fun y hy e => by
    rcases ok.free y hy e with k | k
    · exact I.ok.has _ (.inl k)
    · exact I.ok.has _ (.inr k)
  generalize hcenv : genEnv scope (cloFrom X.env.cells scope.names []) s.heap.objs.size code builtinsNs X.env = cenv at hA ⊢
  have kp0 : ∀ b o, s.heap.get? b = some o → h'.get? b = some o := fun b o e => hs.extBut b o (Nat.ne_of_lt (Heap.lt_size e)) (Heap.get?_push_of_some _ e)
  have kp : ∀ b o, s.heap.get? b = some o → (h'.push go).get? b = some o := fun b o e => Heap.get?_push_of_some _ (kp0 b o e)
  have hsz : h'.objs.size = s.heap.objs.size + 1 := by rw [hs.1, Heap.size_push]
  have hL : cenv.locals = s.heap.objs.size := by rw [← hcenv]; rfl
  have hcl : cenv.cells = cloFrom X.env.cells scope.names [] := by rw [← hcenv]; rfl
  have hsc : cenv.scope = scope := by rw [← hcenv]; rfl
  have cm : ∀ {y c}, cenv.cells.lookup y = some c → X.env.cells.lookup y = some c ∧ c < s.heap.objs.size := fun {y c} e => by
    rw [hcl] at e
    rcases cloFrom_mem (PySem.mem_of_lookup e) with hm | ⟨h1, rfl⟩
    · cases hm
    · obtain ⟨c, hc⟩ := hfree _ h1 rfl
      rw [hc]
      obtain ⟨w, z⟩ := I.cell _ _ hc
      exact ⟨rfl, z.lt⟩
  have look : ∀ {y}, scope.names.lookup y = some .free → ∃ c, cenv.cells.lookup y = some c ∧ X.env.cells.lookup y = some c := fun {y} hl => by
    have hy : (y, NameKind.free) ∈ scope.names := PySem.mem_of_lookup hl
    obtain ⟨c', e'⟩ := mem_lookup (cloFrom_has (cells := X.env.cells) (acc := []) hy)
    rw [← hcl] at e'
    exact ⟨c', e', (cm e').1⟩
  have okB : (gexCx X s H cenv fp A).Ok := by
    refine ⟨I.ok.mod, by show cenv.scope.kind = _; rw [hsc]; exact ok.kind, by show cenv.globals = _; rw [← hcenv]; exact I.ok.glob, by show cenv.builtins = _; rw [← hcenv]; rfl, by show s.heap.objs.size ≤ cenv.locals; rw [hL]; exact Nat.le_refl _,
      fun y z c e1 e2 => I.ok.inj y z c (cm e1).1 (cm e2).1, fun y hy => ?_, fun y c z e => (by cases z), fun _ => hAh, hA, .inr ⟨rfl, by show cenv.frame = some cenv.locals; rw [← hcenv]; rfl⟩, fun b hb => ⟨?_, fun y c e z => ?_⟩, I.bs, Nat.le_trans I.ok.bsz I.sz, fun b o e hb => ?_, fun b hb z => ?_, I.stack, I.stkFree⟩
    · show ∃ c, cenv.cells.lookup y = some c
      have key : ∀ k, cenv.kindOf y = some k → (k = .cell ∨ k = .free) → ∃ c, cenv.cells.lookup y = some c := fun k hk hk' => by
        unfold Env.kindOf at hk
        rw [hsc] at hk
        rcases hk' with rfl | rfl
        · exact absurd rfl (hcell _ (PySem.mem_of_lookup hk))
        · obtain ⟨c, h1, _⟩ := look hk
          exact ⟨c, h1⟩
      rcases hy with hy | hy
      · exact key _ hy (.inl rfl)
      · exact key _ hy (.inr rfl)
    · show b ≠ cenv.locals
      rw [hL]; exact Nat.ne_of_lt (hfp b hb).2
    · exact (hfp b hb).1.2.2.2.2.1 y c (cm e).1 z
    · rcases (hfp b hb).1.2.2.2.1 with z | z
      · exact I.ok.noex b o e z
      · exact absurd (Nat.lt_of_lt_of_le (Heap.lt_size e) (Nat.le_trans I.ok.bsz z)) (Nat.lt_irrefl _)
    · rcases List.mem_cons.mp (I.stkSub b z) with z | z
      · exact (hfp b hb).1.2.1 z
      · exact (hfp b hb).1.2.2.1 z
  refine ⟨okB, rfl, hG, Un.kept kp, ⟨m0, ?_, fun i y av e1 e2 e3 => ?_⟩, fun y c e => ?_, ?_, fun y c e => ?_, fun p hp => ?_, I.hok.kept kp, by rw [wipe_length]; exact I.len⟩
  · show Heap.Ns _ cenv.locals _
    rw [hL]
    exact hn.push _
  · obtain ⟨e2, hne⟩ := wipe_some e2
    have hfr : scope.names.lookup y = some .free := by
      have no : ∀ k', scope.names.lookup y = some k' → ¬ (k' = .local ∨ k' = .cell) := fun k' e hh => by
        rcases ok.own _ (PySem.mem_of_lookup e) hh with e' | e'
        · obtain ⟨p, hp, hpy⟩ := List.mem_map.mp e'
          have e3 := ok.ix p hp
          have : p.1 = y := hpy
          rw [this] at e3
          exact hne (List.mem_map.mpr ⟨p, hp, nodup_ix hN e3 e1⟩)
        · exact e' (List.mem_of_getElem? e1)
      have e3 : Vis cenv.scope y := e3
      rw [hsc] at e3
      rcases e3 with e3 | e3 | e3
      · exact absurd (.inl rfl) (no _ e3)
      · exact absurd (.inr rfl) (no _ e3)
      · exact e3
    obtain ⟨m, hn, hl⟩ := I.loc
    have hvis : Vis X.env.scope y := (ok.free _ (PySem.mem_of_lookup hfr) rfl).elim (fun k => .inr (.inl k)) (fun k => .inr (.inr k))
    obtain ⟨w, r, q⟩ := hl i y av e1 e2 hvis
    refine ⟨w, r, .inr ⟨.inr (by show cenv.kindOf y = _; unfold Env.kindOf; rw [hsc]; exact hfr), ?_⟩⟩
    obtain ⟨c, h1, h2⟩ := look hfr
    rcases q with ⟨k, _⟩ | ⟨_, c', e', z⟩
    · have k : X.env.scope.names.lookup y = some .local := k
      rcases ok.free _ (PySem.mem_of_lookup hfr) rfl with k' | k' <;> rw [show X.env.scope.names.lookup y = _ from k'] at k <;> cases k
    · rw [h2] at e'; cases e'
      exact ⟨c, h1, z.keeps kp⟩
  · obtain ⟨w, z⟩ := I.cell y c (cm (show cenv.cells.lookup y = some c from e)).1
    exact ⟨w, z.keeps kp⟩
  · show H cenv.locals = none
    rw [hL]; exact I.hok.fresh (Nat.le_refl _)
  · exact I.freeC y c (cm (show cenv.cells.lookup y = some c from e)).1
  · have hp : p ∈ ([] : List (Addr × Obj)) ++ [(h'.objs.size, go)] := hp
    rw [List.nil_append] at hp
    obtain rfl := List.mem_singleton.mp hp
    refine ⟨Heap.get?_push_size _ hgof, I.hok.fresh (by rw [hsz]; exact Nat.le_succ _), ?_, ?_, hgo⟩
    · show h'.objs.size ≠ cenv.locals
      rw [hL, hsz]; exact Nat.succ_ne_self _
    · intro z
      have z : h'.objs.size ∈ frs X.stack := z
      rcases List.mem_cons.mp (I.stkSub _ z) with z | z
      · have q := I.lt
        rw [← z, hsz] at q
        exact absurd q (Nat.not_lt.mpr (Nat.le_succ _))
      · exact I.nofs (by rw [hsz]; exact Nat.le_succ _) z
end
end Gx
set_option Elab.async false
set_option linter.all false
set_option maxRecDepth 100000
set_option maxHeartbeats 2000000
namespace Gx
open PySem PySem.Spec PyProof.Rows L2 GxR GenW

section
variable {X : Cx} {pins : List (Addr × Obj)} {σ : L2.St} {H : Hp} {s : Shared}
abbrev gexObj (s : Shared) (q : Str) : Obj := { cls := .type "generator", data := .fields #[.int s.gens.size 0, .str "<genexpr>" (s.toks + 1), .str (q ++ "<genexpr>") (s.toks + 1 + 1)] }
theorem tab_fp {P : Addr} {H1 H2 : Hp} {fp : List Addr} (hT : TabG H1 P) (h : Tabbed P H1 H2) (hf : ∀ b ∈ fp, FpOk X pins H1 b) : ∀ b ∈ fp, FpOk X pins H2 b := fun b hb => by
  obtain ⟨f0, f1⟩ := hf b hb
  obtain ⟨ps, hP, _⟩ := hT
  refine ⟨?_, f1⟩
  rw [h.2 b (fun e => by rw [e, hP] at f0; cases f0)]
  exact f0

theorem gen_make {c P : Addr} {elt tg iter : Expr} {ifs : List Expr} {scope : Scope} {own : List (Str × Nat)} {gpos : Pos} {wi : TI} {k : Nat} {Q : Value → Shared → Prop} {R : It → Hp → Prop}
    (hr : Room k X.A) (TB : TabB X.base X.mg c P) (hcode : X.env.code = .ref c) (hco : scope.isCoroutine = false) (hdot : scope.names.lookup (".0" : Str) = some NameKind.local) (ok : BlkOk X.N X.env.scope scope own) (hcell : ∀ y ∈ scope.names, y.2 ≠ .cell)
    (hi : PI X tg iter wi) (hs : ∀ x, genFold iter X.env x = pure x) (I : Inv X pins σ H s) (h : wi σ H fun J H1 => TabG H1 P ∧ R J H1)
    (hQ : ∀ (it : Addr) (fp : List Addr) (tn : Nat → Heap → Prop) (J : It) (H1 H2 : Hp) (s3 : Shared) (code : Value) (h' : Heap), R J H1 → TabG H1 P → Tabbed P H1 H2 → Inv X pins σ H2 s3 → Turn X.prog X.w X.K tg J fp it tn → tn 0 s3.heap →
      (∀ b ∈ fp, FpOk X pins H2 b ∧ b < s3.heap.objs.size) → h'.Ns s3.heap.objs.size (fun y => if y = ".0" then some (.ref it) else none) → Heap.SameBut s3.heap.objs.size (s3.heap.push { cls := .type "frame", data := .dict #[] }) h' →
      Q (.ref h'.objs.size) { s3 with gens := s3.gens.push (.fresh (.compStart (.GeneratorExp elt [⟨tg, iter, ifs, 0⟩] scope gpos) 0 (.ref it) .none (genEnv scope (cloFrom X.env.cells scope.names []) s3.heap.objs.size code builtinsNs X.env))), toks := s3.toks + 1 + 1 + 1, heap := h'.push (gexObj s3 X.env.qual) }) :
    wpAny (model X.prog X.w) X.A (eval (.GeneratorExp elt [⟨tg, iter, ifs, 0⟩] scope gpos) X.env) Q X.xe s := by
  have hfree : ∀ y ∈ scope.names, y.2 = .free → ∃ c, X.env.cells.lookup y.1 = some c := fun y hy e => by
    rcases ok.free y hy e with k | k
    · exact I.ok.has _ (.inl k)
    · exact I.ok.has _ (.inr k)
  refine wpAny_GeneratorExp_make hco (closure_ok hfree) hcell hdot ok.kind (by have := hr.dp; omega) (thn (hi.run pins s σ H _ I h) fun xv s1 hx => thn hx fun itv s2 h2 => ?_) hs
  obtain ⟨it, fp, tn, J, H2, e, I2, T, st2, f2, hT, q⟩ := h2
  subst e
  refine ⟨I2.nolimit, ?_⟩
  obtain ⟨ps, hP, ht⟩ := id hT
  have hPs : s2.heap.get? P = some { cls := .none, data := .fields ps } := I2.hok P _ hP
  have cd : PySem.W.CodeHd s2.heap c P := TB.code.keeps I2.bk
  have sz : ∀ b ∈ fp, b < s2.heap.objs.size := fun b hb => by
    obtain ⟨o, e, _⟩ := T.obj _ _ st2 b hb
    exact Heap.lt_size e
  have nP : ∀ b ∈ fp, b ≠ P := fun b hb e => by
    have f0 := (f2 b hb).1
    rw [e, hP] at f0
    cases f0
  have cont : ∀ (code : Value) (h3 : Heap) (tk : Nat) (ps' : Array Value), Heap.ExtBut P s2.heap h3 → s2.heap.objs.size ≤ h3.objs.size → h3.get? P = some { cls := .none, data := .fields ps' } → (∃ more, ps' = ps ++ more) → TriplesOk ps'.toList →
      wpAny (model X.prog X.w) X.A (builtinsFor X.env.globals X.env.builtins) (fun bi s₄ =>
        ∀ h', h'.Ns s₄.heap.objs.size (fun y => if y = ".0" then some (.ref it) else none) → Heap.SameBut s₄.heap.objs.size (s₄.heap.push { cls := .type "frame", data := .dict #[] }) h' →
          Q (.ref h'.objs.size) { s₄ with
            gens := s₄.gens.push (.fresh (.compStart (.GeneratorExp elt [⟨tg, iter, ifs, 0⟩] scope gpos) 0 (.ref it) .none (genEnv scope (cloFrom X.env.cells scope.names []) s₄.heap.objs.size code bi X.env))),
            toks := s₄.toks + 1 + 1 + 1,
            heap := h'.push (gexObj s₄ X.env.qual) }) X.xe { s2 with heap := h3, toks := tk } := by
    intro code h3 tk ps' hx hsz hP3 hmore ht3
    obtain ⟨bm, ob, e1, e2, e3, e4, e5, e6, e7, e8⟩ := TB.bm
    have keep3 : ∀ b u, b ≠ P → s2.heap.get? b = some u → h3.get? b = some u := fun b u hb e => hx b u hb e
    refine wpAny_builtinsFor (m := X.mg) (by rw [I2.ok.glob]; exact (I2.mod.glob.keeps I2.bk).extBut hx TB.gP) e1 e2 (keep3 _ _ e4 (I2.bk _ _ e5)) e6 e7 e8 ?_
    intro h' hn' hs'
    obtain ⟨more, em⟩ := hmore
    have I3 : Inv X pins σ (upd H2 P (.tbl (ps ++ more))) { s2 with heap := h3, toks := tk } :=
      inv_tab (more := more) (h' := h3) (g' := s2.gens) (d' := s2.drawn) (t' := tk) I2 hP (fun b u hb e => keep3 b u hb e) (by rw [← em]; exact hP3) I2.bare
    have hTb : Tabbed P H2 (upd H2 P (.tbl (ps ++ more))) := ⟨⟨ps ++ more, upd_same, by rw [← em]; exact ht3⟩, fun b hb => upd_ne hb⟩
    refine hQ it fp tn J H2 _ { s2 with heap := h3, toks := tk } code h' q hT hTb I3 T (T.keep _ _ _ st2 fun b hb o e => keep3 b o (nP b hb) e) (fun b hb => ⟨tab_fp hT hTb f2 b hb, Nat.lt_of_lt_of_le (sz b hb) hsz⟩) hn' hs'
  cases hf : codeAmong gpos ps.toList with
  | none =>
    refine wpAny_genexprCodeX hcode (cd.code hPs ht) (cd.tab hPs) hf fun c' h' tk hx hge hlt hco' _ htab' _ => ?_
    obtain ⟨o1, vs, f1, tf, fl, tg', inF, tx, tt, op, _, _, _, _, _, _, _, _, _, htr, _⟩ := hco'
    exact cont _ h' tk _ hx (Nat.le_trans hge (Nat.le_of_lt hlt)) htab'.2 ⟨_, rfl⟩ htr
  | some cv =>
    refine wpAny_genexprCode_hit hcode (cd.code hPs ht) hf ?_
    exact cont cv s2.heap s2.toks ps (Heap.ExtBut.refl _ _) (Nat.le_refl _) hPs ⟨#[], by simp⟩ ht

/-! ### the readings -/
def tGx (P : Addr) (wi : TI) (g : TG) (tt : TT) (te : TE) (vs : List Nat) {α : Type} (a0 : Tok → α) (Cs : α → V → Hp → (α → Hp → Prop) → Prop) (Fn : α → Hp → Prop) : L2.St → Hp → Prop := fun σ H => wi σ H fun J H1 => TabG H1 P ∧ ∀ H1', Tabbed P H1 H1' →
  ∃ W : Nat → Nat → α → Hp → Prop, (∃ m, ∀ tk, W 0 m (a0 tk) H1') ∧ ∀ i m al H, W i m al H → (J.stop i H ∧ Fn al H) ∨ (J.go i H ∧ ∃ Nx : α → Hp → Prop, (∀ al' H', Nx al' H' → ∃ m', m' < m ∧ W (i + 1) m' al' H') ∧
    ∀ x H', J.yld i H x H' → g x (wipe σ vs) H' fun σ2 H2 => wipe σ2 vs = wipe σ vs ∧ tt σ2 H2 fun b H3 => if b = true then te σ2 H3 fun y H4 => Cs al y H4 Nx else Nx al H3)
def tAllG (P : Addr) (wi : TI) (g : TG) (tt : TT) (te : TE) (vs : List Nat) : TE := fun σ H Q => tGx P wi g tt te vs (fun _ => ()) (fun _ y H4 Nx => ∃ k, y = .bl k ∧ if k = true then Nx () H4 else Q (.bl false) H4) (fun _ H' => Q (.bl true) H') σ H
def tAnyG (P : Addr) (wi : TI) (g : TG) (tt : TT) (te : TE) (vs : List Nat) : TE := fun σ H Q => tGx P wi g tt te vs (fun _ => ()) (fun _ y H4 Nx => ∃ k, y = .bl k ∧ if k = true then Q (.bl true) H4 else Nx () H4) (fun _ H' => Q (.bl false) H') σ H
def tSumG (P : Addr) (wi : TI) (g : TG) (tt : TT) (te : TE) (vs : List Nat) : TE := fun σ H Q => tGx P wi g tt te vs (fun tk => ((0, tk, 0) : Int × Tok × Nat)) (fun al y H4 Nx => ∃ j, y = .int j ∧ ∀ tk c, Nx (al.1 + j, tk, c) H4) (fun al H' => Q (.int al.1) H') σ H

theorem over_frames {A : Around} {elt tg iter : Expr} {ifs : List Expr} {scope : Scope} {gpos : Pos} {it : Value} {env : Env} {l : List Env} (h : A.frames = some l) :
    (A.in1.in1.over (.compLoop (.GeneratorExp elt [⟨tg, iter, ifs, 0⟩] scope gpos) 0 it .none env) []).frames = some (env :: l) := by
  unfold Around.over
  simp only [List.map_nil]
  rw [h]
  rfl
theorem over_room {A : Around} {elt tg iter : Expr} {ifs : List Expr} {scope : Scope} {gpos : Pos} {it : Value} {env : Env} {k : Nat} (r : Room (k + 1) A) :
    Room k (A.in1.in1.over (.compLoop (.GeneratorExp elt [⟨tg, iter, ifs, 0⟩] scope gpos) 0 it .none env) []) := by
  refine ⟨r.hd, ?_, ?_⟩
  · have e : (A.in1.in1.over (.compLoop (.GeneratorExp elt [⟨tg, iter, ifs, 0⟩] scope gpos) 0 it .none env) []).depth = A.depth + 1 := rfl
    have := r.dp
    rw [e]
    omega
  · have e : (A.in1.in1.over (.compLoop (.GeneratorExp elt [⟨tg, iter, ifs, 0⟩] scope gpos) 0 it .none env) []).units ≤ A.units + 5 := Nat.le_of_eq rfl
    have := r.un
    omega
theorem inv_calm {σ' : L2.St} {H' : Hp} {s1 s2 : Shared} (I : Inv X pins σ' H' s1) (k : ∀ b o, s1.heap.get? b = some o → s2.heap.get? b = some o) (ho : s2.os = s1.os) (hb : AllBare s2.gens) : Inv X pins σ' H' s2 := by
  obtain ⟨hh, g, d, t, o⟩ := s2
  have e : o = s1.os := ho
  subst e
  exact I.call (ch := []) (g' := g) (t' := t) (d' := d) (Un.kept k) (I.hok.kept k) hb (fun b hb => absurd hb (by simp))
end
end Gx
set_option Elab.async false
set_option linter.all false
set_option maxRecDepth 100000
set_option maxHeartbeats 2000000
namespace Gx
open PySem PySem.Spec PyProof.Rows L2 GxR GenW

theorem wipe_at (σ : L2.St) : ∀ (vs : List Nat) (i : Nat), (wipe σ vs)[i]? = if i ∈ vs ∧ i < σ.length then some none else σ[i]?
  | [], i => by simp [wipe]
  | v :: vs, i => by
    unfold wipe
    by_cases hv : v = i
    · subst hv
      by_cases hl : v < σ.length
      · rw [List.getElem?_set_self (by rw [wipe_length]; exact hl), if_pos ⟨List.mem_cons_self, hl⟩]
      · rw [if_neg (fun z => hl z.2), List.getElem?_eq_none (by rw [List.length_set, wipe_length]; exact Nat.not_lt.mp hl), List.getElem?_eq_none (Nat.not_lt.mp hl)]
    · rw [List.getElem?_set_ne hv, wipe_at σ vs i]
      have e : (i ∈ v :: vs ∧ i < σ.length) = (i ∈ vs ∧ i < σ.length) := by
        rw [List.mem_cons]
        simp [Ne.symm hv]
      simp only [e]
theorem wipe_wipe (σ : L2.St) (vs : List Nat) : wipe (wipe σ vs) vs = wipe σ vs := by
  apply List.ext_getElem?
  intro i
  rw [wipe_at, wipe_at, wipe_length]
  by_cases h : i ∈ vs ∧ i < σ.length
  · rw [if_pos h, if_pos h]
  · rw [if_neg h]
section
variable {X : Cx} {pins : List (Addr × Obj)} {σ : L2.St} {H : Hp} {s : Shared} {α : Type}
/-- back in the def's context -/
theorem gex_back {cenv : Env} {fp : List Addr} {A : Around} {pins' : List (Addr × Obj)} {σ' : L2.St} {H' : Hp} {s' : Shared} (I : Inv X pins σ H s) (hf : ∀ b ∈ fp, FpOk X pins H b) (I' : Inv (gexCx X s H cenv fp A) pins' σ' H' s') : Inv X pins σ H' s' :=
  I.call' (ch := fp) I'.os I'.base I'.hok I'.bare fun b hb => ⟨(hf b hb).2.2.2.1, (hf b hb).2.1, (hf b hb).2.2.2.2.1, (hf b hb).2.2.2.2.2⟩

theorem gex_ready {elt tg iter : Expr} {ifs : List Expr} {scope : Scope} {gpos : Pos} {it : Addr} {fp : List Addr} {tn : Nat → Heap → Prop} {J : It} {g : TG} {tt : TT} {te : TE} {vs : List Nat} {xp : α → List (Addr × Obj)} {a0 : α}
    {Cs : α → V → Hp → (α → Hp → Prop) → Prop} {Fn : α → Hp → Prop} {W : Nat → Nat → α → Hp → Prop} {s3 s6 : Shared} {H2 : Hp} {cenv : Env} {a : Addr} {gn : Nat} {go : Obj} {σ0 : L2.St}
    (hh : X.A.handled = none) (hsc : cenv.scope = scope) (hco : scope.isCoroutine = false) (T : Turn X.prog X.w X.K tg J fp it tn)
    (pg : PG (gexCx X s3 H2 cenv fp (X.A.in1.in1.over (.compLoop (.GeneratorExp elt [⟨tg, iter, ifs, 0⟩] scope gpos) 0 (.ref it) .none cenv) [])) tg g)
    (pt : PTs (gexCx X s3 H2 cenv fp (X.A.in1.in1.over (.compLoop (.GeneratorExp elt [⟨tg, iter, ifs, 0⟩] scope gpos) 0 (.ref it) .none cenv) [])) ifs tt)
    (pe : PE (gexCx X s3 H2 cenv fp (X.A.in1.in1.over (.compLoop (.GeneratorExp elt [⟨tg, iter, ifs, 0⟩] scope gpos) 0 (.ref it) .none cenv) [])) elt te)
    (hxs : ∀ al, ∀ p ∈ xp al, s3.heap.objs.size ≤ p.1) (hpx : ∀ al, ∀ p ∈ xp al, p.1 ≠ a) (hpf : a ∉ fp) (hxf : ∀ al, ∀ p ∈ xp al, p.1 ∉ fp) (hw0 : wipe σ0 vs = σ0)
    (I6 : Inv (gexCx X s3 H2 cenv fp (X.A.in1.in1.over (.compLoop (.GeneratorExp elt [⟨tg, iter, ifs, 0⟩] scope gpos) 0 (.ref it) .none cenv) [])) ([(a, go)] ++ xp a0) σ0 H2 s6) (st6 : tn 0 s6.heap) (n6 : ∀ b ∈ fp, H2 b = none)
    (hig : s6.heap.IsGen a gn) (hgs : s6.gens[gn]? = some (.fresh (.compStart (.GeneratorExp elt [⟨tg, iter, ifs, 0⟩] scope gpos) 0 (.ref it) .none cenv)))
    {m0 : Nat} (w0 : W 0 m0 a0 H2)
    (turn : ∀ i m al H, W i m al H → (J.stop i H ∧ Fn al H) ∨ (J.go i H ∧ ∃ Nx : α → Hp → Prop, (∀ al' H', Nx al' H' → ∃ m', m' < m ∧ W (i + 1) m' al' H') ∧
      ∀ x H', J.yld i H x H' → g x σ0 H' fun σ2 H2 => wipe σ2 vs = σ0 ∧ tt σ2 H2 fun b H3 => if b = true then te σ2 H3 fun y H4 => Cs al y H4 Nx else Nx al H3)) :
    Rdy X.prog X.w X.A.in1 a gn (fun s₀ s₁ => GxR (gexCx X s3 H2 cenv fp (X.A.in1.in1.over (.compLoop (.GeneratorExp elt [⟨tg, iter, ifs, 0⟩] scope gpos) 0 (.ref it) .none cenv) [])) [(a, go)] xp (gn + 1) Fn 0 s₀ s₁)
      (GxY (gexCx X s3 H2 cenv fp (X.A.in1.in1.over (.compLoop (.GeneratorExp elt [⟨tg, iter, ifs, 0⟩] scope gpos) 0 (.ref it) .none cenv) [])) [(a, go)] xp (gn + 1) Cs) (m0 + 1) s6 := by
  refine ⟨hig, I6.nolimit, _, hgs, fun t => ⟨rfl, ?_⟩⟩
  have hlt : gn < s6.gens.size := (Array.getElem?_eq_some_iff.mp hgs).1
  have I7 := inv_calm (s2 := ({ s6 with toks := t } : Shared).setGen gn .running) I6 (fun _ _ e => e) rfl (allBare_set (s := { s6 with toks := t }) I6.bare rfl)
  have q := seg_gexLoop (X := gexCx X s3 H2 cenv fp (X.A.in1.in1.over (.compLoop (.GeneratorExp elt [⟨tg, iter, ifs, 0⟩] scope gpos) 0 (.ref it) .none cenv) [])) (A := X.A.in1.in1) (elt := elt) (iter := iter) (pos := gpos) (scope := scope) (gsz := gn + 1) (pp := [(a, go)]) (xp := xp) (Cs := Cs) (Fn := Fn) (W := W)
    T rfl rfl (by show cenv.scope.isCoroutine = false; rw [hsc]; exact hco) rfl rfl rfl pg pt pe hxs
    (fun al p hp hm => by
      obtain rfl := List.mem_singleton.mp hp
      obtain ⟨p', hp', e⟩ := List.mem_map.mp hm
      exact hpx al p' hp' e)
    (fun p hp hm => by
      obtain rfl := List.mem_singleton.mp hp
      exact hpf hm) hxf hw0 turn m0 (m0 + 1) 0 a0 H2 (({ s6 with toks := t } : Shared).setGen gn .running) (({ s6 with toks := t } : Shared).setGen gn .running) (Nat.le_refl _) w0 I7 st6 n6
    (by rw [setGen_size]; exact hlt) (fun p hp => (I6.pin p (List.mem_append_right _ (List.mem_append_right _ hp))).1)
  exact seg_gexStart (X := gexCx X s3 H2 cenv fp (X.A.in1.in1.over (.compLoop (.GeneratorExp elt [⟨tg, iter, ifs, 0⟩] scope gpos) 0 (.ref it) .none cenv) [])) T st6 q

section
variable {c P : Addr} {elt tg iter : Expr} {ifs : List Expr} {scope : Scope} {own : List (Str × Nat)} {p pos gpos : Pos} {wi : TI} {g : TG} {tt : TT} {te : TE} {k : Nat}
theorem isGen_obj {s3 : Shared} {h' : Heap} {q : Str} : (h'.push (gexObj s3 q)).IsGen h'.objs.size s3.gens.size := ⟨_, _, _, Heap.get?_push_size _ rfl, rfl, rfl, rfl⟩
theorem pe_allG (hr : Room (k + 1) X.A) (hN : X.N.Nodup) (TB : TabB X.base X.mg c P) (hcode : X.env.code = .ref c) (ok : BlkOk X.N X.env.scope scope own) (hm : X.mg "all" = none) (hi : PI X tg iter wi)
    (pg : ∀ s H C code fp A, Room k A → PG (gexCx X s H (genEnv scope (cloFrom X.env.cells scope.names []) C code builtinsNs X.env) fp A) tg g)
    (pt : ∀ s H C code fp A, Room k A → PTs (gexCx X s H (genEnv scope (cloFrom X.env.cells scope.names []) C code builtinsNs X.env) fp A) ifs tt)
    (pe : ∀ s H C code fp A, Room k A → PE (gexCx X s H (genEnv scope (cloFrom X.env.cells scope.names []) C code builtinsNs X.env) fp A) elt te)
    (hcell : ∀ y ∈ scope.names, y.2 ≠ .cell := by decide +kernel) (hco : scope.isCoroutine = false := by rfl) (hdot : scope.names.lookup (".0" : Str) = some NameKind.local := by rfl)
    (hg : Gl X "all" := by rfl) (hs : ∀ x, genFold iter X.env x = pure x := by intro _; rfl)
    (he : starEach [.GeneratorExp elt [⟨tg, iter, ifs, 0⟩] scope gpos] X.env = (false, eval (.GeneratorExp elt [⟨tg, iter, ifs, 0⟩] scope gpos) X.env) :: starEach [] X.env := by rfl) :
    PE X (.Call (.Name "all" p) [.GeneratorExp elt [⟨tg, iter, ifs, 0⟩] scope gpos] [] pos) (tAllG P wi g tt te (own.map (·.2))) := by
  refine ⟨fun pins s σ H Q I h => ?_⟩
  refine wpAny_Call_Name_kw (ld_blt I hg hm PyProof.Rows.boot_all ?_)
  refine PyProof.Rows.callWith_builtin1 ?_ he (by rfl)
  rw [he]
  show wpAny _ _ (spliced ((false, eval (.GeneratorExp elt [⟨tg, iter, ifs, 0⟩] scope gpos) X.env) :: backTo pos (starEach [] X.env))) _ _ s
  refine Calls.spliced_cons (gen_make hr TB hcode hco hdot ok hcell hi hs I h fun it fp tn J H1 H2 s3 code h' q hT hTb I3 T st3 f3 hn' hs' => ?_)
  obtain ⟨W, ⟨m0, w0⟩, turn⟩ := q H2 hTb
  refine Calls.spliced_nil ?_
  refine call_function_tree F.kind_all F.plain_all F.entry_all (F.args_all1 _) ?_
  unfold Builtin.«all»
  refine wpAny_bind (m := oneArg "all" _) (wpAny_pure ?_)
  refine wpAny_bind (wpAny_pyIter_gen isGen_obj ?_)
  have kp0 : ∀ b o, s3.heap.get? b = some o → h'.get? b = some o := fun b o e => hs'.extBut b o (Nat.ne_of_lt (Heap.lt_size e)) (Heap.get?_push_of_some _ e)
  have I5 := gex_start (go := gexObj s3 X.env.qual) (tk := s3.toks + 1 + 1 + 1) (code := code) (own := own) I3 ok hN hcell f3 (over_frames (elt := elt) (tg := tg) (iter := iter) (ifs := ifs) (gpos := gpos) (it := .ref it) (scope := scope) (show X.A.frames = some X.stack from I3.ok.frames)) hr.hd hn' hs' (fun v z => by cases z) rfl
    (I3.bare.push (g := .fresh (.compStart (.GeneratorExp elt [⟨tg, iter, ifs, 0⟩] scope gpos) 0 (.ref it) .none (genEnv scope (cloFrom X.env.cells scope.names []) s3.heap.objs.size code builtinsNs X.env))) rfl)
  have room := over_room (elt := elt) (tg := tg) (iter := iter) (ifs := ifs) (gpos := gpos) (it := .ref it) (scope := scope) (env := genEnv scope (cloFrom X.env.cells scope.names []) s3.heap.objs.size code builtinsNs X.env) hr
  have hsz : h'.objs.size = s3.heap.objs.size + 1 := by rw [hs'.1, Heap.size_push]
  have rdy := gex_ready (xp := fun _ : Unit => []) (a0 := ()) (W := W) (go := gexObj s3 X.env.qual) (vs := own.map (·.2)) hr.hd rfl hco T (pg _ _ _ _ _ _ room) (pt _ _ _ _ _ _ room) (pe _ _ _ _ _ _ room) (fun _ p hp => by cases hp) (fun _ p hp => by cases hp)
    (fun hm => absurd (f3 _ hm).2 (by rw [hsz]; exact Nat.not_lt.mpr (Nat.le_succ _))) (fun _ p hp => by cases hp) (wipe_wipe _ _) I5 (T.keep _ _ _ st3 fun b _ o e => Heap.get?_push_of_some _ (kp0 b o e)) (fun b hb => (f3 b hb).1.1) isGen_obj (Array.getElem?_push_size ..) (w0 0) turn
  refine wpAny_pure ⟨plainId_quiet F.plain_all_loop _, codeAny_all_gen (S := fun s' => ∃ H', Inv X pins σ H' s' ∧ Q (.bl false) H') hr.hd (by have := hr.dp; omega) (fun n s₀ v s' kap hy => ?_) (fun s1 s2 hS eh eo eb => ?_) (fun s₀ s1 s2 hS k eo eb => ?_) (fun s₀ s1 ⟨_, _, _, J, _⟩ => J.bare) (m0 + 1) _ rdy⟩
  · obtain ⟨al, y, σ', H', Nx, r, J', hgz, _, ⟨b, ey, hb⟩, kk⟩ := hy
    subst ey
    obtain rfl : v = Value.bool b := r
    have hp := J'.pin (h'.objs.size, gexObj s3 X.env.qual) (List.mem_append_right _ (by simp))
    refine ⟨b, rfl, hgz, ⟨_, _, _, hp.1, rfl, rfl, rfl⟩, J'.nolimit, J'.bare, ?_⟩
    cases b with
    | true => exact fun s'' eh eo eg eb => kk () s'' hb ⟨eo, eb, by rw [← eg]; exact hgz, fun b o _ e => by rw [eh]; exact e, fun p hp => (by cases hp), rfl, fun p hp => (by cases hp)⟩
    | false => exact ⟨H', gex_back I3 (fun b hb => (f3 b hb).1) J', hb⟩
  · obtain ⟨H', J', q'⟩ := hS
    exact ⟨.bl false, H', inv_calm J' (fun b o e => by rw [eh]; exact e) eo eb, rfl, q'⟩
  · obtain ⟨al, σ', H', J', q', _⟩ := hS
    exact ⟨.bl true, H', inv_calm (gex_back I3 (fun b hb => (f3 b hb).1) J') k eo eb, rfl, q'⟩
theorem pe_anyG (hr : Room (k + 1) X.A) (hN : X.N.Nodup) (TB : TabB X.base X.mg c P) (hcode : X.env.code = .ref c) (ok : BlkOk X.N X.env.scope scope own) (hm : X.mg "any" = none) (hi : PI X tg iter wi)
    (pg : ∀ s H C code fp A, Room k A → PG (gexCx X s H (genEnv scope (cloFrom X.env.cells scope.names []) C code builtinsNs X.env) fp A) tg g)
    (pt : ∀ s H C code fp A, Room k A → PTs (gexCx X s H (genEnv scope (cloFrom X.env.cells scope.names []) C code builtinsNs X.env) fp A) ifs tt)
    (pe : ∀ s H C code fp A, Room k A → PE (gexCx X s H (genEnv scope (cloFrom X.env.cells scope.names []) C code builtinsNs X.env) fp A) elt te)
    (hcell : ∀ y ∈ scope.names, y.2 ≠ .cell := by decide +kernel) (hco : scope.isCoroutine = false := by rfl) (hdot : scope.names.lookup (".0" : Str) = some NameKind.local := by rfl)
    (hg : Gl X "any" := by rfl) (hs : ∀ x, genFold iter X.env x = pure x := by intro _; rfl)
    (he : starEach [.GeneratorExp elt [⟨tg, iter, ifs, 0⟩] scope gpos] X.env = (false, eval (.GeneratorExp elt [⟨tg, iter, ifs, 0⟩] scope gpos) X.env) :: starEach [] X.env := by rfl) :
    PE X (.Call (.Name "any" p) [.GeneratorExp elt [⟨tg, iter, ifs, 0⟩] scope gpos] [] pos) (tAnyG P wi g tt te (own.map (·.2))) := by
  refine ⟨fun pins s σ H Q I h => ?_⟩
  refine wpAny_Call_Name_kw (ld_blt I hg hm PyProof.Rows.boot_any ?_)
  refine PyProof.Rows.callWith_builtin1 ?_ he (by rfl)
  rw [he]
  show wpAny _ _ (spliced ((false, eval (.GeneratorExp elt [⟨tg, iter, ifs, 0⟩] scope gpos) X.env) :: backTo pos (starEach [] X.env))) _ _ s
  refine Calls.spliced_cons (gen_make hr TB hcode hco hdot ok hcell hi hs I h fun it fp tn J H1 H2 s3 code h' q hT hTb I3 T st3 f3 hn' hs' => ?_)
  obtain ⟨W, ⟨m0, w0⟩, turn⟩ := q H2 hTb
  refine Calls.spliced_nil ?_
  refine call_function_tree F.kind_any F.plain_any F.entry_any (F.args_any1 _) ?_
  unfold Builtin.«any»
  refine wpAny_bind (m := oneArg "any" _) (wpAny_pure ?_)
  refine wpAny_bind (wpAny_pyIter_gen isGen_obj ?_)
  have kp0 : ∀ b o, s3.heap.get? b = some o → h'.get? b = some o := fun b o e => hs'.extBut b o (Nat.ne_of_lt (Heap.lt_size e)) (Heap.get?_push_of_some _ e)
  have I5 := gex_start (go := gexObj s3 X.env.qual) (tk := s3.toks + 1 + 1 + 1) (code := code) (own := own) I3 ok hN hcell f3 (over_frames (elt := elt) (tg := tg) (iter := iter) (ifs := ifs) (gpos := gpos) (it := .ref it) (scope := scope) (show X.A.frames = some X.stack from I3.ok.frames)) hr.hd hn' hs' (fun v z => by cases z) rfl
    (I3.bare.push (g := .fresh (.compStart (.GeneratorExp elt [⟨tg, iter, ifs, 0⟩] scope gpos) 0 (.ref it) .none (genEnv scope (cloFrom X.env.cells scope.names []) s3.heap.objs.size code builtinsNs X.env))) rfl)
  have room := over_room (elt := elt) (tg := tg) (iter := iter) (ifs := ifs) (gpos := gpos) (it := .ref it) (scope := scope) (env := genEnv scope (cloFrom X.env.cells scope.names []) s3.heap.objs.size code builtinsNs X.env) hr
  have hsz : h'.objs.size = s3.heap.objs.size + 1 := by rw [hs'.1, Heap.size_push]
  have rdy := gex_ready (xp := fun _ : Unit => []) (a0 := ()) (W := W) (go := gexObj s3 X.env.qual) (vs := own.map (·.2)) hr.hd rfl hco T (pg _ _ _ _ _ _ room) (pt _ _ _ _ _ _ room) (pe _ _ _ _ _ _ room) (fun _ p hp => by cases hp) (fun _ p hp => by cases hp)
    (fun hm => absurd (f3 _ hm).2 (by rw [hsz]; exact Nat.not_lt.mpr (Nat.le_succ _))) (fun _ p hp => by cases hp) (wipe_wipe _ _) I5 (T.keep _ _ _ st3 fun b _ o e => Heap.get?_push_of_some _ (kp0 b o e)) (fun b hb => (f3 b hb).1.1) isGen_obj (Array.getElem?_push_size ..) (w0 0) turn
  refine wpAny_pure ⟨plainId_quiet F.plain_any_loop _, codeAny_any_gen (S := fun s' => ∃ H', Inv X pins σ H' s' ∧ Q (.bl true) H') hr.hd (by have := hr.dp; omega) (fun n s₀ v s' kap hy => ?_) (fun s1 s2 hS eh eo eb => ?_) (fun s₀ s1 s2 hS k eo eb => ?_) (fun s₀ s1 ⟨_, _, _, J, _⟩ => J.bare) (m0 + 1) _ rdy⟩
  · obtain ⟨al, y, σ', H', Nx, r, J', hgz, _, ⟨b, ey, hb⟩, kk⟩ := hy
    subst ey
    obtain rfl : v = Value.bool b := r
    have hp := J'.pin (h'.objs.size, gexObj s3 X.env.qual) (List.mem_append_right _ (by simp))
    refine ⟨b, rfl, hgz, ⟨_, _, _, hp.1, rfl, rfl, rfl⟩, J'.nolimit, J'.bare, ?_⟩
    cases b with
    | false => exact fun s'' eh eo eg eb => kk () s'' hb ⟨eo, eb, by rw [← eg]; exact hgz, fun b o _ e => by rw [eh]; exact e, fun p hp => (by cases hp), rfl, fun p hp => (by cases hp)⟩
    | true => exact ⟨H', gex_back I3 (fun b hb => (f3 b hb).1) J', hb⟩
  · obtain ⟨H', J', q'⟩ := hS
    exact ⟨.bl true, H', inv_calm J' (fun b o e => by rw [eh]; exact e) eo eb, rfl, q'⟩
  · obtain ⟨al, σ', H', J', q', _⟩ := hS
    exact ⟨.bl false, H', inv_calm (gex_back I3 (fun b hb => (f3 b hb).1) J') k eo eb, rfl, q'⟩
theorem pe_sumG (hr : Room (k + 1) X.A) (hN : X.N.Nodup) (TB : TabB X.base X.mg c P) (hcode : X.env.code = .ref c) (ok : BlkOk X.N X.env.scope scope own) (hm : X.mg "sum" = none) (hi : PI X tg iter wi)
    (pg : ∀ s H C code fp A, Room k A → PG (gexCx X s H (genEnv scope (cloFrom X.env.cells scope.names []) C code builtinsNs X.env) fp A) tg g)
    (pt : ∀ s H C code fp A, Room k A → PTs (gexCx X s H (genEnv scope (cloFrom X.env.cells scope.names []) C code builtinsNs X.env) fp A) ifs tt)
    (pe : ∀ s H C code fp A, Room k A → PE (gexCx X s H (genEnv scope (cloFrom X.env.cells scope.names []) C code builtinsNs X.env) fp A) elt te)
    (hcell : ∀ y ∈ scope.names, y.2 ≠ .cell := by decide +kernel) (hco : scope.isCoroutine = false := by rfl) (hdot : scope.names.lookup (".0" : Str) = some NameKind.local := by rfl)
    (hg : Gl X "sum" := by rfl) (hs : ∀ x, genFold iter X.env x = pure x := by intro _; rfl)
    (he : starEach [.GeneratorExp elt [⟨tg, iter, ifs, 0⟩] scope gpos] X.env = (false, eval (.GeneratorExp elt [⟨tg, iter, ifs, 0⟩] scope gpos) X.env) :: starEach [] X.env := by rfl) :
    PE X (.Call (.Name "sum" p) [.GeneratorExp elt [⟨tg, iter, ifs, 0⟩] scope gpos] [] pos) (tSumG P wi g tt te (own.map (·.2))) := by
  refine ⟨fun pins s σ H Q I h => ?_⟩
  refine wpAny_Call_Name_kw (ld_blt I hg hm PyProof.Rows.boot_sum ?_)
  refine PyProof.Rows.callWith_builtin1 ?_ he (by rfl)
  rw [he]
  show wpAny _ _ (spliced ((false, eval (.GeneratorExp elt [⟨tg, iter, ifs, 0⟩] scope gpos) X.env) :: backTo pos (starEach [] X.env))) _ _ s
  refine Calls.spliced_cons (gen_make hr TB hcode hco hdot ok hcell hi hs I h fun it fp tn J H1 H2 s3 code h' q hT hTb I3 T st3 f3 hn' hs' => ?_)
  obtain ⟨W, ⟨m0, w0⟩, turn⟩ := q H2 hTb
  refine Calls.spliced_nil ?_
  refine call_function_tree F.kind_sum F.plain_sum F.entry_sum (F.args_sum1 _) ?_
  unfold Builtin.«sum»
  simp only [List.length_cons, List.length_nil]
  rw [if_neg (by decide)]
  refine wpAny_bind (wpAny_of_eq (show Builtin.Builtins.bindParams "sum" ["start"] 0 { } = pure [none] from rfl) ?_)
  refine wpAny_bind (wpAny_pyIter_gen isGen_obj ?_)
  refine wpAny_bind (wpAny_mkInt ?_)
  refine wpAny_bind (wpAny_pure ?_)
  simp only [List.forIn_cons, List.forIn_nil]
  refine wpAny_bind (wpAny_bind (wpAny_bind (wpAny_isInstance (T := "int") (b := false) (typeIs_int _ _ _) PySem.sub_int_str ?_)))
  simp only [Bool.false_eq_true, if_false]
  refine wpAny_pure (wpAny_bind (wpAny_bind (wpAny_isInstance (T := "int") (b := false) (typeIs_int _ _ _) PySem.sub_int_bytes ?_)))
  simp only [Bool.false_eq_true, if_false]
  refine wpAny_pure (wpAny_bind (wpAny_bind (wpAny_isInstance (T := "int") (b := false) (typeIs_int _ _ _) PySem.sub_int_bytearray ?_)))
  simp only [Bool.false_eq_true, if_false]
  refine wpAny_pure (wpAny_pure ?_)
  refine wpAny_bind (wpAny_newObj_type ?_)
  have kp0 : ∀ b o, s3.heap.get? b = some o → h'.get? b = some o := fun b o e => hs'.extBut b o (Nat.ne_of_lt (Heap.lt_size e)) (Heap.get?_push_of_some _ e)
  have I5 := gex_start (go := gexObj s3 X.env.qual) (tk := s3.toks + 1 + 1 + 1) (code := code) (own := own) I3 ok hN hcell f3 (over_frames (elt := elt) (tg := tg) (iter := iter) (ifs := ifs) (gpos := gpos) (it := .ref it) (scope := scope) (show X.A.frames = some X.stack from I3.ok.frames)) hr.hd hn' hs' (fun v z => by cases z) rfl
    (I3.bare.push (g := .fresh (.compStart (.GeneratorExp elt [⟨tg, iter, ifs, 0⟩] scope gpos) 0 (.ref it) .none (genEnv scope (cloFrom X.env.cells scope.names []) s3.heap.objs.size code builtinsNs X.env))) rfl)
  have room := over_room (elt := elt) (tg := tg) (iter := iter) (ifs := ifs) (gpos := gpos) (it := .ref it) (scope := scope) (env := genEnv scope (cloFrom X.env.cells scope.names []) s3.heap.objs.size code builtinsNs X.env) hr
  have hsz : h'.objs.size = s3.heap.objs.size + 1 := by rw [hs'.1, Heap.size_push]
  generalize hhp : h'.push (gexObj s3 X.env.qual) = hp at I5 ⊢
  have hpsz : hp.objs.size = s3.heap.objs.size + 2 := by rw [← hhp, Heap.size_push, hsz]
  have kp1 : ∀ b o, s3.heap.get? b = some o → hp.get? b = some o := fun b o e => by rw [← hhp]; exact Heap.get?_push_of_some _ (kp0 b o e)
  have hig0 : hp.IsGen h'.objs.size s3.gens.size := by rw [← hhp]; exact isGen_obj
  -- the sum's own list
  have nS : hp.objs.size ≠ s3.heap.objs.size + 1 := by rw [hpsz]; exact Nat.succ_ne_self _
  have eS : (hp.push ({ cls := .type "list", data := .seq #[Value.int 0 (s3.toks + 1 + 1 + 1)] } : Obj)).get? hp.objs.size = some (sumObj 0 (s3.toks + 1 + 1 + 1) 0) := Heap.get?_push_size _ rfl
  have kp2 : ∀ b o, hp.get? b = some o → (hp.push ({ cls := .type "list", data := .seq #[Value.int 0 (s3.toks + 1 + 1 + 1)] } : Obj)).get? b = some o := fun b o e => Heap.get?_push_of_some _ e
  have I6 := inv_calm (s2 := { s3 with heap := hp.push ({ cls := .type "list", data := .seq #[Value.int 0 (s3.toks + 1 + 1 + 1)] } : Obj), gens := s3.gens.push (.fresh (.compStart (.GeneratorExp elt [⟨tg, iter, ifs, 0⟩] scope gpos) 0 (.ref it) .none (genEnv scope (cloFrom X.env.cells scope.names []) s3.heap.objs.size code builtinsNs X.env))), toks := s3.toks + 1 + 1 + 1 + 1 }) I5 kp2 rfl I5.bare
  have I7 := I6.pins_of (pins' := [(h'.objs.size, gexObj s3 X.env.qual)] ++ [(hp.objs.size, sumObj 0 (s3.toks + 1 + 1 + 1) 0)]) fun p hp' => by
    rcases List.mem_append.mp hp' with hp' | hp'
    · exact I6.pin p (List.mem_append_right _ hp')
    · obtain rfl := List.mem_singleton.mp hp'
      refine ⟨eS, I3.hok.fresh (by rw [hpsz]; exact Nat.le_add_right _ _), ?_, ?_, fun v z => by cases z⟩
      · show hp.objs.size ≠ s3.heap.objs.size
        rw [hpsz]
        exact Nat.ne_of_gt (Nat.lt_add_of_pos_right (by decide))
      · intro z
        have z : hp.objs.size ∈ frs X.stack := z
        rcases List.mem_cons.mp (I3.stkSub _ z) with z | z
        · have q := I3.lt
          rw [← z, hpsz] at q
          exact absurd q (Nat.not_lt.mpr (Nat.le_add_right _ _))
        · exact I3.nofs (by rw [hpsz]; exact Nat.le_add_right _ _) z
  have rdy := gex_ready (α := Int × Tok × Nat) (xp := fun al => [(hp.objs.size, sumObj al.1 al.2.1 al.2.2)]) (a0 := (0, s3.toks + 1 + 1 + 1, 0)) (W := W) (Fn := fun al H' => Q (.int al.1) H')
    (Cs := fun al y H4 Nx => ∃ j, y = .int j ∧ ∀ tk c, Nx (al.1 + j, tk, c) H4) (go := gexObj s3 X.env.qual) (vs := own.map (·.2)) hr.hd rfl hco T (pg _ _ _ _ _ _ room) (pt _ _ _ _ _ _ room) (pe _ _ _ _ _ _ room)
    (fun _ p hp' => by
      obtain rfl := List.mem_singleton.mp hp'
      show _ ≤ hp.objs.size
      rw [hpsz]
      exact Nat.le_add_right _ _)
    (fun _ p hp' => by
      obtain rfl := List.mem_singleton.mp hp'
      show hp.objs.size ≠ h'.objs.size
      rw [hsz]
      exact nS)
    (fun hm => absurd (f3 _ hm).2 (by rw [hsz]; exact Nat.not_lt.mpr (Nat.le_succ _)))
    (fun _ p hp' hm => by
      obtain rfl := List.mem_singleton.mp hp'
      have q := (f3 _ hm).2
      have q2 : hp.objs.size < s3.heap.objs.size := q
      rw [hpsz] at q2
      exact absurd q2 (Nat.not_lt.mpr (Nat.le_add_right _ _)))
    (wipe_wipe _ _) I7 (T.keep _ _ _ st3 fun b _ o e => kp2 b o (kp1 b o e)) (fun b hb => (f3 b hb).1.1) (let ⟨o, nm, qn, ho, r⟩ := hig0; ⟨o, nm, qn, kp2 _ o ho, r⟩) (Array.getElem?_push_size ..) (w0 _) turn
  refine wpAny_pure ⟨plainId_quiet F.plain_sum_loop _, codeAny_sum_gen (S := hp.objs.size) hr.hd (by have := hr.dp; omega) (fun n s₀ v s' kap hy => ?_) (fun s₀ s1 s2 i t hS h0 k eo eb => ?_) (fun s₀ s1 ⟨_, _, _, J, _⟩ => J.bare) (m0 + 1) _ 0 _ _ 0 (.inl rfl) eS rdy⟩
  · obtain ⟨al, y, σ', H', Nx, r, J', hgz, h0, ⟨j, ey, hb⟩, kk⟩ := hy
    subst ey
    obtain ⟨tj, rfl⟩ := r
    have hpA := (J'.pin (h'.objs.size, gexObj s3 X.env.qual) (List.mem_append_right _ (by simp))).1
    have hpS := (J'.pin (hp.objs.size, sumObj al.1 al.2.1 al.2.2) (List.mem_append_right _ (by simp))).1
    refine ⟨j, tj, al.1, al.2.1, al.2.2, rfl, h0 (hp.objs.size, sumObj al.1 al.2.1 al.2.2) (by simp), hpS, hgz, fun h2 hk => ⟨⟨_, _, _, hk _ _ (by rw [hsz]; exact Ne.symm nS) hpA, rfl, rfl, rfl⟩, ?_⟩, J'.bare, fun s'' hk ⟨tk, c', hS2⟩ eo eg eb => ?_⟩
    · refine J'.ok.mod.nolimit.keeps fun b o e => hk b o (fun z => ?_) (J'.bk b o e)
      have q := Nat.lt_of_lt_of_le (Heap.lt_size e) (Nat.le_trans I3.ok.bsz I3.sz)
      rw [z, hpsz] at q
      exact absurd q (Nat.not_lt.mpr (Nat.le_add_right _ _))
    · refine kk (al.1 + j, tk, c') s'' (hb tk c') ⟨eo, eb, by rw [← eg]; exact hgz, fun b o hb e => hk b o (fun z => hb (by rw [z]; simp)) e, fun p hp' => ?_, rfl, fun p hp' => ?_⟩
      · obtain rfl := List.mem_singleton.mp hp'
        exact hS2
      · obtain rfl := List.mem_singleton.mp hp'
        exact fun v z => by cases z
  · obtain ⟨al, σ', H', J', q', _, h1⟩ := hS
    obtain ⟨tk, c', h2⟩ := h0
    have h1' := h1 (hp.objs.size, sumObj al.1 al.2.1 al.2.2) (by simp)
    have h1'' : s₀.heap.get? hp.objs.size = some (sumObj al.1 al.2.1 al.2.2) := h1'
    rw [h2] at h1''
    have ei : i = al.1 := by
      have z := congrArg Obj.data (Option.some.inj h1'')
      have z2 : (Data.seq #[Value.int i tk] c') = Data.seq #[Value.int al.1 al.2.1] al.2.2 := z
      injection z2 with z3 _
      have z4 := congrArg Array.toList z3
      simp at z4
      exact z4.1
    rw [ei]
    exact ⟨.int al.1, H', inv_calm (gex_back I3 (fun b hb => (f3 b hb).1) J') k eo eb, ⟨t, rfl⟩, q'⟩
end
end
end Gx
set_option Elab.async false
set_option linter.all false
set_option maxRecDepth 100000
set_option maxHeartbeats 2000000
/-! {k: v for .. in .. for .. in ..} -/
namespace Gx
open PySem PySem.Spec PyProof.Rows L2

abbrev dc2 (kx vx t0 i0 t1 i1 : Expr) (ifs0 ifs1 : List Expr) (scope : Scope) (pos : Pos) : Expr := .DictComp kx vx [⟨t0, i0, ifs0, 0⟩, ⟨t1, i1, ifs1, 0⟩] scope pos
section
variable {kx vx t0 i0 t1 i1 : Expr} {ifs0 ifs1 : List Expr} {scope : Scope} {pos : Pos}
theorem inner_in {X : Cx} {pins : List (Addr × Obj)} {σ : L2.St} {H : Hp} {s : Shared} {D it : Addr} {fp : List Addr} {tn : Nat → Heap → Prop} {J : It} {g : TG} {tt : TT} {tk tv : TE} {vs1 : List Nat} {W : Nat → Nat → Hp → Prop} {m0 : Nat} {Z : L2.St → Hp → Prop}
    (hcalm : X.calm = true) (hxe : X.xe = fun _ _ => False) (T : Turn X.prog X.w X.K t1 J fp it tn) (pg : PG X t1 g) (pt : PTs X ifs1 tt) (pk : PE X kx tk) (pv : PE X vx tv)
    (I : Inv X pins σ H s) (st : tn 0 s.heap) (hf : ∀ b ∈ fp, FpOk X pins H b) (w0 : W 0 m0 H)
    (turn : ∀ i m H, W i m H → (J.stop i H ∧ Z (wipe σ vs1) H) ∨ (J.go i H ∧ ∃ Nx : Hp → Prop, (∀ H', Nx H' → ∃ m', m' < m ∧ W (i + 1) m' H') ∧ ∀ x H', J.yld i H x H' → g x (wipe σ vs1) H' fun σ3 H5 => wipe σ3 vs1 = wipe σ vs1 ∧ tt σ3 H5 fun b H6 =>
      if b = true then tk σ3 H6 fun y H7 => tv σ3 H7 fun z H8 => ∃ kvs k, y = kV k ∧ H8 D = some (.dK kvs) ∧ kvs.length < sizeLine ∧ Nx (upd H8 D (.dK (putK kvs k z))) else Nx H6)) :
    codeAny (model X.prog X.w) X.A (.compLoop (dc2 kx vx t0 i0 t1 i1 ifs0 ifs1 scope pos) 1 (.ref it) (.ref D) X.env)
      (fun r s' => match r with | .ok _ => ∃ σ' H', Inv X pins σ' H' s' ∧ Z σ' H' | .error _ => False) s := by
  refine codeAny_loop rfl (fun n s' => ∃ i H', Inv X pins (wipe σ vs1) H' s' ∧ tn i s'.heap ∧ (∀ b ∈ fp, H' b = none) ∧ W i n H') ?_ m0 ⟨0, H, I.weak (wipe_length _ _) (fun j v e => (wipe_some e).1), st, fun b hb => (hf b hb).1, w0⟩
  rintro n s5 ⟨i, H5, I5, st5, n5, w5⟩
  have stat : ∀ {H' : Hp}, (∀ b ∈ fp, H' b = none) → ∀ b ∈ fp, FpOk X pins H' b := fun hn b hb => ⟨hn b hb, (hf b hb).2⟩
  show wpAny _ X.A ((compTurn (dc2 kx vx t0 i0 t1 i1 ifs0 ifs1 scope pos) 1 (.ref it) (.ref D) X.env).onRaise (fun x => do noteFrame x X.env; theTreesLotGoes x)) _ _ s5
  refine wpAny_noted ?_
  dsimp only [compTurn, dc2]
  refine wpAny_bind (wpAny_standAt (wpAny_bind ?_))
  rcases turn i n H5 w5 with ⟨stop, qq⟩ | ⟨go, Nx, hNx, step⟩
  · refine thnF (T.done X rfl rfl rfl hcalm i _ s5 _ H5 (fun _ _ => False) I5 (stat n5) st5 stop) fun r s6 ⟨hr, I6⟩ => ?_
    subst hr
    exact wpAny_pure ⟨_, H5, I6, qq⟩
  · refine thnF (T.item X rfl rfl rfl hcalm i _ s5 _ H5 (fun _ _ => False) I5 (stat n5) st5 go) fun r s6 ⟨u, hr, h6⟩ => ?_
    subst hr
    refine wpAny_bind (thnF h6 fun _ s7 ⟨x, H7, I7, r7, y7, st7, n7⟩ => ?_)
    have I7' := I7.pinned (stat n7) (T.obj _ _ st7)
    have pgr := pg.run _ s7 _ H7 x u _ I7' r7 (step x H7 y7)
    rw [hxe] at pgr
    refine wpAny_bind (thnF pgr fun _ s8 ⟨σ8, H8, I8, hw8, q8⟩ => ?_)
    have ptr := pt.run _ s8 σ8 H8 _ I8 q8
    rw [hxe] at ptr
    refine wpAny_bind (thnF ptr fun b s9 ⟨H9, I9, q9⟩ => ?_)
    have fin : ∀ {s' : Shared} {H' : Hp}, Inv X (pins ++ pinsAt fp s7.heap) σ8 H' s' → Nx H' → ∃ m, m < n ∧ ∃ i H', Inv X pins (wipe σ vs1) H' s' ∧ tn i s'.heap ∧ (∀ b ∈ fp, H' b = none) ∧ W i m H' := fun {s' H'} I' nx => by
      obtain ⟨m', hm, w'⟩ := hNx H' nx
      have pin' : ∀ b ∈ fp, ∀ o, s7.heap.get? b = some o → s'.heap.get? b = some o ∧ H' b = none := fun b hb o e =>
        let z := I'.pin (b, o) (List.mem_append_right _ (List.mem_append_right _ (mem_pinsAt hb e)))
        ⟨z.1, z.2.1⟩
      have hl : (wipe σ vs1).length = σ8.length := by rw [← hw8, wipe_length]
      refine ⟨m', hm, i + 1, H', (I'.pins_of fun p hp => I'.pin p (List.mem_append_right _ (List.mem_append_left _ hp))).weak hl (fun j v e => ?_), T.keep _ _ _ st7 fun b hb o e => (pin' b hb o e).1, fun b hb => ?_, w'⟩
      · rw [← hw8] at e
        exact (wipe_some e).1
      · obtain ⟨o, e, _⟩ := T.obj _ _ st7 b hb
        exact (pin' b hb o e).2
    cases b with
    | false =>
      simp only [Bool.false_eq_true, if_false] at q9
      exact wpAny_pure ⟨rfl, fin I9 q9⟩
    | true =>
      simp only [if_true] at q9
      have pkr := pk.run _ s9 σ8 H9 _ I9 q9
      rw [hxe] at pkr
      refine wpAny_bind (wpAny_bind (thnF pkr fun kv s10 ⟨ky, H10, I10, r10, q10⟩ => ?_))
      have pvr := pv.run _ s10 σ8 H10 _ I10 q10
      rw [hxe] at pvr
      refine wpAny_bind (wpAny_holding (thnF pvr fun vv s11 ⟨vy, H11, I11, r11, kvs, k, ek, hD, hz, nx⟩ => ?_))
      subst ek
      refine wpAny_bind (wpAny_standAt ?_)
      refine wpAny_holding (d_dictSet I11 hD hz r10 r11 fun s12 I12 => ?_)
      exact wpAny_pure ⟨rfl, fin I12 nx⟩

/-- a clause's start -/
theorem startD {prog : Program} {w : World} {A : Around} {R : Result → Shared → Prop} {s : Shared} {it : Addr} {D : Addr} {env : Env} {d : Nat} (hd : d = 0 ∨ d = 1) (hself : ∀ (A : Around) (Q : Value → Shared → Prop) (E : Value → Shared → Prop), Q (.ref it) s → wpAny (model prog w) A (pyIter (.ref it)) Q E s)
    (h : codeAny (model prog w) A (.compLoop (dc2 kx vx t0 i0 t1 i1 ifs0 ifs1 scope pos) d (.ref it) (.ref D) env) R s) : codeAny (model prog w) A (.compStart (dc2 kx vx t0 i0 t1 i1 ifs0 ifs1 scope pos) d (.ref it) (.ref D) env) R s := by
  refine codeAny_of_tree ?_
  show wpAny _ _ ((compStart (dc2 kx vx t0 i0 t1 i1 ifs0 ifs1 scope pos) d (.ref it) (.ref D) env).onRaise (fun x => do noteFrame x env; standAt theWindowsPlace)) _ _ s
  refine wpAny_notedAt ?_
  unfold compStart
  rcases hd with rfl | rfl
  · show wpAny _ _ (ask >>= _) _ _ s
    refine wpAny_bind (wpAny_askSetting (wpAny_ite ?_))
    split
    · exact wpAny_bind (wpAny_pure (wpAny_pure (And.intro rfl h)))
    · refine wpAny_bind (wpAny_rule ?_)
      show wpAny _ _ (standAt i0.pos >>= _) _ _ s
      exact wpAny_bind (wpAny_standAt (wpAny_bind (hself _ _ _ (wpAny_pure (And.intro rfl h)))))
  · show wpAny _ _ (ask >>= _) _ _ s
    refine wpAny_bind (wpAny_askSetting (wpAny_ite ?_))
    split
    · exact wpAny_bind (wpAny_pure (wpAny_pure (And.intro rfl h)))
    · refine wpAny_bind (wpAny_rule ?_)
      show wpAny _ _ (standAt i1.pos >>= _) _ _ s
      exact wpAny_bind (wpAny_standAt (wpAny_bind (hself _ _ _ (wpAny_pure (And.intro rfl h)))))

/-- {k: v for t0 in i0 if .. for t1 in i1 if ..}, keys ints or texts -/
def tDc2 (wi : TI) (g : TG) (tt : TT) (wi1 : TI) (g1 : TG) (tt1 : TT) (tk tv : TE) (vs vs1 : List Nat) : TE := fun σ H Q => wi σ H fun J H1 => ∀ D, H1 D = none → ∃ W : Nat → Nat → Hp → Prop, (∃ m, W 0 m (upd H1 D (.dK []))) ∧ ∀ i m H, W i m H →
  (J.stop i H ∧ Q (.ref D) H) ∨ (J.go i H ∧ ∃ Nx : Hp → Prop, (∀ H', Nx H' → ∃ m', m' < m ∧ W (i + 1) m' H') ∧ ∀ x H', J.yld i H x H' → g x (wipe σ vs) H' fun σ2 H2 => wipe σ2 vs = wipe σ vs ∧ tt σ2 H2 fun b H3 =>
    if b = true then wi1 σ2 H3 fun J1 H4 => ∃ W1 : Nat → Nat → Hp → Prop, (∃ m, W1 0 m H4) ∧ ∀ j k H, W1 j k H →
      (J1.stop j H ∧ Nx H) ∨ (J1.go j H ∧ ∃ Nx1 : Hp → Prop, (∀ H', Nx1 H' → ∃ k', k' < k ∧ W1 (j + 1) k' H') ∧ ∀ x H', J1.yld j H x H' → g1 x (wipe σ2 vs1) H' fun σ3 H5 => wipe σ3 vs1 = wipe σ2 vs1 ∧ tt1 σ3 H5 fun b H6 =>
        if b = true then tk σ3 H6 fun y H7 => tv σ3 H7 fun z H8 => ∃ kvs k, y = kV k ∧ H8 D = some (.dK kvs) ∧ kvs.length < sizeLine ∧ Nx1 (upd H8 D (.dK (putK kvs k z))) else Nx1 H6)
    else Nx H3)

theorem outer_in {X : Cx} {σ0 : L2.St} {H : Hp} {s : Shared} {D it : Addr} {fp : List Addr} {tn : Nat → Heap → Prop} {J : It} {wi1 : TI} {g g1 : TG} {tt tt1 : TT} {tk tv : TE} {vs vs1 : List Nat} {W : Nat → Nat → Hp → Prop} {m0 : Nat} {Z : Hp → Prop}
    (hcalm : X.calm = true) (hxe : X.xe = fun _ _ => False) (hfx : X.ex = fp) (hpn : X.pn = []) (T : Turn X.prog X.w X.K t0 J fp it tn) (pg : PG X t0 g) (pt : PTs X ifs0 tt) (pi1 : PI X t1 i1 wi1) (pg1 : PG X t1 g1) (pt1 : PTs X ifs1 tt1) (pk : PE X kx tk) (pv : PE X vx tv)
    (hs1 : ∀ env x, foldedSetIterable i1 env x = pure x) (hv : ∀ i ∈ vs1, i ∈ vs) (hw0 : wipe σ0 vs = σ0)
    (I : Inv X [] σ0 H s) (st : tn 0 s.heap) (hn : ∀ b ∈ fp, H b = none) (w0 : W 0 m0 H)
    (turn : ∀ i m H, W i m H → (J.stop i H ∧ Z H) ∨ (J.go i H ∧ ∃ Nx : Hp → Prop, (∀ H', Nx H' → ∃ m', m' < m ∧ W (i + 1) m' H') ∧ ∀ x H', J.yld i H x H' → g x σ0 H' fun σ2 H2 => wipe σ2 vs = σ0 ∧ tt σ2 H2 fun b H3 =>
      if b = true then wi1 σ2 H3 fun J1 H4 => ∃ W1 : Nat → Nat → Hp → Prop, (∃ m, W1 0 m H4) ∧ ∀ j k H, W1 j k H →
        (J1.stop j H ∧ Nx H) ∨ (J1.go j H ∧ ∃ Nx1 : Hp → Prop, (∀ H', Nx1 H' → ∃ k', k' < k ∧ W1 (j + 1) k' H') ∧ ∀ x H', J1.yld j H x H' → g1 x (wipe σ2 vs1) H' fun σ3 H5 => wipe σ3 vs1 = wipe σ2 vs1 ∧ tt1 σ3 H5 fun b H6 =>
          if b = true then tk σ3 H6 fun y H7 => tv σ3 H7 fun z H8 => ∃ kvs k, y = kV k ∧ H8 D = some (.dK kvs) ∧ kvs.length < sizeLine ∧ Nx1 (upd H8 D (.dK (putK kvs k z))) else Nx1 H6)
      else Nx H3)) :
    codeAny (model X.prog X.w) X.A (.compLoop (dc2 kx vx t0 i0 t1 i1 ifs0 ifs1 scope pos) 0 (.ref it) (.ref D) X.env)
      (fun r s' => match r with | .ok f => f = .next ∧ ∃ H', Inv X [] σ0 H' s' ∧ Z H' | .error _ => False) s := by
  have stat : ∀ {σ' : L2.St} {H' : Hp} {s' : Shared}, Inv X [] σ' H' s' → (∀ b ∈ fp, H' b = none) → ∀ b ∈ fp, FpOk X [] H' b := fun {σ' H' s'} I' hn b hb => by
    have hb' : b ∈ X.ex := by rw [hfx]; exact hb
    refine ⟨hn b hb, (I'.ok.exf b hb').1, I'.ok.exfs b hb', .inl hb', fun x c e => (I'.ok.exf b hb').2 x c e, fun p hp => ?_⟩
    rw [hpn] at hp
    exact absurd hp (by simp)
  refine codeAny_loop rfl (fun n s' => ∃ i H', Inv X [] σ0 H' s' ∧ tn i s'.heap ∧ (∀ b ∈ fp, H' b = none) ∧ W i n H') ?_ m0 ⟨0, H, I, st, hn, w0⟩
  rintro n s5 ⟨i, H5, I5, st5, n5, w5⟩
  show wpAny _ X.A ((compTurn (dc2 kx vx t0 i0 t1 i1 ifs0 ifs1 scope pos) 0 (.ref it) (.ref D) X.env).onRaise (fun x => do noteFrame x X.env; theTreesLotGoes x)) _ _ s5
  refine wpAny_noted ?_
  dsimp only [compTurn, dc2]
  refine wpAny_bind (wpAny_standAt (wpAny_bind ?_))
  rcases turn i n H5 w5 with ⟨stop, qq⟩ | ⟨go, Nx, hNx, step⟩
  · refine thnF (T.done X rfl rfl rfl hcalm i _ s5 _ H5 (fun _ _ => False) I5 (stat I5 n5) st5 stop) fun r s6 ⟨hr, I6⟩ => ?_
    subst hr
    exact wpAny_pure ⟨rfl, H5, I6, qq⟩
  · refine thnF (T.item X rfl rfl rfl hcalm i _ s5 _ H5 (fun _ _ => False) I5 (stat I5 n5) st5 go) fun r s6 ⟨u, hr, h6⟩ => ?_
    subst hr
    refine wpAny_bind (thnF h6 fun _ s7 ⟨x, H7, I7, r7, y7, st7, n7⟩ => ?_)
    have I7' := I7.pinned (stat I7 n7) (T.obj _ _ st7)
    have pgr := pg.run _ s7 _ H7 x u _ I7' r7 (step x H7 y7)
    rw [hxe] at pgr
    refine wpAny_bind (thnF pgr fun _ s8 ⟨σ8, H8, I8, hw8, q8⟩ => ?_)
    have ptr := pt.run _ s8 σ8 H8 _ I8 q8
    rw [hxe] at ptr
    refine wpAny_bind (thnF ptr fun b s9 ⟨H9, I9, q9⟩ => ?_)
    have hl8 : σ0.length = σ8.length := by rw [← hw8, wipe_length]
    have fin : ∀ {σ9 : L2.St} {s' : Shared} {H' : Hp}, Inv X ([] ++ pinsAt fp s7.heap) σ9 H' s' → σ0.length = σ9.length → (∀ (j : Nat) v, σ0[j]? = some (some v) → σ9[j]? = some (some v)) → Nx H' →
        ∃ m, m < n ∧ ∃ i H', Inv X [] σ0 H' s' ∧ tn i s'.heap ∧ (∀ b ∈ fp, H' b = none) ∧ W i m H' := fun {σ9 s' H'} I' hl hk nx => by
      obtain ⟨m', hm, w'⟩ := hNx H' nx
      have pin' : ∀ b ∈ fp, ∀ o, s7.heap.get? b = some o → s'.heap.get? b = some o ∧ H' b = none := fun b hb o e =>
        let z := I'.pin (b, o) (List.mem_append_right _ (List.mem_append_right _ (mem_pinsAt hb e)))
        ⟨z.1, z.2.1⟩
      refine ⟨m', hm, i + 1, H', (I'.pins_of fun p hp => absurd hp (by simp)).weak hl hk, T.keep _ _ _ st7 fun b hb o e => (pin' b hb o e).1, fun b hb => ?_, w'⟩
      obtain ⟨o, e, _⟩ := T.obj _ _ st7 b hb
      exact (pin' b hb o e).2
    have hk8 : ∀ (j : Nat) v, σ0[j]? = some (some v) → σ8[j]? = some (some v) := fun j v e => by
      rw [← hw8] at e
      exact (wipe_some e).1
    cases b with
    | false =>
      simp only [Bool.false_eq_true, if_false] at q9
      exact wpAny_pure ⟨rfl, fin I9 hl8 hk8 q9⟩
    | true =>
      simp only [if_true] at q9
      have pir := pi1.run _ s9 σ8 H9 _ I9 q9
      rw [hxe] at pir
      refine wpAny_bind (thnF pir fun xv s10 hx => ?_)
      refine wpAny_bind (wpAny_standAt (wpAny_bind (wpAny_of_eq (hs1 X.env xv) (wpAny_bind (wpAny_holding (thnF hx fun itv s11 h11 => ?_))))))
      obtain ⟨it1, fp1, tn1, J1, H11, e1, I11, T1, st11, f11, W1, ⟨m1, w1⟩, turn1⟩ := h11
      subst e1
      refine wpAny_bind (wpAny_runOwn ?_)
      rw [Around.mark_none]
      have loop1 := inner_in (kx := kx) (vx := vx) (t0 := t0) (i0 := i0) (t1 := t1) (i1 := i1) (ifs0 := ifs0) (ifs1 := ifs1) (scope := scope) (pos := pos) (D := D) (Z := fun σ' H' => σ' = wipe σ8 vs1 ∧ Nx H') hcalm hxe T1 pg1 pt1 pk pv I11 st11 f11 w1 (fun j k H' w' => by
        rcases turn1 j k H' w' with ⟨a1, a2⟩ | a1
        · exact .inl ⟨a1, rfl, a2⟩
        · exact .inr a1)
      refine codeAny_mono (startD (.inr rfl) (fun A Q E hq => T1.self A 0 _ _ _ st11 hq) loop1) fun r s' hr => ?_
      cases r with
      | error e => exact hr.elim
      | ok f =>
        obtain ⟨σ', H', I', e', nx⟩ := hr
        refine wpAny_pure ⟨rfl, fin I' (by rw [e', wipe_length]; exact hl8) (fun j v e => ?_) nx⟩
        rw [e', wipe_at]
        have q := hk8 j v e
        rw [if_neg (fun z => ?_)]
        · exact q
        · rw [← hw0] at e
          exact (wipe_some e).2 (hv j z.1)

theorem pe_dc2 {X : Cx} {own : List (Str × Nat)} {vs1 : List Nat} {wi wi1 : TI} {g g1 : TG} {tt tt1 : TT} {tk tv : TE} (hc : X.calm = true) (hN : X.N.Nodup) (hi : PI X t0 i0 wi) (ok : BlkOk X.N X.env.scope scope own) (hv : ∀ i ∈ vs1, i ∈ own.map (·.2))
    (hg : ∀ s H C cl fp, PG (X.blk s H scope (compEnvC scope cl C X.env) fp) t0 g) (ht : ∀ s H C cl fp, PTs (X.blk s H scope (compEnvC scope cl C X.env) fp) ifs0 tt)
    (hi1 : ∀ s H C cl fp, PI (X.blk s H scope (compEnvC scope cl C X.env) fp) t1 i1 wi1)
    (hg1 : ∀ s H C cl fp, PG (X.blk s H scope (compEnvC scope cl C X.env) fp) t1 g1) (ht1 : ∀ s H C cl fp, PTs (X.blk s H scope (compEnvC scope cl C X.env) fp) ifs1 tt1)
    (hk : ∀ s H C cl fp, PE (X.blk s H scope (compEnvC scope cl C X.env) fp) kx tk) (hw : ∀ s H C cl fp, PE (X.blk s H scope (compEnvC scope cl C X.env) fp) vx tv)
    (hs : ∀ x, foldedSetIterable i0 X.env x = pure x := by intro _; rfl) (hs1 : ∀ env x, foldedSetIterable i1 env x = pure x := by intro _ _; rfl) :
    PE X (dc2 kx vx t0 i0 t1 i1 ifs0 ifs1 scope pos) (tDc2 wi g tt wi1 g1 tt1 tk tv (own.map (·.2)) vs1) := by
  refine ⟨fun pins s σ H Q I h => ?_⟩
  rw [arm_eval_DictComp]
  have hfree : ∀ y ∈ scope.names, y.2 = .free → ∃ c, X.env.cells.lookup y.1 = some c := fun y hy e => by
    rcases ok.free y hy e with k | k
    · exact I.ok.has _ (.inl k)
    · exact I.ok.has _ (.inr k)
  refine wpAny_comprehension_free (use := none) rfl hs (closure_ok hfree) ok.kind (fun y hy e => by rw [ok.uniq y hy, e])
    (thn (hi.run pins s σ H _ I h) fun xv s1 hx => thn hx fun itv s2 h2 => ?_)
  obtain ⟨it, fp, tn, J, H2, e, I2, T, st2, f2, q⟩ := h2
  subst e
  refine wpAny_newObj_type (newEnv_comp ?_)
  generalize hD : s2.heap.objs.size = D
  have hDn : H2 D = none := I2.hok.fresh (Nat.le_of_eq hD)
  obtain ⟨W, ⟨m0, w0⟩, turn⟩ := q D hDn
  generalize hs3 : ({ s2 with heap := s2.heap.push { cls := .type "dict", data := .dict #[] } } : Shared) = s3
  have I3 : Inv X pins σ (upd H2 D (.dK [])) s3 := by
    rw [← hs3]
    refine I2.laid (t' := s2.toks) (fun b o e => Heap.get?_push_of_some _ e) (Nat.le_of_eq hD) ?_
    rw [← hD]
    exact dk_empty s2.heap I2.big
  have h3 : s3.heap = s2.heap.push { cls := .type "dict", data := .dict #[] } := by rw [← hs3]
  have f3 : ∀ b ∈ fp, FpOk X pins (upd H2 D (.dK [])) b ∧ b < s3.heap.objs.size := fun b hb => by
    obtain ⟨o, e, _⟩ := T.obj _ _ st2 b hb
    have hlt : b < s2.heap.objs.size := Heap.lt_size e
    refine ⟨⟨?_, (f2 b hb).2⟩, by rw [h3, Heap.size_push]; exact Nat.lt_succ_of_lt hlt⟩
    rw [upd_ne (by rw [← hD]; exact Nat.ne_of_lt hlt)]
    exact (f2 b hb).1
  have st3 : tn 0 s3.heap := T.keep _ _ _ st2 fun b _ o e => by rw [h3]; exact Heap.get?_push_of_some _ e
  have I4 := block_start I3 ok hN f3
  have back : ∀ {σ' : L2.St} {H' : Hp} {s' : Shared} {ce : Env}, Inv (X.blk s3 (upd H2 D (.dK [])) scope ce fp) [] σ' H' s' → Inv X pins σ H' s' := fun I' =>
    I3.call' (ch := fp) I'.os I'.base I'.hok I'.bare fun b hb => ⟨(f3 b hb).1.2.2.2.1, (f3 b hb).1.2.1, (f3 b hb).1.2.2.2.2.1, (f3 b hb).1.2.2.2.2.2⟩
  have st4 : tn 0 (pushCells (s3.heap.push { cls := .type "dict", data := .dict #[] }) scope.names) := T.keep _ _ _ st3 fun b _ o e => pushCells_keeps _ _ _ _ (Heap.get?_push_of_some _ e)
  have loop := outer_in (X := X.blk s3 (upd H2 D (.dK [])) scope (compEnvC scope (cellsFrom (s3.heap.objs.size + 1) scope.names (cloFrom X.env.cells scope.names [])) s3.heap.objs.size X.env) fp) (kx := kx) (vx := vx) (i0 := i0) (scope := scope) (pos := pos)
    hc rfl rfl rfl T (hg _ _ _ _ _) (ht _ _ _ _ _) (hi1 _ _ _ _ _) (hg1 _ _ _ _ _) (ht1 _ _ _ _ _) (hk _ _ _ _ _) (hw _ _ _ _ _) hs1 hv (wipe_wipe _ _) I4 st4 (fun b hb => (f3 b hb).1.1) w0 turn
  refine codeAny_mono (startD (.inl rfl) (fun A Q E hq => T.self A 0 _ _ _ st4 hq) loop) fun r s' hr => ?_
  cases r with
  | error e => exact hr.elim
  | ok f =>
    obtain ⟨rfl, H', I', qq⟩ := hr
    have I7 := back I'
    have nC : H' s3.heap.objs.size = none := I'.free
    obtain ⟨m, hn, _⟩ := I'.loc
    have hn : s'.heap.Ns s3.heap.objs.size m := hn
    refine ⟨m, hn, fun h'' sb => ?_⟩
    obtain ⟨f0, f1, f2, f3, f4, f5⟩ := I3.fpOk (Nat.le_refl _) nC
    exact ⟨.ref D, H', I7.turned (t' := s'.toks) (fun b o hb e => (sb.2 b hb).trans e) f0 f1 f3 f4 f5, rfl, qq⟩
end
end Gx
set_option Elab.async false
set_option linter.all false
set_option maxRecDepth 100000
set_option maxHeartbeats 2000000
/-! data held by a heap; what a reading yields as data -/
namespace Dl
open PySem PySem.Spec PyProof.Rows L2 GxR Gx

/-- all stays but the tables at G, which stay tables -/
structure Ext (G : List Addr) (H H' : Hp) : Prop where
  keep : ∀ a, a ∉ G → ∀ o, H a = some o → H' a = some o
  tab : ∀ P ∈ G, TabG H P → TabG H' P
theorem Ext.refl (G : List Addr) (H : Hp) : Ext G H H := ⟨fun _ _ _ e => e, fun _ _ t => t⟩
theorem Ext.trans {G : List Addr} {H H1 H2 : Hp} (a : Ext G H H1) (b : Ext G H1 H2) : Ext G H H2 := ⟨fun c n o e => b.keep c n o (a.keep c n o e), fun P h t => b.tab P h (a.tab P h t)⟩
theorem Ext.new {G : List Addr} {H : Hp} {p : Addr} {o : HO} (h : H p = none) : Ext G H (upd H p o) :=
  ⟨fun a _ u e => by rw [upd_ne (ne_of_none e h)]; exact e, fun P _ ⟨ps, e, t⟩ => ⟨ps, by rw [upd_ne (ne_of_none e h)]; exact e, t⟩⟩
theorem Ext.tabbed {G : List Addr} {P : Addr} {H1 H2 : Hp} (hP : P ∈ G) (h : Tabbed P H1 H2) : Ext G H1 H2 := by
  refine ⟨fun a n o e => ?_, fun Q hQ t => ?_⟩
  · rw [h.2 a (fun z => n (by rw [z]; exact hP))]
    exact e
  · by_cases hq : Q = P
    · rw [hq]; exact h.1
    · obtain ⟨ps, e, t⟩ := t
      exact ⟨ps, by rw [h.2 Q hq]; exact e, t⟩
def TabsG (G : List Addr) (H : Hp) : Prop := ∀ P ∈ G, TabG H P
theorem TabsG.ext {G : List Addr} {H H' : Hp} (t : TabsG G H) (e : Ext G H H') : TabsG G H' := fun P h => e.tab P h (t P h)
theorem notTab {G : List Addr} {H : Hp} (t : TabsG G H) {a : Addr} {o : HO} (e : H a = some o) (n : ∀ ps, o ≠ .tbl ps) : a ∉ G := fun hm => by
  obtain ⟨ps, h, _⟩ := t a hm
  rw [e] at h
  cases h
  exact n ps rfl
theorem Ext.at {G : List Addr} {H H' : Hp} (x : Ext G H H') (t : TabsG G H) {a : Addr} {o : HO} (e : H a = some o) (n : ∀ ps, o ≠ .tbl ps) : H' a = some o := x.keep a (notTab t e n) o e
theorem Ext.fresh {G : List Addr} {H H' : Hp} (x : Ext G H H') (t : TabsG G H) {p : Addr} (h : H' p = none) : H p = none := by
  cases q : H p with
  | none => rfl
  | some o =>
    by_cases hp : p ∈ G
    · obtain ⟨ps, e, _⟩ := t.ext x p hp
      rw [h] at e
      cases e
    · rw [x.keep p hp o q] at h
      cases h
theorem Ext.rd {G : List Addr} {H H' : Hp} (x : Ext G H H') (t : TabsG G H) {a : Addr} {u : HO} (n : ∀ ps, u ≠ .tbl ps) (h : Rd H a u) : Rd H' a u := by
  rcases h with h | ⟨o, h⟩
  · exact .inl (x.at t h n)
  · exact .inr ⟨o, x.at t h (fun ps z => by cases z)⟩
theorem Ext.sqT {G : List Addr} {K : PySem.W.Frag} {H H' : Hp} (x : Ext G H H') (t : TabsG G H) {a : Addr} {xs : List V} (h : SqT K H a xs) : SqT K H' a xs := by
  rcases h with h | h
  · exact .inl (x.rd t (fun ps z => by cases z) h)
  · exact .inr h
theorem Ext.sqL {G : List Addr} {K : PySem.W.Frag} {H H' : Hp} (x : Ext G H H') (t : TabsG G H) {a : Addr} {xs : List V} (h : SqL K H a xs) : SqL K H' a xs := by
  rcases h with h | h
  · exact .inl (x.rd t (fun ps z => by cases z) h)
  · exact .inr h

section
variable {G : List Addr} {K : PySem.W.Frag} {H H' : Hp}
mutual
theorem dp_ext (x : Ext G H H') (t : TabsG G H) : ∀ {v : V} {d : PyData}, Dp K H v d → Dp K H' v d
  | _, _, .non => .non
  | _, _, .bl b => .bl b
  | _, _, .int i => .int i
  | _, _, .str z => .str z
  | _, _, .lst h r => .lst (x.sqL t h) (dpA_ext x t r)
  | _, _, .tup h r => .tup (x.sqT t h) (dpA_ext x t r)
theorem dpA_ext (x : Ext G H H') (t : TabsG G H) : ∀ {vs : List V} {ds : List PyData}, DpAll K H vs ds → DpAll K H' vs ds
  | _, _, .nil => .nil
  | _, _, .cons a r => .cons (dp_ext x t a) (dpA_ext x t r)
end
theorem dpA_len : ∀ {vs : List V} {ds : List PyData}, DpAll K H vs ds → vs.length = ds.length
  | _, _, .nil => rfl
  | _, _, .cons _ r => congrArg (· + 1) (dpA_len r)
theorem dpA_get : ∀ {vs : List V} {ds : List PyData} {i : Nat} {d : PyData}, DpAll K H vs ds → ds[i]? = some d → ∃ v, vs[i]? = some v ∧ Dp K H v d
  | _, _, _, _, .nil, e => by simp at e
  | _, _, 0, d, .cons a _, e => by
    have e' := Option.some.inj e
    subst e'
    exact ⟨_, rfl, a⟩
  | _, _, i + 1, d, .cons _ r, e => dpA_get (i := i) r e
theorem dpA_getV : ∀ {vs : List V} {ds : List PyData} {i : Nat} {v : V}, DpAll K H vs ds → vs[i]? = some v → ∃ d, ds[i]? = some d ∧ Dp K H v d
  | _, _, _, _, .nil, e => by simp at e
  | _, _, 0, d, .cons a _, e => by
    have e' := Option.some.inj e
    subst e'
    exact ⟨_, rfl, a⟩
  | _, _, i + 1, d, .cons _ r, e => dpA_getV (i := i) r e
theorem dpA_app : ∀ {vs ws : List V} {ds es : List PyData}, DpAll K H vs ds → DpAll K H ws es → DpAll K H (vs ++ ws) (ds ++ es)
  | _, _, _, _, .nil, b => b
  | _, _, _, _, .cons a r, b => .cons a (dpA_app r b)
theorem dpA_drop : ∀ {vs : List V} {ds : List PyData} (n : Nat), DpAll K H vs ds → DpAll K H (vs.drop n) (ds.drop n)
  | _, _, 0, r => r
  | _, _, _ + 1, .nil => .nil
  | _, _, n + 1, .cons _ r => dpA_drop n r
theorem dpA_take : ∀ {vs : List V} {ds : List PyData} (n : Nat), DpAll K H vs ds → DpAll K H (vs.take n) (ds.take n)
  | _, _, 0, _ => .nil
  | _, _, _ + 1, .nil => .nil
  | _, _, n + 1, .cons a r => .cons a (dpA_take n r)
theorem dp_tup {v : V} {ds : List PyData} (h : Dp K H v (.tuple ds)) : ∃ a vs, v = .ref a ∧ SqT K H a vs ∧ DpAll K H vs ds := by
  cases h with
  | tup h r => exact ⟨_, _, rfl, h, r⟩
theorem dp_lst {v : V} {ds : List PyData} (h : Dp K H v (.list ds)) : ∃ a vs, v = .ref a ∧ SqL K H a vs ∧ DpAll K H vs ds := by
  cases h with
  | lst h r => exact ⟨_, _, rfl, h, r⟩
theorem dp_int {v : V} {i : Int} (h : Dp K H v (.int i)) : v = .int i := by cases h; rfl
theorem dp_bl {v : V} {i : Bool} (h : Dp K H v (.bool i)) : v = .bl i := by cases h; rfl
theorem dp_str {v : V} {i : Str} (h : Dp K H v (.str i)) : v = .str i := by cases h; rfl
theorem dp_non {v : V} (h : Dp K H v .none) : v = .non := by cases h; rfl
theorem dp_new {p : Addr} {vs : List V} {ds : List PyData} (h : H p = none) (t : TabsG G H) (r : DpAll K H vs ds) : Dp K (upd H p (.tup vs)) (.ref p) (.tuple ds) :=
  .tup (.inl (.inl upd_same)) (dpA_ext (Ext.new (G := G) h) t r)
theorem dp_newL {p : Addr} {vs : List V} {ds : List PyData} (h : H p = none) (t : TabsG G H) (r : DpAll K H vs ds) : Dp K (upd H p (.lst vs)) (.ref p) (.list ds) :=
  .lst (.inl (.inl upd_same)) (dpA_ext (Ext.new (G := G) h) t r)
end

/-! ### what a reading yields -/
section
variable (G : List Addr) (K : PySem.W.Frag)
/-- te yields d: at every heap that goes on from H -/
def Ed (te : TE) (σ : L2.St) (H : Hp) (d : PyData) : Prop := ∀ H1, Ext G H H1 → ∀ Q : VK, (∀ v H2, Ext G H1 H2 → Dp K H2 v d → Q v H2) → te σ H1 Q
def EdA (ta : TA) (σ : L2.St) (H : Hp) (ds : List PyData) : Prop := ∀ H1, Ext G H H1 → ∀ Q : List V → Hp → Prop, (∀ vs H2, Ext G H1 H2 → DpAll K H2 vs ds → Q vs H2) → ta σ H1 Q
def EdT (tt : TT) (σ : L2.St) (H : Hp) (b : Bool) : Prop := ∀ H1, Ext G H H1 → ∀ Q : Bool → Hp → Prop, (∀ H2, Ext G H1 H2 → Q b H2) → tt σ H1 Q
/-- an operation on data -/
def Rd2 (r : V → V → Hp → VK → Prop) (d e f : PyData) (H : Hp) : Prop := ∀ H1, Ext G H H1 → ∀ v u, Dp K H1 v d → Dp K H1 u e → ∀ Q : VK, (∀ w H2, Ext G H1 H2 → Dp K H2 w f → Q w H2) → r v u H1 Q
def RdC (r : List V → Hp → VK → Prop) (ds : List PyData) (f : PyData) (H : Hp) : Prop := ∀ H1, Ext G H H1 → ∀ vs, DpAll K H1 vs ds → ∀ Q : VK, (∀ w H2, Ext G H1 H2 → Dp K H2 w f → Q w H2) → r vs H1 Q
end

section
variable {G : List Addr} {K : PySem.W.Frag} {σ : L2.St} {H H' : Hp} {ta tb te : TE} {tA : TA} {t u : TT} {d e f : PyData} {ds es : List PyData} {b c : Bool}
theorem Ed.mono (x : Ext G H H') (h : Ed G K te σ H d) : Ed G K te σ H' d := fun H1 a Q q => h H1 (x.trans a) Q q
theorem EdT.mono (x : Ext G H H') (h : EdT G t σ H b) : EdT G t σ H' b := fun H1 a Q q => h H1 (x.trans a) Q q
theorem ed_var {i : Nat} {v : V} (t : TabsG G H) (h : σ[i]? = some (some v)) (r : Dp K H v d) : Ed G K (tVar i) σ H d := fun H1 x _ q => ⟨v, h, q v H1 (Ext.refl G H1) (dp_ext x t r)⟩
theorem ed_int {i : Int} : Ed G K (tC (.int i)) σ H (.int i) := fun H1 _ _ q => q _ H1 (Ext.refl G H1) (.int i)
theorem ed_bl : Ed G K (tC (.bl b)) σ H (.bool b) := fun H1 _ _ q => q _ H1 (Ext.refl G H1) (.bl b)
theorem ed_str {i : Str} : Ed G K (tC (.str i)) σ H (.str i) := fun H1 _ _ q => q _ H1 (Ext.refl G H1) (.str i)
theorem ed_non : Ed G K (tC .non) σ H .none := fun H1 _ _ q => q _ H1 (Ext.refl G H1) .non
theorem ed_nil : EdA G K tNil σ H [] := fun H1 _ _ q => q _ H1 (Ext.refl G H1) .nil
theorem ed_cons (tG : TabsG G H) (h : Ed G K te σ H d) (r : EdA G K tA σ H ds) : EdA G K (tCons te tA) σ H (d :: ds) := fun H1 x Q q =>
  h H1 x _ fun v H2 x2 rv => r H2 (x.trans x2) _ fun vs H3 x3 rs => q _ H3 (x2.trans x3) (.cons (dp_ext x3 ((tG.ext x).ext x2) rv) rs)
theorem ed_one (h : Ed G K te σ H d) : EdA G K (tCons te tNil) σ H [d] := fun H1 x Q q => h H1 x _ fun v H2 x2 rv => q _ H2 x2 (.cons rv .nil)
theorem ed_tup (tG : TabsG G H) (h : EdA G K tA σ H ds) (hl : ds.length ≤ sizeLine) : Ed G K (tTup tA) σ H (.tuple ds) := fun H1 x Q q =>
  h H1 x _ fun vs H2 x2 rs => ⟨by rw [dpA_len rs]; exact hl, fun p hp => q _ _ (x2.trans (Ext.new hp)) (dp_new hp ((tG.ext x).ext x2) rs)⟩
theorem ed_lst (tG : TabsG G H) (h : EdA G K tA σ H ds) (hl : ds.length ≤ sizeLine) : Ed G K (tLst tA) σ H (.list ds) := fun H1 x Q q =>
  h H1 x _ fun vs H2 x2 rs => ⟨by rw [dpA_len rs]; exact hl, fun p hp => q _ _ (x2.trans (Ext.new hp)) (dp_newL hp ((tG.ext x).ext x2) rs)⟩
theorem ed_op {r : V → V → Hp → VK → Prop} (tG : TabsG G H) (ha : Ed G K ta σ H d) (hb : Ed G K tb σ H e) (hr : Rd2 G K r d e f H) : Ed G K (tOp r ta tb) σ H f := fun H1 x Q q =>
  ha H1 x _ fun v H2 x2 rv => hb H2 (x.trans x2) _ fun u H3 x3 ru => hr H3 ((x.trans x2).trans x3) v u (dp_ext x3 ((tG.ext x).ext x2) rv) ru Q fun w H4 x4 rw_ => q w H4 ((x2.trans x3).trans x4) rw_
theorem ed_cb {r : List V → Hp → VK → Prop} (h : EdA G K tA σ H ds) (hr : RdC G K r ds f H) : Ed G K (tCB r tA) σ H f := fun H1 x Q q =>
  h H1 x _ fun vs H2 x2 rs => hr H2 (x.trans x2) vs rs Q fun w H3 x3 rw_ => q w H3 (x2.trans x3) rw_
theorem ed_if (ht : EdT G t σ H b) (h1 : b = true → Ed G K ta σ H d) (h2 : b = false → Ed G K tb σ H d) : Ed G K (tIf t ta tb) σ H d := fun H1 x Q q => ht H1 x _ fun H2 x2 => by
  cases b with
  | true =>
    show ta σ H2 Q
    exact h1 rfl H2 (x.trans x2) Q fun w H3 x3 r => q w H3 (x2.trans x3) r
  | false =>
    show tb σ H2 Q
    exact h2 rfl H2 (x.trans x2) Q fun w H3 x3 r => q w H3 (x2.trans x3) r
theorem ed_is (h : Ed G K te σ H d) (e' : d = e) : Ed G K te σ H e := e' ▸ h
theorem edt_is (h : EdT G t σ H b) (e' : b = c) : EdT G t σ H c := e' ▸ h
theorem edt_val (h : Ed G K te σ H (.bool b)) : EdT G (tB te) σ H b := fun H1 x Q q => h H1 x _ fun v H2 x2 r => ⟨b, dp_bl r, q H2 x2⟩
theorem edt_test (h : Ed G K te σ H (.bool b)) : EdT G (tTest te) σ H b := fun H1 x Q q => h H1 x _ fun v H2 x2 r => ⟨b, dp_bl r, q H2 x2⟩
theorem edt_and (h1 : EdT G t σ H b) (h2 : b = true → EdT G u σ H c) : EdT G (tAnd t u) σ H (b && c) := fun H1 x Q q => h1 H1 x _ fun H2 x2 => by
  cases b with
  | true =>
    show u σ H2 Q
    exact h2 rfl H2 (x.trans x2) Q fun H3 x3 => q H3 (x2.trans x3)
  | false =>
    show Q false H2
    exact q H2 x2
theorem edt_or (h1 : EdT G t σ H b) (h2 : b = false → EdT G u σ H c) : EdT G (tOr t u) σ H (b || c) := fun H1 x Q q => h1 H1 x _ fun H2 x2 => by
  cases b with
  | true =>
    show Q true H2
    exact q H2 x2
  | false =>
    show u σ H2 Q
    exact h2 rfl H2 (x.trans x2) Q fun H3 x3 => q H3 (x2.trans x3)
theorem edt_not (h1 : EdT G t σ H b) : EdT G (tNot t) σ H (!b) := fun H1 x Q q => h1 H1 x _ fun H2 x2 => q H2 x2
theorem ed_andV (h1 : Ed G K ta σ H (.bool b)) (h2 : b = true → Ed G K tb σ H (.bool c)) : Ed G K (tAndV ta tb) σ H (.bool (b && c)) := fun H1 x Q q => h1 H1 x _ fun v H2 x2 r => ⟨b, dp_bl r, by
  cases b with
  | true =>
    show tb σ H2 Q
    exact h2 rfl H2 (x.trans x2) Q fun w H3 x3 r3 => q w H3 (x2.trans x3) r3
  | false =>
    show Q (.bl false) H2
    exact q _ H2 x2 (.bl false)⟩
theorem ed_orV (h1 : Ed G K ta σ H (.bool b)) (h2 : b = false → Ed G K tb σ H (.bool c)) : Ed G K (tOrV ta tb) σ H (.bool (b || c)) := fun H1 x Q q => h1 H1 x _ fun v H2 x2 r => ⟨b, dp_bl r, by
  cases b with
  | true =>
    show Q (.bl true) H2
    exact q _ H2 x2 (.bl true)
  | false =>
    show tb σ H2 Q
    exact h2 rfl H2 (x.trans x2) Q fun w H3 x3 r3 => q w H3 (x2.trans x3) r3⟩
theorem ed_notV (h1 : Ed G K ta σ H (.bool b)) : Ed G K (tNotV ta) σ H (.bool (!b)) := fun H1 x Q q => h1 H1 x _ fun v H2 x2 r => ⟨b, dp_bl r, q _ H2 x2 (.bl _)⟩

/-! operations -/
theorem rd_int2 {g : Int → Int → V} {i j : Int} (hg : ∀ H, Dp K H (g i j) f) : Rd2 G K (rI0 g) (.int i) (.int j) f H := fun H1 _ v u rv ru Q q => by
  rw [dp_int rv, dp_int ru]
  exact ⟨i, j, rfl, rfl, q _ H1 (Ext.refl G H1) (hg H1)⟩
theorem rd_add {i j : Int} : Rd2 G K (rI0 fun i j => .int (i + j)) (.int i) (.int j) (.int (i + j)) H := rd_int2 fun _ => .int _
theorem rd_sub {i j : Int} : Rd2 G K (rI0 fun i j => .int (i - j)) (.int i) (.int j) (.int (i - j)) H := rd_int2 fun _ => .int _
theorem rd_ltI {i j : Int} : Rd2 G K (rI0 fun i j => .bl (decide (i < j))) (.int i) (.int j) (.bool (decide (i < j))) H := rd_int2 fun _ => .bl _
theorem rd_leI {i j : Int} : Rd2 G K (rI0 fun i j => .bl (decide (i ≤ j))) (.int i) (.int j) (.bool (decide (i ≤ j))) H := rd_int2 fun _ => .bl _
theorem rd_gtI {i j : Int} : Rd2 G K (rI0 fun i j => .bl (decide (j < i))) (.int i) (.int j) (.bool (decide (j < i))) H := rd_int2 fun _ => .bl _
theorem rd_geI {i j : Int} : Rd2 G K (rI0 fun i j => .bl (decide (j ≤ i))) (.int i) (.int j) (.bool (decide (j ≤ i))) H := rd_int2 fun _ => .bl _
theorem rd_eqD (hd : SeqAt.shaped d = true) (he : SeqAt.shaped e = true) : Rd2 G K (rEqD K) d e (.bool (PyData.eqv d e)) H := fun H1 _ v u rv ru Q q => ⟨d, e, rv, ru, hd, he, q _ H1 (Ext.refl G H1) (.bl _)⟩
theorem rd_neD (hd : SeqAt.shaped d = true) (he : SeqAt.shaped e = true) : Rd2 G K (rNeD K) d e (.bool (!PyData.eqv d e)) H := fun H1 _ v u rv ru Q q => ⟨d, e, rv, ru, hd, he, q _ H1 (Ext.refl G H1) (.bl _)⟩
theorem atI_get {xs : List V} {i : Int} {v : V} (h0 : 0 ≤ i) (h : xs[i.toNat]? = some v) : atI xs i = some v := by
  have e : i = ((i.toNat : Nat) : Int) := (Int.toNat_of_nonneg h0).symm
  rw [e]
  exact atI_nat h
theorem rd_ixT {i : Int} (h0 : 0 ≤ i) (h : ds[i.toNat]? = some d) : Rd2 G K (rIxT K) (.tuple ds) (.int i) d H := fun H1 _ v u rv ru Q q => by
  obtain ⟨a, vs, rfl, hs, hr⟩ := dp_tup rv
  obtain ⟨w, hw, rw_⟩ := dpA_get hr h
  exact ⟨a, vs, i, w, rfl, dp_int ru, hs, atI_get h0 hw, q w H1 (Ext.refl G H1) rw_⟩
theorem rd_ixL {i : Int} (h0 : 0 ≤ i) (h : ds[i.toNat]? = some d) : Rd2 G K (rIxL K) (.list ds) (.int i) d H := fun H1 _ v u rv ru Q q => by
  obtain ⟨a, vs, rfl, hs, hr⟩ := dp_lst rv
  obtain ⟨w, hw, rw_⟩ := dpA_get hr h
  exact ⟨a, vs, i, w, rfl, dp_int ru, hs, atI_get h0 hw, q w H1 (Ext.refl G H1) rw_⟩
theorem rd_catA (t : TabsG G H) (hl : ds.length + es.length ≤ sizeLine) : Rd2 G K (rCatA K) (.tuple ds) (.tuple es) (.tuple (ds ++ es)) H := fun H1 x v u rv ru Q q => by
  obtain ⟨a, vs, rfl, hs, hr⟩ := dp_tup rv
  obtain ⟨b, us, rfl, hs2, hr2⟩ := dp_tup ru
  have l1 := dpA_len hr
  have l2 := dpA_len hr2
  refine ⟨a, b, vs, us, rfl, rfl, hs, hs2, by omega, fun e1 => ?_, fun e1 e2 => ?_, fun e1 e2 p hp => ?_⟩
  · have e3 : ds = [] := List.eq_nil_of_length_eq_zero (by rw [← l1, e1]; rfl)
    refine q _ H1 (Ext.refl G H1) ?_
    rw [e3]
    exact ru
  · have e3 : es = [] := List.eq_nil_of_length_eq_zero (by rw [← l2, e2]; rfl)
    refine q _ H1 (Ext.refl G H1) ?_
    rw [e3, List.append_nil]
    exact rv
  · exact q _ _ (Ext.new hp) (dp_new hp (t.ext x) (dpA_app hr hr2))
theorem rdc_len : RdC G K (fun xs H Q => ∃ p ys, xs = [.ref p] ∧ (SqL K H p ys ∨ SqT K H p ys) ∧ Q (.int ys.length) H) [.tuple ds] (.int ds.length) H := fun H1 _ vs rs Q q => by
  cases rs with
  | cons a r =>
    cases r
    obtain ⟨p, ws, rfl, hs, hr⟩ := dp_tup a
    exact ⟨p, ws, rfl, .inr hs, q _ H1 (Ext.refl G H1) (by rw [dpA_len hr]; exact .int _)⟩
theorem rdc_lenL : RdC G K (fun xs H Q => ∃ p ys, xs = [.ref p] ∧ (SqL K H p ys ∨ SqT K H p ys) ∧ Q (.int ys.length) H) [.list ds] (.int ds.length) H := fun H1 _ vs rs Q q => by
  cases rs with
  | cons a r =>
    cases r
    obtain ⟨p, ws, rfl, hs, hr⟩ := dp_lst a
    exact ⟨p, ws, rfl, .inl hs, q _ H1 (Ext.refl G H1) (by rw [dpA_len hr]; exact .int _)⟩
theorem rdc_tuple (t : TabsG G H) : RdC G K (fun xs H Q => ∃ p ys, xs = [.ref p] ∧ ((SqL K H p ys ∧ ∀ l, H l = none → Q (.ref l) (upd H l (.tup ys))) ∨ (SqT K H p ys ∧ Q (.ref p) H))) [.list ds] (.tuple ds) H := fun H1 x vs rs Q q => by
  cases rs with
  | cons a r =>
    cases r
    obtain ⟨p, ws, rfl, hs, hr⟩ := dp_lst a
    exact ⟨p, ws, rfl, .inl ⟨hs, fun l hl => q _ _ (Ext.new hl) (dp_new hl (t.ext x) hr)⟩⟩
theorem rdc_int {b : Bool} : RdC G K (fun xs H Q => (∃ i, xs = [.int i] ∧ Q (.int i) H) ∨ ∃ k, xs = [.bl k] ∧ Q (.int (if k then 1 else 0)) H) [.bool b] (.int (if b then 1 else 0)) H := fun H1 x vs rs Q q => by
  cases rs with
  | cons a r =>
    cases r
    exact .inr ⟨b, by rw [dp_bl a], q _ H1 (Ext.refl G H1) (.int _)⟩
end
end Dl
set_option Elab.async false
set_option linter.all false
set_option maxRecDepth 100000
set_option maxHeartbeats 2000000
namespace Dl
open PySem PySem.Spec PyProof.Rows L2 GxR Gx

mutual
/-- no list, no dict within -/
def Pu : PyData → Bool
  | .list _ => false
  | .dict _ => false
  | .tuple ds => PuA ds
  | _ => true
def PuA : List PyData → Bool
  | [] => true
  | d :: r => Pu d && PuA r
end
theorem puA_all : ∀ {ds : List PyData}, PuA ds = true ↔ ∀ d ∈ ds, Pu d = true
  | [] => by simp [PuA]
  | d :: r => by
    unfold PuA
    rw [Bool.and_eq_true, puA_all (ds := r)]
    simp
section
variable {K : PySem.W.Frag} {H H' : Hp}
mutual
theorem dp_tups (k : ∀ a xs, SqT K H a xs → SqT K H' a xs) : ∀ {v : V} {d : PyData}, Pu d = true → Dp K H v d → Dp K H' v d
  | _, _, _, .non => .non
  | _, _, _, .bl b => .bl b
  | _, _, _, .int i => .int i
  | _, _, _, .str z => .str z
  | _, _, p, .lst h r => by simp [Pu] at p
  | _, _, p, .tup h r => .tup (k _ _ h) (dpA_tups k (by simpa [Pu] using p) r)
theorem dpA_tups (k : ∀ a xs, SqT K H a xs → SqT K H' a xs) : ∀ {vs : List V} {ds : List PyData}, PuA ds = true → DpAll K H vs ds → DpAll K H' vs ds
  | _, _, _, .nil => .nil
  | _, _, p, .cons a r => by
    unfold PuA at p
    rw [Bool.and_eq_true] at p
    exact .cons (dp_tups k p.1 a) (dpA_tups k p.2 r)
end
/-- a list's place is no tuple's -/
theorem sqT_upd {D : Addr} {acc : List V} {o : HO} (h : H D = some (.lst acc)) {a : Addr} {xs : List V} (q : SqT K H a xs) : SqT K (upd H D o) a xs := by
  rcases q with q | q
  · rcases q with q | ⟨ob, q⟩
    · exact .inl (.inl (by rw [upd_ne (fun z => by rw [z, h] at q; cases q)]; exact q))
    · exact .inl (.inr ⟨ob, by rw [upd_ne (fun z => by rw [z, h] at q; cases q)]; exact q⟩)
  · exact .inr q
theorem sqT_updD {D : Addr} {acc : List (L2.Key × V)} {o : HO} (h : H D = some (.dK acc)) {a : Addr} {xs : List V} (q : SqT K H a xs) : SqT K (upd H D o) a xs := by
  rcases q with q | q
  · rcases q with q | ⟨ob, q⟩
    · exact .inl (.inl (by rw [upd_ne (fun z => by rw [z, h] at q; cases q)]; exact q))
    · exact .inl (.inr ⟨ob, by rw [upd_ne (fun z => by rw [z, h] at q; cases q)]; exact q⟩)
  · exact .inr q
end
/-- an object that was not there at H may change -/
theorem Ext.mut {G : List Addr} {H H' : Hp} {p : Addr} {o u : HO} (x : Ext G H H') (h : H p = none) (hu : H' p = some u) (n : ∀ ps, u ≠ .tbl ps) : Ext G H (upd H' p o) := by
  refine ⟨fun a ng w e => ?_, fun P hP t => ?_⟩
  · rw [upd_ne (ne_of_none e h)]
    exact x.keep a ng w e
  · obtain ⟨ps, e, t'⟩ := x.tab P hP t
    refine ⟨ps, ?_, t'⟩
    rw [upd_ne (fun z => by rw [z, hu] at e; cases e; exact n ps rfl)]
    exact e
theorem mut_tabs {G : List Addr} {H H' : Hp} {p : Addr} {o u : HO} (t : TabsG G H') (hu : H' p = some u) (n : ∀ ps, u ≠ .tbl ps) : TabsG G (upd H' p o) := fun P hP => by
  obtain ⟨ps, e, t'⟩ := t P hP
  refine ⟨ps, ?_, t'⟩
  rw [upd_ne (fun z => by rw [z, hu] at e; cases e; exact n ps rfl)]
  exact e

section
variable {G : List Addr} {K : PySem.W.Frag} {σ : L2.St} {H H' : Hp} {ta tb te : TE} {tA : TA} {t u : TT} {d e f : PyData} {ds es : List PyData} {b c : Bool}
theorem wipe_set (σ : L2.St) (vs : List Nat) (i : Nat) (x : Option V) (hi : i ∈ vs) : wipe ((wipe σ vs).set i x) vs = wipe σ vs := by
  apply List.ext_getElem?
  intro j
  rw [wipe_at, wipe_at, List.length_set, wipe_length]
  by_cases h : j ∈ vs ∧ j < σ.length
  · rw [if_pos h, if_pos h]
  · rw [if_neg h, if_neg h]
    by_cases hj : i = j
    · subst hj
      have hl : ¬ i < σ.length := fun z => h ⟨hi, z⟩
      rw [List.getElem?_eq_none (by rw [List.length_set, wipe_length]; exact Nat.not_lt.mp hl), List.getElem?_eq_none (Nat.not_lt.mp hl)]
    · rw [List.getElem?_set_ne hj, wipe_at, if_neg h]

theorem take_snoc {α : Type} {l : List α} {k : Nat} {x : α} (h : l[k]? = some x) : l.take (k + 1) = l.take k ++ [x] := by
  rw [List.take_add_one, h]
  rfl

/-- [.. for x in t], t a tuple -/
theorem ed_lcT {i : Nat} {vs : List Nat} {g : PyData → PyData} (tG : TabsG G H) (hl : ds.length ≤ sizeLine) (h : Ed G K te σ H (.tuple ds)) (hi : i ∈ vs) (hp : ∀ d ∈ ds, Pu (g d) = true)
    (hb : ∀ d v H1, d ∈ ds → Ext G H H1 → TabsG G H1 → Dp K H1 v d → Ed G K tb ((wipe σ vs).set i (some v)) H1 (g d)) : Ed G K (tLc (iTup K te) (gName i) tYes tb vs) σ H (.list (ds.map g)) := fun H1 x Q q =>
  h H1 x _ fun v H2 x2 rv => by
    obtain ⟨a, xs, rfl, hs, hr⟩ := dp_tup rv
    have len := dpA_len hr
    have t2 := (tG.ext x).ext x2
    refine ⟨a, rfl, ⟨xs, hs⟩, fun D hD => ?_⟩
    have at0 : ∀ {Hk : Hp}, Ext G H2 Hk → SqT K Hk a xs := fun y => y.sqT t2 hs
    refine lc_tup (a := a) (xs := xs) (fun k Hk => Ext G H2 Hk ∧ ∃ acc, Hk D = some (.lst acc) ∧ acc.length = k ∧ DpAll K Hk acc ((ds.take k).map g))
      ⟨Ext.new hD, [], upd_same, rfl, .nil⟩ (fun k Hk _ p => at0 p.1) (fun k y Hk hk p => ?_) (fun Hk p => ?_)
    · obtain ⟨y1, acc, e1, e2, e3⟩ := p
      obtain ⟨d, hd, rd⟩ := dpA_getV hr hk
      have td := t2.ext y1
      have rd' := dp_ext y1 t2 rd
      refine ⟨wipe_set σ vs i (some y) hi, ?_⟩
      show tb _ Hk _
      refine hb d y Hk (List.mem_of_getElem? hd) ((x.trans x2).trans y1) td rd' Hk (Ext.refl G Hk) _ fun w H4 y4 rw_ => ?_
      have e4 : H4 D = some (.lst acc) := y4.at td e1 (fun ps z => by cases z)
      have hk' := (List.getElem?_eq_some_iff.mp hk).1
      refine ⟨acc, e4, by omega, (y1.trans y4).mut hD e4 (fun ps z => by cases z), acc ++ [w], upd_same, by rw [List.length_append, e2]; rfl, ?_⟩
      rw [take_snoc hd, List.map_append]
      refine dpA_tups (fun a xs q => sqT_upd e4 q) (puA_all.mpr fun z hz => ?_) (dpA_app (dpA_ext y4 td e3) (.cons rw_ .nil))
      rcases List.mem_append.mp hz with hz | hz
      · obtain ⟨d', hd', rfl⟩ := List.mem_map.mp hz
        exact hp d' (List.mem_of_mem_take hd')
      · obtain ⟨d', hd', rfl⟩ := List.mem_map.mp hz
        rw [List.mem_singleton.mp hd']
        exact hp d (List.mem_of_getElem? hd)
    · obtain ⟨y1, acc, e1, e2, e3⟩ := p
      refine q _ Hk (x2.trans y1) (.lst (.inl (.inl e1)) ?_)
      rw [len, List.take_length] at e3
      exact e3

/-- [.. for x in l], l a list that stays -/
theorem ed_lcL {i : Nat} {vs : List Nat} {g : PyData → PyData} (tG : TabsG G H) (hl : ds.length ≤ sizeLine) (h : Ed G K te σ H (.list ds)) (hi : i ∈ vs) (hp : ∀ d ∈ ds, Pu (g d) = true)
    (hb : ∀ d v H1, d ∈ ds → Ext G H H1 → TabsG G H1 → Dp K H1 v d → Ed G K tb ((wipe σ vs).set i (some v)) H1 (g d)) : Ed G K (tLc (iList K te) (gName i) tYes tb vs) σ H (.list (ds.map g)) := fun H1 x Q q =>
  h H1 x _ fun v H2 x2 rv => by
    obtain ⟨a, xs, rfl, hs, hr⟩ := dp_lst rv
    have len := dpA_len hr
    have t2 := (tG.ext x).ext x2
    refine ⟨a, rfl, ⟨xs, hs⟩, fun D hD => ?_⟩
    have at0 : ∀ {Hk : Hp}, Ext G H2 Hk → SqL K Hk a xs := fun y => y.sqL t2 hs
    refine lc_list (a := a) (xs := xs) (fun k Hk => Ext G H2 Hk ∧ ∃ acc, Hk D = some (.lst acc) ∧ acc.length = k ∧ DpAll K Hk acc ((ds.take k).map g))
      ⟨Ext.new hD, [], upd_same, rfl, .nil⟩ (fun k Hk _ p => at0 p.1) (fun k y Hk hk p => ?_) (fun Hk p => ?_)
    · obtain ⟨y1, acc, e1, e2, e3⟩ := p
      obtain ⟨d, hd, rd⟩ := dpA_getV hr hk
      have td := t2.ext y1
      have rd' := dp_ext y1 t2 rd
      refine ⟨wipe_set σ vs i (some y) hi, ?_⟩
      show tb _ Hk _
      refine hb d y Hk (List.mem_of_getElem? hd) ((x.trans x2).trans y1) td rd' Hk (Ext.refl G Hk) _ fun w H4 y4 rw_ => ?_
      have e4 : H4 D = some (.lst acc) := y4.at td e1 (fun ps z => by cases z)
      have hk' := (List.getElem?_eq_some_iff.mp hk).1
      refine ⟨acc, e4, by omega, (y1.trans y4).mut hD e4 (fun ps z => by cases z), acc ++ [w], upd_same, by rw [List.length_append, e2]; rfl, ?_⟩
      rw [take_snoc hd, List.map_append]
      refine dpA_tups (fun a xs q => sqT_upd e4 q) (puA_all.mpr fun z hz => ?_) (dpA_app (dpA_ext y4 td e3) (.cons rw_ .nil))
      rcases List.mem_append.mp hz with hz | hz
      · obtain ⟨d', hd', rfl⟩ := List.mem_map.mp hz
        exact hp d' (List.mem_of_mem_take hd')
      · obtain ⟨d', hd', rfl⟩ := List.mem_map.mp hz
        rw [List.mem_singleton.mp hd']
        exact hp d (List.mem_of_getElem? hd)
    · obtain ⟨y1, acc, e1, e2, e3⟩ := p
      refine q _ Hk (x2.trans y1) (.lst (.inl (.inl e1)) ?_)
      rw [len, List.take_length] at e3
      exact e3

/-- a generator expression over a tuple: what its consumer keeps between turns: Pv -/
theorem gx_tup {P : Addr} {i : Nat} {vs : List Nat} {α : Type} {a0 : Tok → α} {Cs : α → V → Hp → (α → Hp → Prop) → Prop} {Fn : α → Hp → Prop} (hP : P ∈ G) (tG : TabsG G H) (h : Ed G K te σ H (.tuple ds)) (hi : i ∈ vs)
    (Pv : Nat → α → Prop) (h0 : ∀ tk, Pv 0 (a0 tk))
    (hb : ∀ k d v al H1, ds[k]? = some d → Pv k al → Ext G H H1 → TabsG G H1 → Dp K H1 v d → tb ((wipe σ vs).set i (some v)) H1 fun y H2 => Cs al y H2 fun al' H3 => Ext G H1 H3 ∧ Pv (k + 1) al')
    (hd : ∀ al H1, Pv ds.length al → Ext G H H1 → Fn al H1) : tGx P (iTup K te) (gName i) tYes tb vs a0 Cs Fn σ H := h H (Ext.refl G H) _ fun v H2 x2 rv => by
  obtain ⟨a, xs, rfl, hs, hr⟩ := dp_tup rv
  have len := dpA_len hr
  have t2 := tG.ext x2
  refine ⟨a, rfl, ⟨xs, hs⟩, t2 P hP, fun H3 hT => ?_⟩
  have x3 : Ext G H2 H3 := Ext.tabbed hP hT
  refine ⟨fun k m al Hk => m = xs.length - k ∧ k ≤ xs.length ∧ Ext G H2 Hk ∧ Pv k al, ⟨xs.length, fun tk => ⟨rfl, Nat.zero_le _, x3, h0 tk⟩⟩, ?_⟩
  rintro k m al Hk ⟨rfl, hk, y1, p⟩
  have q : SqT K Hk a xs := y1.sqT t2 hs
  by_cases hlt : k < xs.length
  · refine .inr ⟨⟨xs, xs[k], q, by simp [hlt]⟩, fun al' H' => Ext G Hk H' ∧ Pv (k + 1) al', fun al' H' z => ⟨xs.length - (k + 1), by omega, rfl, hlt, y1.trans z.1, z.2⟩, fun y H' hy => ?_⟩
    obtain ⟨e, hy⟩ := hy
    subst e
    have hk' := hy xs q
    obtain ⟨d, hd', rd⟩ := dpA_getV hr hk'
    exact ⟨wipe_set σ vs i (some y) hi, hb k d y al _ hd' p (x2.trans y1) (t2.ext y1) (dp_ext y1 t2 rd)⟩
  · have e : k = xs.length := by omega
    subst e
    exact .inl ⟨⟨xs, q, Nat.le_refl _⟩, hd al Hk (by rw [← len]; exact p) (x2.trans y1)⟩

theorem ed_allT {P : Addr} {i : Nat} {vs : List Nat} {p : PyData → Bool} (hP : P ∈ G) (tG : TabsG G H) (h : Ed G K te σ H (.tuple ds)) (hi : i ∈ vs)
    (hb : ∀ d v H1, d ∈ ds → Ext G H H1 → TabsG G H1 → Dp K H1 v d → Ed G K tb ((wipe σ vs).set i (some v)) H1 (.bool (p d))) : Ed G K (tAllG P (iTup K te) (gName i) tYes tb vs) σ H (.bool (ds.all p)) := fun H1 x Q q => by
  refine gx_tup hP (tG.ext x) (h.mono x) hi (fun k _ => ∀ d ∈ ds.take k, p d = true) (fun _ d hd => by simp at hd) (fun k d v al H2 hk hp x2 t2 rd => ?_) fun al H2 hp x2 => ?_
  · refine hb d v H2 (List.mem_of_getElem? hk) (x.trans x2) t2 rd H2 (Ext.refl G H2) _ fun w H3 x3 r => ⟨p d, dp_bl r, ?_⟩
    cases hpd : p d with
    | true =>
      rw [if_pos rfl]
      refine ⟨x3, fun d' hd' => ?_⟩
      rw [take_snoc hk] at hd'
      rcases List.mem_append.mp hd' with z | z
      · exact hp d' z
      · rw [List.mem_singleton.mp z]; exact hpd
    | false =>
      rw [if_neg Bool.false_ne_true]
      refine q _ H3 (x2.trans x3) ?_
      have e : ds.all p = false := by
        rw [List.all_eq_false]
        exact ⟨d, List.mem_of_getElem? hk, by rw [hpd]; exact Bool.false_ne_true⟩
      rw [e]
      exact .bl false
  · refine q _ H2 x2 ?_
    rw [List.take_length] at hp
    rw [List.all_eq_true.mpr hp]
    exact .bl true
theorem ed_anyT {P : Addr} {i : Nat} {vs : List Nat} {p : PyData → Bool} (hP : P ∈ G) (tG : TabsG G H) (h : Ed G K te σ H (.tuple ds)) (hi : i ∈ vs)
    (hb : ∀ d v H1, d ∈ ds → Ext G H H1 → TabsG G H1 → Dp K H1 v d → Ed G K tb ((wipe σ vs).set i (some v)) H1 (.bool (p d))) : Ed G K (tAnyG P (iTup K te) (gName i) tYes tb vs) σ H (.bool (ds.any p)) := fun H1 x Q q => by
  refine gx_tup hP (tG.ext x) (h.mono x) hi (fun k _ => ∀ d ∈ ds.take k, p d = false) (fun _ d hd => by simp at hd) (fun k d v al H2 hk hp x2 t2 rd => ?_) fun al H2 hp x2 => ?_
  · refine hb d v H2 (List.mem_of_getElem? hk) (x.trans x2) t2 rd H2 (Ext.refl G H2) _ fun w H3 x3 r => ⟨p d, dp_bl r, ?_⟩
    cases hpd : p d with
    | false =>
      rw [if_neg Bool.false_ne_true]
      refine ⟨x3, fun d' hd' => ?_⟩
      rw [take_snoc hk] at hd'
      rcases List.mem_append.mp hd' with z | z
      · exact hp d' z
      · rw [List.mem_singleton.mp z]; exact hpd
    | true =>
      rw [if_pos rfl]
      refine q _ H3 (x2.trans x3) ?_
      rw [List.any_eq_true.mpr ⟨d, List.mem_of_getElem? hk, hpd⟩]
      exact .bl true
  · refine q _ H2 x2 ?_
    rw [List.take_length] at hp
    have e : ds.any p = false := by
      rw [List.any_eq_false]
      exact fun d hd z => by rw [hp d hd] at z; cases z
    rw [e]
    exact .bl false
theorem ed_sumT {P : Addr} {i : Nat} {vs : List Nat} {p : PyData → Int} (hP : P ∈ G) (tG : TabsG G H) (h : Ed G K te σ H (.tuple ds)) (hi : i ∈ vs)
    (hb : ∀ d v H1, d ∈ ds → Ext G H H1 → TabsG G H1 → Dp K H1 v d → Ed G K tb ((wipe σ vs).set i (some v)) H1 (.int (p d))) : Ed G K (tSumG P (iTup K te) (gName i) tYes tb vs) σ H (.int (ds.map p).sum) := fun H1 x Q q => by
  refine gx_tup hP (tG.ext x) (h.mono x) hi (fun k al => al.1 = ((ds.take k).map p).sum) (fun _ => rfl) (fun k d v al H2 hk hp x2 t2 rd => ?_) fun al H2 hp x2 => ?_
  · refine hb d v H2 (List.mem_of_getElem? hk) (x.trans x2) t2 rd H2 (Ext.refl G H2) _ fun w H3 x3 r => ⟨p d, dp_int r, fun tk c => ⟨x3, ?_⟩⟩
    rw [take_snoc hk, List.map_append, List.sum_append, hp]
    simp
  · refine q _ H2 x2 ?_
    rw [hp, List.take_length]
    exact .int _
end
end Dl
set_option Elab.async false
set_option linter.all false
set_option maxRecDepth 100000
set_option maxHeartbeats 2000000
namespace Dl
open PySem PySem.Spec PyProof.Rows L2 GxR Gx

/-! ### defs by their code -/
structure FunC (K : PySem.W.Frag) (x qual : Str) (st : Stmt) (f : Addr) (fd : FuncData) (c : Addr) : Prop where
  ex : ∃ (oc : Value) (od : Option Addr) (kV doc pm : Value) (an : Option Addr) (ct : Value) (osl : Array (Option Value)),
    fd = PySem.W.fnOf x qual (defArgs st) (defBody st) (defScope st) .none kV doc pm an (.ref c) ct ∧ K.lookup f = some ⟨oc, od, .func fd, osl⟩ ∧ PySem.W.codeIn K (.ref c) qual = true
  kp : PySem.W.keepIn K (.ref f) = true

/-- a promise on data: R tells arguments and answer -/
def spR (G : List Addr) (K : PySem.W.Frag) (R : List PyData → PyData → Prop) : Sp := fun vs H Q _ => TabsG G H ∧ ∃ ds d, DpAll K H vs ds ∧ R ds d ∧ ∀ v H', Ext G H H' → Dp K H' v d → Q v H'

section
variable {P : Program} {w : World} {K : PySem.W.Frag} {mg : Str → Option Value} {base : Heap} {G : List Addr}
theorem FunC.okR {CX : CXT} {x qual : Str} {st : Stmt} {f c : Addr} {fd : FuncData} {N ps : List Str} {k : Nat} {R : List PyData → PyData → Prop} (F : FunC K x qual st f fd c) (S : FnScope N ps (defScope st)) (len : ∀ ds d, R ds d → ds.length = ps.length)
    (hbody : ∀ (A : Around) (outer : List Env) (s : Shared) (H : Hp) (vs : List V) (ds : List PyData) (d : PyData) (Q : VK) (E : XK), Room k (A.deeper (envOfC qual (defScope st) s.heap.objs.size f (.ref c))) →
      TabsG G H → DpAll K H vs ds → R ds d → (∀ v H', Ext G H H' → Dp K H' v d → Q v H') →
      ∃ t, PSs (cxOf CX P w K mg base N qual (defScope st) f (.ref c) A outer s H E).nox (defBody st) t ∧ t { nx := fun _ H' => Q .non H', rt := Q } (start N vs) H) : FnOk P w K mg base CX (k + 1) f fd ps (spR G K R) := by
  obtain ⟨oc, od, kV, doc, pm, an, ct, osl, rfl, lk, hcd⟩ := F.ex
  refine fn_of lk hcd S (fun vs H Q E ⟨_, ds, d, h1, h2, _⟩ => (dpA_len h1).trans (len ds d h2)) fun A outer s H vs Q E hr hsp => ?_
  obtain ⟨tG, ds, d, h1, h2, q⟩ := hsp
  obtain ⟨t, h, q⟩ := hbody A outer s H vs ds d Q E hr tG h1 h2 q
  exact ⟨t, h.nox, q⟩
theorem ed_call {R : List PyData → PyData → Prop} {σ : L2.St} {H : Hp} {ta : TA} {ds : List PyData} {d : PyData} {E : XK} (tG : TabsG G H) (h : EdA G K ta σ H ds) (r : R ds d) : Ed G K (tCall (spR G K R) [] E ta) σ H d := fun H1 x Q q =>
  h H1 x _ fun vs H2 x2 rs => by
    show spR G K R (vs ++ []) H2 Q E
    rw [List.append_nil]
    exact ⟨(tG.ext x).ext x2, ds, d, rs, r, fun v H3 x3 rv => q v H3 (x2.trans x3) rv⟩
end

/-! ### statements -/
section
variable {G : List Addr} {K : PySem.W.Frag} {σ : L2.St} {H H' : Hp} {ta tb te : TE} {tt : TT} {t u : TS} {d e f : PyData} {b c : Bool} {D : Ends}
theorem s_ret (h : Ed G K te σ H d) (q : ∀ v H', Ext G H H' → Dp K H' v d → D.rt v H') : tRet te D σ H := h H (Ext.refl G H) D.rt q
theorem s_if (h : EdT G tt σ H b) (h1 : b = true → ∀ H', Ext G H H' → t D σ H') (h2 : b = false → ∀ H', Ext G H H' → u D σ H') : tIfS tt t u D σ H := h H (Ext.refl G H) _ fun H2 x2 => by
  cases b with
  | true =>
    show t D σ H2
    exact h1 rfl H2 x2
  | false =>
    show u D σ H2
    exact h2 rfl H2 x2
/-- if ..: return ..; the rest -/
theorem s_ifR (h : EdT G tt σ H b) (h1 : b = true → ∀ H', Ext G H H' → t { D with nx := u D } σ H') (h2 : b = false → ∀ H', Ext G H H' → u D σ H') : tSeq (tIfS tt t tNext) u D σ H :=
  s_if (u := tNext) h h1 fun e H' x => h2 e H' x
theorem s_set {i : Nat} (h : Ed G K te σ H d) (q : ∀ v H', Ext G H H' → Dp K H' v d → D.nx (σ.set i (some v)) H') : tAsg te (gName i) D σ H := h H (Ext.refl G H) _ fun v H2 x2 r => q v H2 x2 r

/-- a generator expression over a text -/
theorem gx_str {P : Addr} {i : Nat} {vs : List Nat} {z : Str} {α : Type} {a0 : Tok → α} {Cs : α → V → Hp → (α → Hp → Prop) → Prop} {Fn : α → Hp → Prop} (hP : P ∈ G) (tG : TabsG G H) (h : Ed G K te σ H (.str z)) (hi : i ∈ vs)
    (Pv : Nat → α → Prop) (h0 : ∀ tk, Pv 0 (a0 tk))
    (hb : ∀ (k : Nat) (cc : Nat) al H1, z.cps.toList[k]? = some cc → Pv k al → Ext G H H1 → TabsG G H1 → tb ((wipe σ vs).set i (some (.str ⟨#[cc]⟩))) H1 fun y H2 => Cs al y H2 fun al' H3 => Ext G H1 H3 ∧ Pv (k + 1) al')
    (hd : ∀ al H1, Pv z.cps.toList.length al → Ext G H H1 → Fn al H1) : tGx P (iStr te) (gName i) tYes tb vs a0 Cs Fn σ H := h H (Ext.refl G H) _ fun v H2 x2 rv => by
  have t2 := tG.ext x2
  refine ⟨z, dp_str rv, t2 P hP, fun H3 hT => ?_⟩
  have x3 : Ext G H2 H3 := Ext.tabbed hP hT
  have esz : z.cps.toList.length = z.cps.size := Array.length_toList
  refine ⟨fun k m al Hk => m = z.cps.size - k ∧ k ≤ z.cps.size ∧ Ext G H2 Hk ∧ Pv k al, ⟨z.cps.size, fun tk => ⟨rfl, Nat.zero_le _, x3, h0 tk⟩⟩, ?_⟩
  rintro k m al Hk ⟨rfl, hk, y1, p⟩
  by_cases hlt : k < z.cps.size
  · refine .inr ⟨hlt, fun al' H' => Ext G Hk H' ∧ Pv (k + 1) al', fun al' H' w => ⟨z.cps.size - (k + 1), by omega, rfl, hlt, y1.trans w.1, w.2⟩, fun y H' hy => ?_⟩
    obtain ⟨e, cc, ec, ey⟩ := hy
    subst e ey
    exact ⟨wipe_set σ vs i _ hi, hb k cc al _ (by rw [Array.getElem?_toList]; exact ec) p (x2.trans y1) (t2.ext y1)⟩
  · have e : k = z.cps.size := by omega
    subst e
    exact .inl ⟨Nat.le_refl _, hd al Hk (by rw [esz]; exact p) (x2.trans y1)⟩
theorem ed_allS {P : Addr} {i : Nat} {vs : List Nat} {z : Str} {p : Nat → Bool} (hP : P ∈ G) (tG : TabsG G H) (h : Ed G K te σ H (.str z)) (hi : i ∈ vs)
    (hb : ∀ (cc : Nat) H1, Ext G H H1 → TabsG G H1 → Ed G K tb ((wipe σ vs).set i (some (.str ⟨#[cc]⟩))) H1 (.bool (p cc))) : Ed G K (tAllG P (iStr te) (gName i) tYes tb vs) σ H (.bool (z.cps.toList.all p)) := fun H1 x Q q => by
  refine gx_str hP (tG.ext x) (h.mono x) hi (fun k _ => ∀ d ∈ z.cps.toList.take k, p d = true) (fun _ d hd => by simp at hd) (fun k d al H2 hk hp x2 t2 => ?_) fun al H2 hp x2 => ?_
  · refine hb d H2 (x.trans x2) t2 H2 (Ext.refl G H2) _ fun w H3 x3 r => ⟨p d, dp_bl r, ?_⟩
    cases hpd : p d with
    | true =>
      rw [if_pos rfl]
      refine ⟨x3, fun d' hd' => ?_⟩
      rw [take_snoc hk] at hd'
      rcases List.mem_append.mp hd' with z | z
      · exact hp d' z
      · rw [List.mem_singleton.mp z]; exact hpd
    | false =>
      rw [if_neg Bool.false_ne_true]
      refine q _ H3 (x2.trans x3) ?_
      have e : z.cps.toList.all p = false := by
        rw [List.all_eq_false]
        exact ⟨d, List.mem_of_getElem? hk, by rw [hpd]; exact Bool.false_ne_true⟩
      rw [e]
      exact .bl false
  · refine q _ H2 x2 ?_
    rw [List.take_length] at hp
    rw [List.all_eq_true.mpr hp]
    exact .bl true

/-! texts -/
theorem rd_eqS {x y : Str} : Rd2 G K rEq (.str x) (.str y) (.bool (decide (x = y))) H := fun H1 _ v u rv ru Q q => by
  rw [dp_str rv, dp_str ru]
  refine ⟨rfl, q _ H1 (Ext.refl G H1) ?_⟩
  have e : decide ((V.str x) = V.str y) = decide (x = y) := by
    by_cases h : x = y
    · subst h; simp
    · rw [decide_eq_false h, decide_eq_false (fun z => h (by injection z))]
  rw [e]
  exact .bl _
theorem rd_neS {x y : Str} : Rd2 G K rNe (.str x) (.str y) (.bool (!decide (x = y))) H := fun H1 _ v u rv ru Q q => by
  rw [dp_str rv, dp_str ru]
  refine ⟨rfl, q _ H1 (Ext.refl G H1) ?_⟩
  have e : decide ((V.str x) = V.str y) = decide (x = y) := by
    by_cases h : x = y
    · subst h; simp
    · rw [decide_eq_false h, decide_eq_false (fun z => h (by injection z))]
  rw [e]
  exact .bl _
theorem rd_inSign {c : Nat} {z : Str} : Rd2 G K (fun x y H Q => ∃ (c : Nat) (z : Str), x = .str ⟨#[c]⟩ ∧ y = .str z ∧ Q (.bl (decide (c ∈ z.cps.toList))) H) (.str ⟨#[c]⟩) (.str z) (.bool (decide (c ∈ z.cps.toList))) H := fun H1 _ v u rv ru Q q =>
  ⟨c, z, dp_str rv, dp_str ru, q _ H1 (Ext.refl G H1) (.bl _)⟩
theorem rd_niSign {c : Nat} {z : Str} : Rd2 G K (fun x y H Q => ∃ (c : Nat) (z : Str), x = .str ⟨#[c]⟩ ∧ y = .str z ∧ Q (.bl (!decide (c ∈ z.cps.toList))) H) (.str ⟨#[c]⟩) (.str z) (.bool (!decide (c ∈ z.cps.toList))) H := fun H1 _ v u rv ru Q q =>
  ⟨c, z, dp_str rv, dp_str ru, q _ H1 (Ext.refl G H1) (.bl _)⟩
theorem rd_ixS {z : Str} {i : Int} {c : Nat} (hz : z.length ≤ sizeLine) (h0 : 0 ≤ i) (h : z.cps.toList[i.toNat]? = some c) : Rd2 G K rIxS (.str z) (.int i) (.str ⟨#[c]⟩) H := fun H1 _ v u rv ru Q q => by
  have e : i = ((i.toNat : Nat) : Int) := (Int.toNat_of_nonneg h0).symm
  refine ⟨z, i, c, dp_str rv, dp_int ru, hz, ?_, q _ H1 (Ext.refl G H1) (.str _)⟩
  rw [e]
  exact atI_nat h

theorem dpA_one {vs : List V} (h : DpAll K H vs [d]) : ∃ v, vs = [v] ∧ Dp K H v d := by
  cases h with
  | cons a r => cases r; exact ⟨_, rfl, a⟩
theorem dpA_two {vs : List V} (h : DpAll K H vs [d, e]) : ∃ v u, vs = [v, u] ∧ Dp K H v d ∧ Dp K H u e := by
  cases h with
  | cons a r =>
    obtain ⟨u, rfl, b⟩ := dpA_one r
    exact ⟨_, _, rfl, a, b⟩
theorem dpA_three {vs : List V} (h : DpAll K H vs [d, e, f]) : ∃ v u w, vs = [v, u, w] ∧ Dp K H v d ∧ Dp K H u e ∧ Dp K H w f := by
  cases h with
  | cons a r =>
    obtain ⟨u, w, rfl, b, c⟩ := dpA_two r
    exact ⟨_, _, _, rfl, a, b, c⟩
/-- a data's built-in class -/
def tyD : PyData → String
  | .none => "NoneType"
  | .bool _ => "bool"
  | .int _ => "int"
  | .str _ => "str"
  | .list _ => "list"
  | .tuple _ => "tuple"
  | .dict _ => "dict"
theorem tyX_of {v : V} (h : Dp K H v d) : TyX K H v (.type (tyD d)) := by
  cases h with
  | non => exact .base .non
  | bl b => exact .base (.bl b)
  | int i => exact .base (.int i)
  | str z => exact .base (.str z)
  | lst h r =>
    rcases h with h | ⟨o, its, n, hk, hc, _⟩
    · rcases h with h | ⟨o, h⟩
      · exact .base (.lst h)
      · exact .base (.frz h)
    · exact .kList hk hc
  | tup h r =>
    rcases h with h | ⟨o, its, n, hk, hc, _⟩
    · rcases h with h | ⟨o, h⟩
      · exact .base (.tup h)
      · exact .fTuple h
    · exact .kTuple hk hc
theorem ed_isi {T : String} {b : Bool} (h : Ed G K ta σ H d) (hk : PySem.W.kitOne K (.type (tyD d)) (.type T) = some b) : Ed G K (tCB (rIsi K) (tCons ta (tCons (tC (.ty T)) tNil))) σ H (.bool b) := fun H1 x Q q =>
  h H1 x _ fun v H2 x2 rv => ⟨v, .ty T, .type (tyD d), .type T, b, rfl, .ty T, tyX_of rv, hk, q _ H2 x2 (.bl b)⟩
theorem ed_slS {z : Str} {te : TE} {tl th : TO} {lo hi : Option Int} (hz : z.length ≤ sizeLine) (h : Ed G K te σ H (.str z)) (h1 : ∀ H1, Ext G H H1 → ∀ Q : Option Int → Hp → Prop, Q lo H1 → tl σ H1 Q) (h2 : ∀ H1, Ext G H H1 → ∀ Q : Option Int → Hp → Prop, Q hi H1 → th σ H1 Q) :
    Ed G K (tSl rSlS te tl th) σ H (.str (cutS z lo hi)) := fun H1 x Q q => h H1 x _ fun v H2 x2 rv => h1 H2 (x.trans x2) _ (h2 H2 (x.trans x2) _ ⟨z, dp_str rv, hz, q _ H2 x2 (.str _)⟩)
theorem cutS_tail (z : Str) : (cutS z (some 1) none).cps.toList = z.cps.toList.drop 1 := by
  unfold cutS
  rw [show HT.sIx z.length 0 (some 1) = min 1 z.length from HT.sIx_nat z.length 0 1, HT.sIx_none]
  have e : z.length = z.cps.toList.length := by simp [Str.length]
  rw [e]
  cases z.cps.toList with
  | nil => rfl
  | cons c r =>
    simp
end
end Dl
set_option Elab.async false
set_option linter.all false
set_option maxRecDepth 100000
set_option maxHeartbeats 2000000
/-! dicts as arguments; loops on data -/
namespace Dl
open PySem PySem.Spec PyProof.Rows L2 GxR Gx

inductive Ar where
  | d (x : PyData)
  | k (es : List (Key × PyData))
inductive DkR (K : PySem.W.Frag) (H : Hp) : List (Key × V) → List (Key × PyData) → Prop where
  | nil : DkR K H [] []
  | cons {k : Key} {v : V} {d : PyData} {ks : List (Key × V)} {es : List (Key × PyData)} : Dp K H v d → DkR K H ks es → DkR K H ((k, v) :: ks) ((k, d) :: es)
def ArR (K : PySem.W.Frag) (H : Hp) (v : V) : Ar → Prop
  | .d x => Dp K H v x
  | .k es => ∃ a kvs, v = .ref a ∧ H a = some (.dK kvs) ∧ DkR K H kvs es
inductive ArA (K : PySem.W.Frag) (H : Hp) : List V → List Ar → Prop where
  | nil : ArA K H [] []
  | cons {v : V} {a : Ar} {vs : List V} {as : List Ar} : ArR K H v a → ArA K H vs as → ArA K H (v :: vs) (a :: as)
def valD (es : List (Key × PyData)) (k : Key) : Option PyData := (es.find? fun kv => decide (kv.1 = k)).map (·.2)

section
variable {G : List Addr} {K : PySem.W.Frag} {H H' : Hp}
theorem dkR_ext (x : Ext G H H') (t : TabsG G H) : ∀ {ks : List (Key × V)} {es : List (Key × PyData)}, DkR K H ks es → DkR K H' ks es
  | _, _, .nil => .nil
  | _, _, .cons a r => .cons (dp_ext x t a) (dkR_ext x t r)
theorem ar_ext (x : Ext G H H') (t : TabsG G H) {v : V} : ∀ {a : Ar}, ArR K H v a → ArR K H' v a
  | .d _, h => dp_ext x t h
  | .k _, ⟨a, kvs, e, h, r⟩ => ⟨a, kvs, e, x.at t h (fun ps z => by cases z), dkR_ext x t r⟩
theorem arA_ext (x : Ext G H H') (t : TabsG G H) : ∀ {vs : List V} {as : List Ar}, ArA K H vs as → ArA K H' vs as
  | _, _, .nil => .nil
  | _, _, .cons a r => .cons (ar_ext x t a) (arA_ext x t r)
theorem arA_len : ∀ {vs : List V} {as : List Ar}, ArA K H vs as → vs.length = as.length
  | _, _, .nil => rfl
  | _, _, .cons _ r => congrArg (· + 1) (arA_len r)
theorem arA_one {vs : List V} {a : Ar} (h : ArA K H vs [a]) : ∃ v, vs = [v] ∧ ArR K H v a := by
  cases h with
  | cons a r => cases r; exact ⟨_, rfl, a⟩
theorem arA_two {vs : List V} {a b : Ar} (h : ArA K H vs [a, b]) : ∃ v u, vs = [v, u] ∧ ArR K H v a ∧ ArR K H u b := by
  cases h with
  | cons a r =>
    obtain ⟨u, rfl, b⟩ := arA_one r
    exact ⟨_, _, rfl, a, b⟩
theorem arA_three {vs : List V} {a b c : Ar} (h : ArA K H vs [a, b, c]) : ∃ v u w, vs = [v, u, w] ∧ ArR K H v a ∧ ArR K H u b ∧ ArR K H w c := by
  cases h with
  | cons a r =>
    obtain ⟨u, w, rfl, b, c⟩ := arA_two r
    exact ⟨_, _, _, rfl, a, b, c⟩
theorem arA_four {vs : List V} {a b c d : Ar} (h : ArA K H vs [a, b, c, d]) : ∃ v u w z, vs = [v, u, w, z] ∧ ArR K H v a ∧ ArR K H u b ∧ ArR K H w c ∧ ArR K H z d := by
  cases h with
  | cons a r =>
    obtain ⟨u, w, z, rfl, b, c, d⟩ := arA_three r
    exact ⟨_, _, _, _, rfl, a, b, c, d⟩
theorem arA_five {vs : List V} {a b c d e : Ar} (h : ArA K H vs [a, b, c, d, e]) : ∃ v u w z y, vs = [v, u, w, z, y] ∧ ArR K H v a ∧ ArR K H u b ∧ ArR K H w c ∧ ArR K H z d ∧ ArR K H y e := by
  cases h with
  | cons a r =>
    obtain ⟨u, w, z, y, rfl, b, c, d, e⟩ := arA_four r
    exact ⟨_, _, _, _, _, rfl, a, b, c, d, e⟩
theorem dkR_val (k : Key) : ∀ {ks : List (Key × V)} {es : List (Key × PyData)}, DkR K H ks es → (valD es k = none → valV ks k = none) ∧ ∀ d, valD es k = some d → ∃ v, valV ks k = some v ∧ Dp K H v d
  | _, _, .nil => ⟨fun _ => rfl, fun d e => by cases e⟩
  | _, _, .cons (k := j) (v := v) (d := d) a r => by
    have ih := dkR_val k r
    by_cases h : j = k
    · rw [valV_pos h]
      refine ⟨fun e => ?_, fun d' e => ?_⟩
      · rw [valD, List.find?_cons, show decide ((j, d).1 = k) = true from decide_eq_true h] at e
        cases e
      · rw [valD, List.find?_cons, show decide ((j, d).1 = k) = true from decide_eq_true h] at e
        have e' := Option.some.inj e
        subst e'
        exact ⟨v, rfl, a⟩
    · rw [valV_neg (p := (j, v)) h]
      have e0 : ∀ es', valD ((j, d) :: es') k = valD es' k := fun es' => by
        rw [valD, valD, List.find?_cons, show decide ((j, d).1 = k) = false from decide_eq_false h]
      rw [e0]
      exact ih
end

/-- a promise on arguments, dicts among them -/
def spA (G : List Addr) (K : PySem.W.Frag) (R : List Ar → PyData → Prop) : Sp := fun vs H Q _ => TabsG G H ∧ ∃ as d, ArA K H vs as ∧ R as d ∧ ∀ v H', Ext G H H' → Dp K H' v d → Q v H'
/-- a promise of an exception of the class at C -/
def spE (G : List Addr) (K : PySem.W.Frag) (R : List Ar → Prop) (C : Addr) : Sp := fun vs H _ E => TabsG G H ∧ ∃ as, ArA K H vs as ∧ R as ∧ ∀ H', Ext G H H' → E (.ref C) none H'

section
variable (G : List Addr) (K : PySem.W.Frag)
def EdX (te : TE) (σ : L2.St) (H : Hp) (a : Ar) : Prop := ∀ H1, Ext G H H1 → ∀ Q : VK, (∀ v H2, Ext G H1 H2 → ArR K H2 v a → Q v H2) → te σ H1 Q
def EdXA (ta : TA) (σ : L2.St) (H : Hp) (as : List Ar) : Prop := ∀ H1, Ext G H H1 → ∀ Q : List V → Hp → Prop, (∀ vs H2, Ext G H1 H2 → ArA K H2 vs as → Q vs H2) → ta σ H1 Q
end
section
variable {P : Program} {w : World} {K : PySem.W.Frag} {mg : Str → Option Value} {base : Heap} {G : List Addr}
theorem FunC.okA {CX : CXT} {x qual : Str} {st : Stmt} {f c : Addr} {fd : FuncData} {N ps : List Str} {k : Nat} {R : List Ar → PyData → Prop} (F : FunC K x qual st f fd c) (S : FnScope N ps (defScope st)) (len : ∀ ds d, R ds d → ds.length = ps.length)
    (hbody : ∀ (A : Around) (outer : List Env) (s : Shared) (H : Hp) (vs : List V) (ds : List Ar) (d : PyData) (Q : VK) (E : XK), Room k (A.deeper (envOfC qual (defScope st) s.heap.objs.size f (.ref c))) →
      TabsG G H → ArA K H vs ds → R ds d → (∀ v H', Ext G H H' → Dp K H' v d → Q v H') →
      ∃ t, PSs (cxOf CX P w K mg base N qual (defScope st) f (.ref c) A outer s H E).nox (defBody st) t ∧ t { nx := fun _ H' => Q .non H', rt := Q } (start N vs) H) : FnOk P w K mg base CX (k + 1) f fd ps (spA G K R) := by
  obtain ⟨oc, od, kV, doc, pm, an, ct, osl, rfl, lk, hcd⟩ := F.ex
  refine fn_of lk hcd S (fun vs H Q E ⟨_, ds, d, h1, h2, _⟩ => (arA_len h1).trans (len ds d h2)) fun A outer s H vs Q E hr hsp => ?_
  obtain ⟨tG, ds, d, h1, h2, q⟩ := hsp
  obtain ⟨t, h, q⟩ := hbody A outer s H vs ds d Q E hr tG h1 h2 q
  exact ⟨t, h.nox, q⟩
end
section
variable {G : List Addr} {K : PySem.W.Frag} {σ : L2.St} {H H' : Hp} {ta tb te : TE} {tA : TA} {d e f : PyData} {es : List (Key × PyData)}
theorem EdX.mono {a : Ar} (x : Ext G H H') (h : EdX G K te σ H a) : EdX G K te σ H' a := fun H1 a Q q => h H1 (x.trans a) Q q
theorem edx_of (h : Ed G K te σ H d) : EdX G K te σ H (.d d) := h
theorem edx_var {i : Nat} {v : V} {a : Ar} (t : TabsG G H) (h : σ[i]? = some (some v)) (r : ArR K H v a) : EdX G K (tVar i) σ H a := fun H1 x _ q => ⟨v, h, q v H1 (Ext.refl G H1) (ar_ext x t r)⟩
theorem ea_nil : EdXA G K tNil σ H [] := fun H1 _ _ q => q _ H1 (Ext.refl G H1) .nil
theorem ea_cons {a : Ar} {as : List Ar} (tG : TabsG G H) (h : EdX G K te σ H a) (r : EdXA G K tA σ H as) : EdXA G K (tCons te tA) σ H (a :: as) := fun H1 x Q q =>
  h H1 x _ fun v H2 x2 rv => r H2 (x.trans x2) _ fun vs H3 x3 rs => q _ H3 (x2.trans x3) (.cons (ar_ext x3 ((tG.ext x).ext x2) rv) rs)
theorem ea_one {a : Ar} (h : EdX G K te σ H a) : EdXA G K (tCons te tNil) σ H [a] := fun H1 x Q q => h H1 x _ fun v H2 x2 rv => q _ H2 x2 (.cons rv .nil)
theorem ea_call {R : List Ar → PyData → Prop} {as : List Ar} {E : XK} (tG : TabsG G H) (h : EdXA G K tA σ H as) (r : R as d) : Ed G K (tCall (spA G K R) [] E tA) σ H d := fun H1 x Q q =>
  h H1 x _ fun vs H2 x2 rs => by
    show spA G K R (vs ++ []) H2 Q E
    rw [List.append_nil]
    exact ⟨(tG.ext x).ext x2, as, d, rs, r, fun v H3 x3 rv => q v H3 (x2.trans x3) rv⟩
/-! dicts -/
theorem ed_dget {x : Str} (tG : TabsG G H) (h : EdX G K ta σ H (.k es)) (hk : Ed G K tb σ H (.str x)) (hv : valD es (.inr x) = some d) : Ed G K (tDGet ta tb) σ H d := fun H1 z Q q =>
  h H1 z _ fun v H2 x2 rv => hk H2 (z.trans x2) _ fun u H3 x3 ru => by
    obtain ⟨a, kvs, rfl, ha, r⟩ := ar_ext x3 ((tG.ext z).ext x2) rv
    obtain ⟨w, hw, rw_⟩ := (dkR_val (.inr x) r).2 d hv
    rw [dp_str ru]
    refine ⟨a, w, rfl, ?_, q w H3 (x2.trans x3) rw_⟩
    rw [← hw]
    exact DGet.k (k := .inr x) ha
theorem ed_dget2 {x : Str} {tc : TE} (tG : TabsG G H) (h : EdX G K ta σ H (.k es)) (hk : Ed G K tb σ H (.str x)) (hc : Ed G K tc σ H e) (hv : (valD es (.inr x)).getD e = d) : Ed G K (tDGet2 ta tb tc) σ H d := fun H1 z Q q =>
  h H1 z _ fun v H2 x2 rv => by
    obtain ⟨a, kvs, rfl, ha, r⟩ := rv
    have t2 := (tG.ext z).ext x2
    refine ⟨a, rfl, .inl ⟨kvs, .inl ha⟩, hk H2 (z.trans x2) _ fun u H3 x3 ru => hc H3 ((z.trans x2).trans x3) _ fun y H4 x4 ry => ?_⟩
    have x24 := x3.trans x4
    have ha4 := x24.at t2 ha (fun ps z => by cases z)
    have r4 := dkR_ext x24 t2 r
    rw [dp_str ru]
    refine ⟨valV kvs (.inr x), DGet.k (k := .inr x) ha4, ?_⟩
    have dv := dkR_val (.inr x) r4
    cases hx : valD es (.inr x) with
    | none =>
      rw [hx] at hv
      rw [dv.1 hx]
      have hv' : e = d := hv
      exact q y H4 (x2.trans x24) (hv' ▸ ry)
    | some d' =>
      rw [hx] at hv
      obtain ⟨w, hw, rw_⟩ := dv.2 d' hx
      rw [hw]
      have hv' : d' = d := hv
      exact q w H4 (x2.trans x24) (hv' ▸ rw_)
theorem ed_dnin {x : Str} (tG : TabsG G H) (hk : Ed G K tb σ H (.str x)) (h : EdX G K ta σ H (.k es)) : Ed G K (tDNotIn tb ta) σ H (.bool (!(valD es (.inr x)).isSome)) := fun H1 z Q q =>
  hk H1 z _ fun u H2 x2 ru => h H2 (z.trans x2) _ fun v H3 x3 rv => by
    obtain ⟨a, kvs, rfl, ha, r⟩ := rv
    rw [dp_str ru]
    refine ⟨a, valV kvs (.inr x), rfl, DGet.k (k := .inr x) ha, q _ H3 (x2.trans x3) ?_⟩
    have dv := dkR_val (.inr x) r
    cases hx : valD es (.inr x) with
    | none => rw [dv.1 hx]; exact .bl _
    | some d' =>
      obtain ⟨w, hw, _⟩ := dv.2 d' hx
      rw [hw]
      exact .bl _
/-- for x in t, t a tuple; each turn on data -/
theorem s_forT {ds : List PyData} {tb : TS} {D : Ends} {g : TG} (tG : TabsG G H) (h : Ed G K te σ H (.tuple ds)) (Pv : Nat → L2.St → Prop) (h0 : Pv 0 σ)
    (hs : ∀ i d v σ' H' (N : L2.St → Hp → Prop), ds[i]? = some d → Pv i σ' → Ext G H H' → Dp K H' v d → TabsG G H' → (∀ σ2 H2, Ext G H' H2 → Pv (i + 1) σ2 → N σ2 H2) → g v σ' H' fun σ2 H2 => tb { D with nx := N, ct := N, bk := D.nx } σ2 H2)
    (hd : ∀ σ' H', Ext G H H' → Pv ds.length σ' → D.nx σ' H') : tFor (iTup K te) g tb D σ H := h H (Ext.refl G H) _ fun v H2 x2 rv => by
  obtain ⟨a, xs, rfl, q, r⟩ := dp_tup rv
  have t2 := tG.ext x2
  have len := dpA_len r
  refine ⟨a, rfl, ⟨xs, q⟩, for_tup (a := a) (xs := xs) (fun i σ' H' => Pv i σ' ∧ Ext G H2 H') ⟨h0, Ext.refl G H2⟩ (fun i σ' H' _ p => p.2.sqT t2 q) (fun i x σ' H' hx p => ?_) (fun σ' H' p => hd σ' H' (x2.trans p.2) (by rw [← len]; exact p.1))⟩
  obtain ⟨d, hd', rd⟩ := dpA_getV r hx
  exact hs i d x σ' H' _ hd' p.1 (x2.trans p.2) (dp_ext p.2 t2 rd) (t2.ext p.2) fun σ2 H3 y w => ⟨w, p.2.trans y⟩
theorem s_forL {ds : List PyData} {tb : TS} {D : Ends} {g : TG} (tG : TabsG G H) (h : Ed G K te σ H (.list ds)) (Pv : Nat → L2.St → Prop) (h0 : Pv 0 σ)
    (hs : ∀ i d v σ' H' (N : L2.St → Hp → Prop), ds[i]? = some d → Pv i σ' → Ext G H H' → Dp K H' v d → TabsG G H' → (∀ σ2 H2, Ext G H' H2 → Pv (i + 1) σ2 → N σ2 H2) → g v σ' H' fun σ2 H2 => tb { D with nx := N, ct := N, bk := D.nx } σ2 H2)
    (hd : ∀ σ' H', Ext G H H' → Pv ds.length σ' → D.nx σ' H') : tFor (iList K te) g tb D σ H := h H (Ext.refl G H) _ fun v H2 x2 rv => by
  obtain ⟨a, xs, rfl, q, r⟩ := dp_lst rv
  have t2 := tG.ext x2
  have len := dpA_len r
  refine ⟨a, rfl, ⟨xs, q⟩, for_list (a := a) (xs := xs) (fun i σ' H' => Pv i σ' ∧ Ext G H2 H') ⟨h0, Ext.refl G H2⟩ (fun i σ' H' _ p => p.2.sqL t2 q) (fun i x σ' H' hx p => ?_) (fun σ' H' p => hd σ' H' (x2.trans p.2) (by rw [← len]; exact p.1))⟩
  obtain ⟨d, hd', rd⟩ := dpA_getV r hx
  exact hs i d x σ' H' _ hd' p.1 (x2.trans p.2) (dp_ext p.2 t2 rd) (t2.ext p.2) fun σ2 H3 y w => ⟨w, p.2.trans y⟩
/-- for a, b in zip(t, u), two tuples as long as each other -/
theorem s_forZ {ds ds2 : List PyData} {tb : TS} {D : Ends} {g : TG} (tG : TabsG G H) (h : EdA G K tA σ H [.tuple ds, .tuple ds2]) (hlen : ds.length = ds2.length) (Pv : Nat → L2.St → Prop) (h0 : Pv 0 σ)
    (hs : ∀ i d d2 v u T σ' H' (N : L2.St → Hp → Prop), ds[i]? = some d → ds2[i]? = some d2 → Pv i σ' → Ext G H H' → Dp K H' v d → Dp K H' u d2 → H' T = some (.tup [v, u]) → TabsG G H' → (∀ σ2 H2, Ext G H' H2 → Pv (i + 1) σ2 → N σ2 H2) → g (.ref T) σ' H' fun σ2 H2 => tb { D with nx := N, ct := N, bk := D.nx } σ2 H2)
    (hd : ∀ σ' H', Ext G H H' → Pv ds.length σ' → D.nx σ' H') : tFor (RZ.iZipA K tA) g tb D σ H := h H (Ext.refl G H) _ fun vs H2 x2 rs => by
  obtain ⟨v, u, rfl, rv, ru⟩ := dpA_two rs
  obtain ⟨a, xs, rfl, q, r⟩ := dp_tup rv
  obtain ⟨b, ys, rfl, q2, r2⟩ := dp_tup ru
  have t2 := tG.ext x2
  have len := dpA_len r
  have len2 := dpA_len r2
  refine ⟨a, b, xs, ys, rfl, .inr ⟨q, q2, RZ.for_zipT (a := a) (b := b) (xs := xs) (ys := ys) (by omega) (fun i σ' H' => Pv i σ' ∧ Ext G H2 H') ⟨h0, Ext.refl G H2⟩ (fun i σ' H' p => ⟨p.2.sqT t2 q, p.2.sqT t2 q2⟩) (fun i x y T σ' H' hx hy p hT => ?_) (fun σ' H' p => hd σ' H' (x2.trans p.2) (by rw [← len]; exact p.1))⟩⟩
  obtain ⟨d, hd', rd⟩ := dpA_getV r hx
  obtain ⟨d2, hd2, rd2⟩ := dpA_getV r2 hy
  have x3 : Ext G H' (upd H' T (.tup [x, y])) := Ext.new hT
  have x4 := p.2.trans x3
  exact hs i d d2 x y T σ' _ _ hd' hd2 p.1 (x2.trans x4) (dp_ext x4 t2 rd) (dp_ext x4 t2 rd2) upd_same (t2.ext x4) fun σ2 H3 y w => ⟨w, x4.trans y⟩
/-- while -/
theorem s_while {c : TT} {tb : TS} {D : Ends} (tG : TabsG G H) (Pv : L2.St → Hp → Prop) (μ : L2.St → Nat) (b : L2.St → Bool) (h0 : Pv σ H)
    (hc : ∀ σ' H', Pv σ' H' → Ext G H H' → EdT G c σ' H' (b σ'))
    (hs : ∀ σ' H' (N : L2.St → Hp → Prop), Pv σ' H' → Ext G H H' → b σ' = true → TabsG G H' → (∀ σ2 H2, Ext G H' H2 → Pv σ2 H2 → μ σ2 < μ σ' → N σ2 H2) → tb { D with nx := N, ct := N, bk := D.nx } σ' H')
    (hp : ∀ σ' H1 H2, Ext G H1 H2 → TabsG G H1 → Pv σ' H1 → Pv σ' H2)
    (hd : ∀ σ' H', Ext G H H' → Pv σ' H' → b σ' = false → D.nx σ' H') (mono : ∀ σ H Q Q', (∀ b H1, Q b H1 → Q' b H1) → c σ H Q → c σ H Q') : tWhile c tb D σ H := by
  refine while_by (fun σ' H' => Pv σ' H' ∧ Ext G H H') (fun σ' _ => μ σ') ⟨h0, Ext.refl G H⟩ (fun σ' H' p => ?_) mono
  refine hc σ' H' p.1 p.2 H' (Ext.refl G H') _ fun H2 x2 => ?_
  have t1 := tG.ext p.2
  cases hb : b σ' with
  | true =>
    rw [if_pos rfl]
    exact hs σ' H2 _ (hp _ _ _ x2 t1 p.1) (p.2.trans x2) hb (t1.ext x2) fun σ2 H3 y w l => ⟨⟨w, (p.2.trans x2).trans y⟩, l⟩
  | false =>
    rw [if_neg Bool.false_ne_true]
    exact hd σ' H2 (p.2.trans x2) (hp _ _ _ x2 t1 p.1) hb
end
end Dl
set_option Elab.async false
set_option linter.all false
set_option maxRecDepth 100000
set_option maxHeartbeats 2000000
/-! terms -/
namespace Rh
open PySem PySem.Spec PyProof.Rows L2 GxR Gx Dl

def isVarS (x : Str) : Bool := match x.cps.toList with
  | [] => false
  | c :: r => decide (c ∈ (Str.ofString "uvwxyz").cps.toList) && r.all fun d => decide (d ∈ (Str.ofString "0123456789").cps.toList)

/-- terms of signs with at most two parts -/
inductive T where
  | v (x : Str)
  | c (s : Str)
  | u (s : Str) (t : T)
  | b (s : Str) (t r : T)
  deriving DecidableEq
def T.sgn : T → Str
  | .v x => x
  | .c s => s
  | .u s _ => s
  | .b s _ _ => s
def T.parts : T → List T
  | .v _ => []
  | .c _ => []
  | .u _ t => [t]
  | .b _ t r => [t, r]
def T.isV : T → Bool
  | .v _ => true
  | _ => false
def enc : T → PyData
  | .v x => .str x
  | .c s => .tuple [.str s, .tuple []]
  | .u s t => .tuple [.str s, .tuple [enc t]]
  | .b s t r => .tuple [.str s, .tuple [enc t, enc r]]
theorem enc_v {t : T} (h : t.isV = true) : enc t = .str t.sgn := by cases t <;> first | rfl | cases h
theorem enc_n {t : T} (h : t.isV = false) : enc t = .tuple [.str t.sgn, .tuple (t.parts.map enc)] := by cases t <;> first | rfl | cases h
def T.dp : T → Nat
  | .v _ => 0
  | .c _ => 0
  | .u _ t => t.dp + 1
  | .b _ t r => max t.dp r.dp + 1
theorem T.dp_parts {t p : T} (h : p ∈ t.parts) : p.dp < t.dp := by
  cases t with
  | v x => cases h
  | c s => cases h
  | u s t =>
    rw [T.parts, List.mem_singleton] at h
    subst h
    exact Nat.lt_succ_self _
  | b s t r =>
    rw [T.parts, List.mem_cons, List.mem_singleton] at h
    show _ < max t.dp r.dp + 1
    rcases h with h | h <;> subst h <;> omega
def T.size : T → Nat
  | .v _ => 1
  | .c _ => 1
  | .u _ t => t.size + 1
  | .b _ t r => t.size + r.size + 1
theorem T.size_parts {t p : T} (h : p ∈ t.parts) : p.size < t.size := by
  cases t with
  | v x => cases h
  | c s => cases h
  | u s t =>
    rw [T.parts, List.mem_singleton] at h
    subst h
    exact Nat.lt_succ_self _
  | b s t r =>
    rw [T.parts, List.mem_cons, List.mem_singleton] at h
    show _ < t.size + r.size + 1
    rcases h with h | h <;> subst h <;> omega
/-- the variables are variables, not too long -/
def T.ok : T → Prop
  | .v x => isVarS x = true ∧ x.length ≤ 100000 ∧ PyData.strOk x = true
  | .c s => PyData.strOk s = true
  | .u s t => PyData.strOk s = true ∧ t.ok
  | .b s t r => PyData.strOk s = true ∧ t.ok ∧ r.ok
theorem T.ok_parts {t p : T} (o : t.ok) (h : p ∈ t.parts) : p.ok := by
  cases t with
  | v x => cases h
  | c s => cases h
  | u s t =>
    rw [T.parts, List.mem_singleton] at h
    subst h
    exact o.2
  | b s t r =>
    rw [T.parts, List.mem_cons, List.mem_singleton] at h
    rcases h with h | h <;> subst h
    · exact o.2.1
    · exact o.2.2
theorem T.parts_len (t : T) : t.parts.length ≤ 2 := by cases t <;> simp [T.parts]
theorem T.parts_v {t : T} (h : t.isV = true) : t.parts = [] := by cases t <;> first | rfl | cases h

theorem eqv_enc : ∀ t r : T, PyData.eqv (enc t) (enc r) = decide (t = r)
  | .v x, .v y => by
    simp only [enc, PyData.eqv, T.v.injEq]
    by_cases h : x = y <;> simp [h]
  | .v _, .c _ => rfl
  | .v _, .u _ _ => rfl
  | .v _, .b _ _ _ => rfl
  | .c _, .v _ => rfl
  | .u _ _, .v _ => rfl
  | .b _ _ _, .v _ => rfl
  | .c x, .c y => by
    simp only [enc, PyData.eqv, PyData.eqvAll, T.c.injEq, Bool.and_true]
    by_cases h : x = y <;> simp [h]
  | .c _, .u _ _ => by simp [enc, PyData.eqv, PyData.eqvAll]
  | .c _, .b _ _ _ => by simp [enc, PyData.eqv, PyData.eqvAll]
  | .u _ _, .c _ => by simp [enc, PyData.eqv, PyData.eqvAll]
  | .b _ _ _, .c _ => by simp [enc, PyData.eqv, PyData.eqvAll]
  | .u _ _, .b _ _ _ => by simp [enc, PyData.eqv, PyData.eqvAll]
  | .b _ _ _, .u _ _ => by simp [enc, PyData.eqv, PyData.eqvAll]
  | .u s t, .u s' t' => by
    simp only [enc, PyData.eqv, PyData.eqvAll, T.u.injEq, Bool.and_true, eqv_enc t t']
    by_cases h : s = s' <;> by_cases h2 : t = t' <;> simp [h, h2]
  | .b s t r, .b s' t' r' => by
    simp only [enc, PyData.eqv, PyData.eqvAll, T.b.injEq, Bool.and_true, eqv_enc t t', eqv_enc r r']
    by_cases h : s = s' <;> by_cases h2 : t = t' <;> by_cases h3 : r = r' <;> simp [h, h2, h3]
theorem pu_enc : ∀ t : T, Pu (enc t) = true
  | .v _ => rfl
  | .c _ => rfl
  | .u _ t => by simp [enc, Pu, PuA, pu_enc t]
  | .b _ t r => by simp [enc, Pu, PuA, pu_enc t, pu_enc r]
theorem enc_inj {t r : T} (h : enc t = enc r) : t = r := by
  have e := eqv_enc t r
  rw [h, eqv_enc r r] at e
  simpa using e.symm
open Classical in
noncomputable def dec (d : PyData) : T := if h : ∃ t, enc t = d then h.choose else .c (Str.ofString "")
theorem dec_enc (t : T) : dec (enc t) = t := by
  unfold dec
  rw [dif_pos ⟨t, rfl⟩]
  exact enc_inj (Exists.choose_spec (p := fun r => enc r = enc t) ⟨t, rfl⟩)
theorem shaped_enc {t : T} (o : t.ok) (h : t.dp ≤ 30) : SeqAt.shaped (enc t) = true := by
  have c : ∀ t : T, t.ok → PyData.canLay0 (enc t) = true := fun t => by
    induction t with
    | v x => intro o; simp [enc, PyData.canLay0, o.2.2]
    | c s => intro o; simp [enc, PyData.canLay0, PyData.canLayAll0, show PyData.strOk s = true from o]
    | u s t ih => intro o; simp [enc, PyData.canLay0, PyData.canLayAll0, ih o.2, o.1]
    | b s t r ih ih2 => intro o; simp [enc, PyData.canLay0, PyData.canLayAll0, ih o.2.1, ih2 o.2.2, o.1]
  have d : ∀ t : T, (enc t).depth ≤ 2 * t.dp + 2 := fun t => by
    induction t with
    | v x => simp [enc, PyData.depth]
    | c s => simp [enc, PyData.depth, PyData.depthAll]
    | u s t ih => simp [enc, PyData.depth, PyData.depthAll, T.dp]; omega
    | b s t r ih ih2 => simp [enc, PyData.depth, PyData.depthAll, T.dp]; omega
  unfold SeqAt.shaped
  rw [c t o, Bool.true_and]
  have := d t
  exact decide_eq_true (by omega)
end Rh
set_option Elab.async false
set_option linter.all false
set_option maxRecDepth 100000
set_option maxHeartbeats 2000000
/-! defs that can be called -/
namespace Dl
open PySem PySem.Spec PyProof.Rows L2 GxR Gx

structure DefF (K : PySem.W.Frag) (mg : Str → Option Value) (base : Heap) (G : List Addr) (x : Str) (st : Stmt) (ps : List Str) (f : Addr) (fd : FuncData) : Prop where
  cP : ∃ c Pt, FunC K x x st f fd c ∧ TabB base mg c Pt ∧ Pt ∈ G
  b : Binds K fd ps []
  m : mg x = some (.ref f)
structure Cl0 (P : Program) (w : World) (K : PySem.W.Frag) (mg : Str → Option Value) (base : Heap) (k : Nat) (x : Str) (sp : Sp) : Prop where
  ex : ∃ f fd ps, FnOk P w K mg base CX0 k f fd ps sp ∧ mg x = some (.ref f) ∧ PySem.W.keepIn K (.ref f) = true ∧ Binds K fd ps []
section
variable {X : Cx} {k : Nat} {x : Str} {sp sp' : Sp} {E : XK} {p pos : Pos} {e : Expr} {es : List Expr} {t : TA} {P : Program} {w : World} {K : PySem.W.Frag} {mg : Str → Option Value} {base : Heap} {G : List Addr}
theorem Cl0.mono (C : Cl0 P w K mg base k x sp) {j : Nat} (h : k ≤ j) : Cl0 P w K mg base j x sp := by
  obtain ⟨f, fd, ps, a, b⟩ := C.ex
  exact ⟨f, fd, ps, a.mono h, b⟩
theorem Cl0.imp (C : Cl0 P w K mg base k x sp) (h : ∀ vs H Q E, sp' vs H Q E → sp vs H Q E) : Cl0 P w K mg base k x sp' := by
  obtain ⟨f, fd, ps, a, b⟩ := C.ex
  exact ⟨f, fd, ps, a.imp h, b⟩
theorem pe_cl (C : Cl0 X.prog X.w X.K X.mg X.base k x sp) (hr : Room k X.A) (hg : Gl X x) (ha : PA X (e :: es) t) (hdb : (x == ("__debug__" : Str)) = false := by decide)
    (he : starEach (e :: es) X.env = (false, eval e X.env) :: starEach es X.env := by rfl) (hpl : (backTo pos (starEach es X.env)).any (·.1) = false := by rfl) :
    PE X (.Call (.Name x p) (e :: es) [] pos) (tCall sp [] (fun _ _ _ => False) t) := by
  obtain ⟨f, fd, ps, F, m, kp, b⟩ := C.ex
  exact pe_call F hr hg m kp b .nil pass0 ha hdb he hpl
theorem DefF.cl {st : Stmt} {f : Addr} {fd : FuncData} {N ps : List Str} {R : List Ar → PyData → Prop} (D : DefF K mg base G x st ps f fd) (S : FnScope N ps (defScope st)) (len : ∀ ds d, R ds d → ds.length = ps.length)
    (hbody : ∀ (c Pt : Addr) (A : Around) (outer : List Env) (s : Shared) (H : Hp) (vs : List V) (ds : List Ar) (d : PyData) (Q : VK) (E : XK), TabB base mg c Pt → Pt ∈ G → Room k (A.deeper (envOfC x (defScope st) s.heap.objs.size f (.ref c))) →
      TabsG G H → ArA K H vs ds → R ds d → (∀ v H', Ext G H H' → Dp K H' v d → Q v H') →
      ∃ t, PSs (cxOf CX0 P w K mg base N x (defScope st) f (.ref c) A outer s H E).nox (defBody st) t ∧ t { nx := fun _ H' => Q .non H', rt := Q } (start N vs) H) : Cl0 P w K mg base (k + 1) x (spA G K R) := by
  obtain ⟨c, Pt, F, TB, hP⟩ := D.cP
  exact ⟨f, fd, ps, F.okA S len fun A outer s H vs ds d Q E hr tG h1 h2 q => hbody c Pt A outer s H vs ds d Q E TB hP hr tG h1 h2 q, D.m, F.kp, D.b⟩
end
section
variable {G : List Addr} {K : PySem.W.Frag} {σ : L2.St} {H H' : Hp} {ta tb te : TE} {tA : TA} {d e f : PyData} {b : Bool}
/-- a term's own shape -/
theorem rd_eqT {t r : Rh.T} (o : t.ok) (o2 : r.ok) (h : t.dp ≤ 30) (h2 : r.dp ≤ 30) : Rd2 G K (rEqD K) (Rh.enc t) (Rh.enc r) (.bool (decide (t = r))) H := by
  rw [← Rh.eqv_enc t r]
  exact rd_eqD (Rh.shaped_enc o h) (Rh.shaped_enc o2 h2)
theorem rd_neT {t r : Rh.T} (o : t.ok) (o2 : r.ok) (h : t.dp ≤ 30) (h2 : r.dp ≤ 30) : Rd2 G K (rNeD K) (Rh.enc t) (Rh.enc r) (.bool (!decide (t = r))) H := by
  rw [← Rh.eqv_enc t r]
  exact rd_neD (Rh.shaped_enc o h) (Rh.shaped_enc o2 h2)
/-- part of a term -/
theorem ed_parts {t : Rh.T} (tG : TabsG G H) (hv : t.isV = false) (h : Ed G K te σ H (Rh.enc t)) : Ed G K (tOp (rIxT K) te (tC (.int 1))) σ H (.tuple (t.parts.map Rh.enc)) := by
  rw [Rh.enc_n hv] at h
  exact ed_op tG h ed_int (rd_ixT (by decide) rfl)
theorem ed_sgn {t : Rh.T} (tG : TabsG G H) (hv : t.isV = false) (h : Ed G K te σ H (Rh.enc t)) : Ed G K (tOp (rIxT K) te (tC (.int 0))) σ H (.str t.sgn) := by
  rw [Rh.enc_n hv] at h
  exact ed_op tG h ed_int (rd_ixT (by decide) rfl)
/-- walks over a term's parts -/
theorem ed_allP {P : Addr} {i : Nat} {vs : List Nat} {ts : List Rh.T} {p : Rh.T → Bool} (hP : P ∈ G) (tG : TabsG G H) (h : Ed G K te σ H (.tuple (ts.map Rh.enc))) (hi : i ∈ vs)
    (hb : ∀ t v H1, t ∈ ts → Ext G H H1 → TabsG G H1 → Dp K H1 v (Rh.enc t) → Ed G K tb ((wipe σ vs).set i (some v)) H1 (.bool (p t))) : Ed G K (tAllG P (iTup K te) (gName i) tYes tb vs) σ H (.bool (ts.all p)) := by
  have z := ed_allT (p := fun d => p (Rh.dec d)) hP tG h hi (fun d v H1 hd x t1 r => by
    obtain ⟨t, ht, rfl⟩ := List.mem_map.mp hd
    rw [Rh.dec_enc]
    exact hb t v H1 ht x t1 r)
  refine ed_is z ?_
  rw [List.all_map]
  simp [Function.comp_def, Rh.dec_enc]
theorem ed_anyP {P : Addr} {i : Nat} {vs : List Nat} {ts : List Rh.T} {p : Rh.T → Bool} (hP : P ∈ G) (tG : TabsG G H) (h : Ed G K te σ H (.tuple (ts.map Rh.enc))) (hi : i ∈ vs)
    (hb : ∀ t v H1, t ∈ ts → Ext G H H1 → TabsG G H1 → Dp K H1 v (Rh.enc t) → Ed G K tb ((wipe σ vs).set i (some v)) H1 (.bool (p t))) : Ed G K (tAnyG P (iTup K te) (gName i) tYes tb vs) σ H (.bool (ts.any p)) := by
  have z := ed_anyT (p := fun d => p (Rh.dec d)) hP tG h hi (fun d v H1 hd x t1 r => by
    obtain ⟨t, ht, rfl⟩ := List.mem_map.mp hd
    rw [Rh.dec_enc]
    exact hb t v H1 ht x t1 r)
  refine ed_is z ?_
  rw [List.any_map]
  simp [Function.comp_def, Rh.dec_enc]
theorem ed_sumP {P : Addr} {i : Nat} {vs : List Nat} {ts : List Rh.T} {p : Rh.T → Int} (hP : P ∈ G) (tG : TabsG G H) (h : Ed G K te σ H (.tuple (ts.map Rh.enc))) (hi : i ∈ vs)
    (hb : ∀ t v H1, t ∈ ts → Ext G H H1 → TabsG G H1 → Dp K H1 v (Rh.enc t) → Ed G K tb ((wipe σ vs).set i (some v)) H1 (.int (p t))) : Ed G K (tSumG P (iTup K te) (gName i) tYes tb vs) σ H (.int (ts.map p).sum) := by
  have z := ed_sumT (p := fun d => p (Rh.dec d)) hP tG h hi (fun d v H1 hd x t1 r => by
    obtain ⟨t, ht, rfl⟩ := List.mem_map.mp hd
    rw [Rh.dec_enc]
    exact hb t v H1 ht x t1 r)
  refine ed_is z ?_
  rw [List.map_map]
  simp [Function.comp_def, Rh.dec_enc]
theorem ed_lcP {i : Nat} {vs : List Nat} {ts : List Rh.T} {g : Rh.T → PyData} (tG : TabsG G H) (hl : ts.length ≤ 1000) (h : Ed G K te σ H (.tuple (ts.map Rh.enc))) (hi : i ∈ vs) (hp : ∀ t ∈ ts, Pu (g t) = true)
    (hb : ∀ t v H1, t ∈ ts → Ext G H H1 → TabsG G H1 → Dp K H1 v (Rh.enc t) → Ed G K tb ((wipe σ vs).set i (some v)) H1 (g t)) : Ed G K (tLc (iTup K te) (gName i) tYes tb vs) σ H (.list (ts.map g)) := by
  have z := ed_lcT (g := fun d => g (Rh.dec d)) tG (by rw [List.length_map]; exact Nat.le_trans hl (by decide)) h hi (fun d hd => by
    obtain ⟨t, ht, rfl⟩ := List.mem_map.mp hd
    rw [Rh.dec_enc]
    exact hp t ht) (fun d v H1 hd x t1 r => by
    obtain ⟨t, ht, rfl⟩ := List.mem_map.mp hd
    rw [Rh.dec_enc]
    exact hb t v H1 ht x t1 r)
  refine ed_is z ?_
  rw [List.map_map]
  simp [Function.comp_def, Rh.dec_enc]
end
end Dl
set_option Elab.async false
set_option linter.all false
set_option maxRecDepth 100000
set_option maxHeartbeats 2000000
namespace Rh
open PySem PySem.Spec PyProof.Rows L2 GxR Gx Dl
def topS (i : Nat) : Stmt := PySem.Challenge.pw_rewritehall_k08_orders_that_end.main.body.getD i (.Pass ⟨0, 0, 0, 0⟩)
abbrev s_is_variable : Stmt := topS 7
theorem sc_is_variable : FnScope ["thing", "sign"] ["thing"] (defScope s_is_variable) := ⟨rfl, rfl, rfl, by decide +kernel, rfl, by decide +kernel, by decide +kernel⟩
def R_iv : List Ar → PyData → Prop := fun as d => (∃ x : Str, as = [.d (.str x)] ∧ x.length ≤ 100000 ∧ d = .bool (isVarS x)) ∨ ∃ es, as = [.d (.tuple es)] ∧ d = .bool false
theorem r_iv {t : T} (o : t.ok) : R_iv [.d (enc t)] (.bool t.isV) := by
  cases t with
  | v x => exact .inl ⟨x, rfl, o.2.1, by rw [o.1]; rfl⟩
  | c s => exact .inr ⟨_, rfl, rfl⟩
  | u s t => exact .inr ⟨_, rfl, rfl⟩
  | b s t r => exact .inr ⟨_, rfl, rfl⟩
section
variable {P : Program} {w : World} {K : PySem.W.Frag} {mg : Str → Option Value} {base : Heap} {G : List Addr}
variable {f : Addr} {fd : FuncData}
abbrev IV (P : Program) (w : World) (K : PySem.W.Frag) (mg : Str → Option Value) (base : Heap) (G : List Addr) : Prop := Cl0 P w K mg base 2 "is_variable" (spA G K R_iv)
theorem cl_iv (D : DefF K mg base G "is_variable" s_is_variable ["thing"] f fd) (m1 : mg "isinstance" = none) (m2 : mg "str" = none) (m3 : mg "all" = none) : IV P w K mg base G := by
  refine D.cl sc_is_variable (fun ds d r => by rcases r with ⟨x, rfl, _⟩ | ⟨es, rfl, _⟩ <;> rfl) fun c Pt A outer s H vs ds d Q E TB hP hr tG hv r q => ?_
  refine ⟨_, pss_cons (ps_if (PW.pt (pw_or (pt_not (pt_val (pe_callB call_isi (by rfl) m1 (by decide +kernel) (pa_cons (pv 0) (pa_cons (pe_bltn (v := .ty "str") (by rfl) m2 (by decide +kernel) rfl) pa_nil)))))
      (pw_or (pt_cmpR op_eq (pv 0) pe_str (nomark _)) (pw_or1 (pt_cmpR op_notIn_sign (pe_ix ix_str (pv 0) pe_int (fun _ _ => rfl)) pe_str rfl))))) (pss_one (ps_ret pe_bl)) pss_nil)
    (pss_one (ps_ret (pe_allG (own := [("sign", 1)]) hr sc_is_variable.nd TB rfl (blkOk_by (N := ["thing", "sign"]) (sc := defScope s_is_variable) (by decide +kernel)) m3 (pi_str (pe_slice sl_str (pv 0) (po_some pe_int) po_none))
      (fun s H C code fp A _ => pg_name (i := 1) sc_is_variable.nd rfl (Or.inl rfl)) (fun s H C code fp A _ => pts_nil) (fun s H C code fp A _ => pe_cmpR op_in_sign (pv 1) pe_str rfl)))), ?_⟩
  rcases r with ⟨x, rfl, hx, rfl⟩ | ⟨es, rfl, rfl⟩
  · obtain ⟨v, rfl, rv⟩ := arA_one hv
    have hz : x.length ≤ sizeLine := Nat.le_trans hx (by decide)
    have v0 : ∀ {H'}, Ext G H H' → Ed G K (tVar 0) [some v, none] H' (.str x) := fun y => ed_var (tG.ext y) rfl (dp_ext y tG (show Dp K H v (.str x) from rv))
    cases hl : x.cps.toList with
    | nil =>
      have ex : x = Str.ofString "" := Str.ext' (Array.toList_inj.mp hl)
      refine s_ifR (b := true) (edt_or (b := false) (edt_not (b := true) (edt_val (ed_isi (v0 (Ext.refl G H)) (kit_ty (show kitB "str" "str" = some true by decide +kernel))))) fun _ => edt_or (b := true) (c := true) (edt_test (ed_is (ed_op tG (v0 (Ext.refl G H)) ed_str rd_eqS) ?_)) fun z => by cases z) (fun _ H' y => ?_) (fun z => by cases z)
      · rw [ex]; rfl
      · refine s_ret (K := K) ed_bl fun u H2 y2 ru => q u H2 (y.trans y2) ?_
        have e : isVarS x = false := by unfold isVarS; rw [hl]
        rw [e]
        exact ru
    | cons cc r =>
      have nx : ¬ x = Str.ofString "" := fun z => by rw [z] at hl; cases hl
      have i0 : x.cps.toList[(0 : Int).toNat]? = some cc := by rw [hl]; rfl
      refine s_ifR (b := !decide (cc ∈ (Str.ofString "uvwxyz").cps.toList)) (edt_or (b := false) (edt_not (b := true) (edt_val (ed_isi (v0 (Ext.refl G H)) (kit_ty (show kitB "str" "str" = some true by decide +kernel))))) fun _ => edt_or (b := false) (edt_test (ed_is (ed_op tG (v0 (Ext.refl G H)) ed_str rd_eqS) ?_)) fun _ =>
        edt_test (ed_op tG (ed_op tG (v0 (Ext.refl G H)) ed_int (rd_ixS hz (Int.le_refl 0) i0)) ed_str rd_niSign)) (fun e H' y => ?_) (fun e H' y => ?_)
      · rw [decide_eq_false nx]
      · refine s_ret (K := K) ed_bl fun u H2 y2 ru => q u H2 (y.trans y2) ?_
        have e2 : isVarS x = false := by
          unfold isVarS
          rw [hl]
          simp only [Bool.not_eq_true'] at e
          simp only [e, Bool.false_and]
        rw [e2]
        exact ru
      · have tG' := tG.ext y
        refine s_ret (ed_allS hP tG' (ed_slS hz (v0 y) (fun _ _ _ z => ⟨_, rfl, z⟩) (fun _ _ _ z => z)) (List.mem_singleton.mpr rfl) fun d H1 y1 t1 => ed_op t1 (ed_var t1 rfl (.str _)) ed_str rd_inSign) fun u H2 y2 ru => q u H2 (y.trans y2) ?_
        have e2 : isVarS x = ((cutS x (some 1) none).cps.toList.all fun d => decide (d ∈ (Str.ofString "0123456789").cps.toList)) := by
          unfold isVarS
          rw [cutS_tail, hl]
          simp only [Bool.not_eq_false'] at e
          simp only [e, Bool.true_and, List.drop_succ_cons, List.drop_zero]
        rw [e2]
        exact ru
  · obtain ⟨v, rfl, rv⟩ := arA_one hv
    refine s_ifR (b := true) (edt_or (b := true) (c := true) (edt_not (b := false) (edt_val (ed_isi (ed_var tG rfl (show Dp K H v (.tuple es) from rv)) (kit_ty (show kitB "tuple" "str" = some false by decide +kernel))))) fun z => by cases z) (fun _ H' y => ?_) (fun z => by cases z)
    exact s_ret (K := K) ed_bl fun u H2 y2 ru => q u H2 (y.trans y2) ru
end
end Rh
set_option Elab.async false
set_option linter.all false
set_option maxRecDepth 100000
set_option maxHeartbeats 2000000
namespace Rh
open PySem PySem.Spec PyProof.Rows L2 GxR Gx Dl
abbrev s_size : Stmt := topS 9
abbrev s_uses : Stmt := topS 10
theorem sc_size : FnScope ["term", "part"] ["term"] (defScope s_size) := ⟨rfl, rfl, rfl, by decide +kernel, rfl, by decide +kernel, by decide +kernel⟩
theorem sc_uses : FnScope ["term", "name", "part"] ["term", "name"] (defScope s_uses) := ⟨rfl, rfl, rfl, by decide +kernel, rfl, by decide +kernel, by decide +kernel⟩
def T.uses (x : Str) : T → Nat
  | .v y => if y = x then 1 else 0
  | .c _ => 0
  | .u _ t => t.uses x
  | .b _ t r => t.uses x + r.uses x
theorem T.size_n {t : T} (h : t.isV = false) : (t.size : Int) = 1 + (t.parts.map fun p => (p.size : Int)).sum := by
  cases t with
  | v x => cases h
  | c s => rfl
  | u s t => simp [T.size, T.parts]; omega
  | b s t r => simp [T.size, T.parts]; omega
theorem T.size_v {t : T} (h : t.isV = true) : t.size = 1 := by cases t <;> first | rfl | cases h
theorem T.uses_n {t : T} {x : Str} (h : t.isV = false) : (t.uses x : Int) = (t.parts.map fun p => (p.uses x : Int)).sum := by
  cases t with
  | v x => cases h
  | c s => rfl
  | u s t => simp [T.uses, T.parts]
  | b s t r => simp [T.uses, T.parts]
def R_size (n : Nat) : List Ar → PyData → Prop := fun as d => ∃ t : T, as = [.d (enc t)] ∧ t.ok ∧ t.dp < n ∧ d = .int t.size
def R_uses (n : Nat) : List Ar → PyData → Prop := fun as d => ∃ (t : T) (x : Str), as = [.d (enc t), .d (.str x)] ∧ t.ok ∧ t.dp < n ∧ d = .int (t.uses x)
section
variable {P : Program} {w : World} {K : PySem.W.Frag} {mg : Str → Option Value} {base : Heap} {G : List Addr} {f : Addr} {fd : FuncData}
/-- nothing is promised -/
theorem _root_.Dl.DefF.none {x : Str} {st : Stmt} {ps : List Str} {R : List Ar → PyData → Prop} (D : DefF K mg base G x st ps f fd) (h : ∀ as d, ¬ R as d) : Cl0 P w K mg base 0 x (spA G K R) := by
  obtain ⟨c, Pt, F, TB, hP⟩ := D.cP
  exact ⟨f, fd, ps, ⟨fun vs H Q E ⟨_, as, d, _, r, _⟩ => absurd r (h as d), fun A outer s H args us vs Q E _ _ _ _ ⟨_, as, d, _, r, _⟩ => absurd r (h as d)⟩, D.m, F.kp, D.b⟩
theorem ed_iv {σ : L2.St} {H : Hp} {te : TE} {t : T} (tG : TabsG G H) (o : t.ok) (h : Ed G K te σ H (enc t)) : Ed G K (tCall (spA G K R_iv) [] (fun _ _ _ => False) (tCons te tNil)) σ H (.bool t.isV) := ea_call tG (ea_one (edx_of h)) (r_iv o)

theorem cl_size (D : DefF K mg base G "size" s_size ["term"] f fd) (iv : IV P w K mg base G) (m : mg "sum" = none) : ∀ n, Cl0 P w K mg base (2 * n + 2) "size" (spA G K (R_size n))
  | 0 => (D.none fun as d ⟨t, _, _, h, _⟩ => Nat.not_lt_zero _ h).mono (Nat.zero_le _)
  | n + 1 => by
    have ih := cl_size D iv m n
    refine D.cl (k := 2 * n + 3) sc_size (fun ds d r => by obtain ⟨t, rfl, _⟩ := r; rfl) fun c Pt A outer s H vs ds d Q E TB hP hr tG hv r q => ?_
    refine ⟨_, pss_one (ps_ret (pe_ifExp (pt_val (pe_cl iv (hr.mono (by omega)) rfl (pa_cons (pv 0) pa_nil))) pe_int (pe_op op_add pe_int
      (pe_sumG (own := [("part", 1)]) hr sc_size.nd TB rfl (blkOk_by (N := ["term", "part"]) (sc := defScope s_size) (by decide +kernel)) m (pi_tup (pe_ix ix_tup (pv 0) pe_int (fun _ _ => rfl)))
        (fun s H C code fp A _ => pg_name (i := 1) sc_size.nd rfl (Or.inl rfl)) (fun s H C code fp A _ => pts_nil) (fun s H C code fp A r => pe_cl ih r rfl (pa_cons (pv 1) pa_nil)))))), ?_⟩
    obtain ⟨t, rfl, o, hd, rfl⟩ := r
    obtain ⟨v, rfl, rv⟩ := arA_one hv
    have v0 : ∀ {H'}, Ext G H H' → Ed G K (tVar 0) [some v, none] H' (enc t) := fun y => ed_var (tG.ext y) rfl (dp_ext y tG rv)
    refine s_ret (K := K) (ed_if (edt_val (ed_iv tG o (v0 (Ext.refl G H)))) (fun h => ed_is ed_int (by rw [T.size_v h]; rfl)) fun h => ed_is (ed_op tG ed_int (ed_sumP (p := fun p => (p.size : Int)) hP tG (ed_parts tG h (v0 (Ext.refl G H))) (List.mem_singleton.mpr rfl) fun p u H1 hp x1 t1 rp => ?_) rd_add) (by rw [T.size_n h])) fun u H' y ru => q u H' y ru
    exact ea_call t1 (ea_one (edx_of (ed_var t1 rfl rp))) ⟨p, rfl, T.ok_parts o hp, by have := T.dp_parts hp; omega, rfl⟩
theorem cl_uses (D : DefF K mg base G "uses" s_uses ["term", "name"] f fd) (iv : IV P w K mg base G) (m : mg "sum" = none) (m2 : mg "int" = none) : ∀ n, Cl0 P w K mg base (2 * n + 2) "uses" (spA G K (R_uses n))
  | 0 => (D.none fun as d ⟨t, _, _, _, h, _⟩ => Nat.not_lt_zero _ h).mono (Nat.zero_le _)
  | n + 1 => by
    have ih := cl_uses D iv m m2 n
    refine D.cl (k := 2 * n + 3) sc_uses (fun ds d r => by obtain ⟨t, x, rfl, _⟩ := r; rfl) fun c Pt A outer s H vs ds d Q E TB hP hr tG hv r q => ?_
    refine ⟨_, pss_cons (ps_if (pt_val (pe_cl iv (hr.mono (by omega)) rfl (pa_cons (pv 0) pa_nil))) (pss_one (ps_ret (pe_callTy call_int1 (by rfl) m2 (by decide +kernel) (pa_cons (pe_cmpR op_eq (pv 0) (pv 1) (nomark _)) pa_nil)))) pss_nil)
      (pss_one (ps_ret (pe_sumG (own := [("part", 2)]) hr sc_uses.nd TB rfl (blkOk_by (N := ["term", "name", "part"]) (sc := defScope s_uses) (by decide +kernel)) m (pi_tup (pe_ix ix_tup (pv 0) pe_int (fun _ _ => rfl)))
        (fun s H C code fp A _ => pg_name (i := 2) sc_uses.nd rfl (Or.inl rfl)) (fun s H C code fp A _ => pts_nil) (fun s H C code fp A r => pe_cl ih r rfl (pa_cons (pv 2) (pa_cons (pv 1) pa_nil)))))), ?_⟩
    obtain ⟨t, x, rfl, o, hd, rfl⟩ := r
    obtain ⟨v, z, rfl, rv, rz⟩ := arA_two hv
    have v0 : ∀ {H'}, Ext G H H' → Ed G K (tVar 0) [some v, some z, none] H' (enc t) := fun y => ed_var (tG.ext y) rfl (dp_ext y tG rv)
    have v1 : ∀ {H'}, Ext G H H' → Ed G K (tVar 1) [some v, some z, none] H' (.str x) := fun y => ed_var (tG.ext y) rfl (dp_ext y tG (show Dp K H z (.str x) from rz))
    refine s_ifR (edt_val (ed_iv tG o (v0 (Ext.refl G H)))) (fun h H' y => ?_) fun h H' y => ?_
    · refine s_ret (K := K) (ed_cb (ed_one (ed_op (tG.ext y) (by have := v0 y; rw [enc_v h] at this; exact this) (v1 y) rd_eqS)) rdc_int) fun u H2 y2 ru => q u H2 (y.trans y2) ?_
      cases t with
      | v a =>
        have e : (T.uses x (.v a) : Int) = if decide (a = x) = true then 1 else 0 := by
          unfold T.uses
          by_cases h : a = x <;> simp [h]
        rw [e]
        exact ru
      | c _ => cases h
      | u _ _ => cases h
      | b _ _ _ => cases h
    · refine s_ret (K := K) (ed_is (ed_sumP (p := fun p => (p.uses x : Int)) hP (tG.ext y) (ed_parts (tG.ext y) h (v0 y)) (List.mem_singleton.mpr rfl) fun p u H1 hp x1 t1 rp => ?_) (by rw [T.uses_n h])) fun u H2 y2 ru => q u H2 (y.trans y2) ru
      exact ea_call t1 (ea_cons t1 (edx_of (ed_var t1 rfl rp)) (ea_one (edx_of (ed_var t1 rfl (dp_ext (y.trans x1) tG (show Dp K H z (.str x) from rz)))))) ⟨p, x, rfl, T.ok_parts o hp, by have := T.dp_parts hp; omega, rfl⟩
end
end Rh
set_option Elab.async false
set_option linter.all false
set_option maxRecDepth 100000
set_option maxHeartbeats 2000000
namespace Dl
open PySem PySem.Spec PyProof.Rows L2 GxR Gx
section
variable {G : List Addr} {K : PySem.W.Frag} {σ : L2.St} {H H' : Hp} {ta tb tc te : TE} {tA : TA} {d e f : PyData} {ds es : List PyData} {b c : Bool}
/-- while, with a ghost -/
theorem s_whileG {α : Type} {tt : TT} {ts : TS} {D : Ends} (tG : TabsG G H) (Pv : α → L2.St → Hp → Prop) (μ : α → Nat) (b : α → Bool) (a0 : α) (h0 : Pv a0 σ H)
    (hc : ∀ a σ' H', Pv a σ' H' → TabsG G H' → EdT G tt σ' H' (b a))
    (hs : ∀ a σ' H' (N : L2.St → Hp → Prop), Pv a σ' H' → Ext G H H' → b a = true → TabsG G H' → (∀ a2 σ2 H2, Ext G H' H2 → Pv a2 σ2 H2 → μ a2 < μ a → N σ2 H2) → ts { D with nx := N, ct := N, bk := D.nx } σ' H')
    (hp : ∀ a σ' H1 H2, Ext G H1 H2 → TabsG G H1 → Pv a σ' H1 → Pv a σ' H2)
    (hd : ∀ a σ' H', Ext G H H' → Pv a σ' H' → b a = false → D.nx σ' H') : tWhile tt ts D σ H := by
  refine ⟨fun m σ' H' => ∃ a, m = μ a ∧ Pv a σ' H' ∧ Ext G H H', ⟨_, a0, rfl, h0, Ext.refl G H⟩, ?_⟩
  rintro m σ' H' ⟨a, rfl, p, x⟩
  have t1 := tG.ext x
  refine hc a σ' H' p t1 H' (Ext.refl G H') _ fun H2 x2 => ?_
  cases hb : b a with
  | true =>
    rw [if_pos rfl]
    exact ⟨fun σ2 H3 => ∃ a2, Pv a2 σ2 H3 ∧ Ext G H H3 ∧ μ a2 < μ a, fun σ2 H3 ⟨a2, w, y, l⟩ => ⟨_, l, a2, rfl, w, y⟩,
      hs a σ' H2 _ (hp _ _ _ _ x2 t1 p) (x.trans x2) hb (t1.ext x2) fun a2 σ2 H3 y w l => ⟨a2, w, (x.trans x2).trans y, l⟩⟩
  | false =>
    rw [if_neg Bool.false_ne_true]
    exact hd a σ' H2 (x.trans x2) (hp _ _ _ _ x2 t1 p) hb
/-- a < b < c -/
theorem ed_chain {r r' : R2} (tG : TabsG G H) (ha : Ed G K ta σ H d) (hb : Ed G K tb σ H e) (hr : Rd2 G K r d e (.bool b) H) (hc : Ed G K tc σ H f) (hr2 : Rd2 G K r' e f (.bool c) H) : Ed G K (tChain r r' ta tb tc) σ H (.bool (b && c)) := fun H1 x Q q =>
  ha H1 x _ fun v H2 x2 rv => hb H2 (x.trans x2) _ fun u H3 x3 ru => hr H3 ((x.trans x2).trans x3) v u (dp_ext x3 ((tG.ext x).ext x2) rv) ru _ fun w H4 x4 rw_ => ⟨b, dp_bl rw_, by
    have x14 := (x2.trans x3).trans x4
    cases b with
    | true =>
      show tc σ H4 _
      refine hc H4 (x.trans x14) _ fun z H5 x5 rz => hr2 H5 ((x.trans x14).trans x5) u z (dp_ext (x4.trans x5) (((tG.ext x).ext x2).ext x3) ru) rz Q fun y H6 x6 ry => q y H6 ((x14.trans x5).trans x6) ry
    | false => exact q _ H4 x14 (.bl false)⟩
/-- x in a tuple of texts -/
theorem inV_cons (x y : V) (vs : List V) : inV x (y :: vs) = (eqV y x || inV x vs) := List.any_cons
theorem inV_strs {x : Str} : ∀ {vs : List V} {xs : List Str}, DpAll K H vs (xs.map PyData.str) → vs.all flatV = true ∧ inV (.str x) vs = decide (x ∈ xs)
  | _, [], .nil => ⟨rfl, rfl⟩
  | _, y :: r, .cons a s => by
    have ih := inV_strs (x := x) s
    rw [dp_str a]
    refine ⟨by rw [List.all_cons, ih.1]; rfl, ?_⟩
    rw [inV_cons, ih.2]
    show ((y == x) || decide (x ∈ r)) = _
    by_cases h : x = y
    · subst h; simp
    · have h' : ¬ y = x := fun z => h z.symm
      simp [h, h']
theorem rd_inT {x : Str} {xs : List Str} : Rd2 G K (rIn K false) (.str x) (.tuple (xs.map PyData.str)) (.bool (decide (x ∈ xs))) H := fun H1 _ v u rv ru Q q => by
  obtain ⟨a, vs, rfl, hs, hr⟩ := dp_tup ru
  have z := inV_strs (x := x) hr
  rw [dp_str rv]
  refine ⟨a, vs, rfl, .inr hs, rfl, z.1, ?_⟩
  rw [z.2]
  exact q _ H1 (Ext.refl G H1) (.bl _)
theorem rd_gtI' {i j : Int} : Rd2 G K (rI0 fun i j => .bl (decide (j < i))) (.int i) (.int j) (.bool (decide (j < i))) H := rd_gtI
theorem rd_neI {i j : Int} : Rd2 G K rNe (.int i) (.int j) (.bool (!decide (i = j))) H := fun H1 _ v u rv ru Q q => by
  rw [dp_int rv, dp_int ru]
  refine ⟨rfl, q _ H1 (Ext.refl G H1) ?_⟩
  have e : decide ((V.int i) = V.int j) = decide (i = j) := by
    by_cases h : i = j
    · subst h; simp
    · rw [decide_eq_false h, decide_eq_false (fun z => h (by injection z))]
  rw [e]
  exact .bl _
theorem rd_eqI {i j : Int} : Rd2 G K rEq (.int i) (.int j) (.bool (decide (i = j))) H := fun H1 _ v u rv ru Q q => by
  rw [dp_int rv, dp_int ru]
  refine ⟨rfl, q _ H1 (Ext.refl G H1) ?_⟩
  have e : decide ((V.int i) = V.int j) = decide (i = j) := by
    by_cases h : i = j
    · subst h; simp
    · rw [decide_eq_false h, decide_eq_false (fun z => h (by injection z))]
  rw [e]
  exact .bl _
end
end Dl
set_option Elab.async false
set_option linter.all false
set_option maxRecDepth 100000
set_option maxHeartbeats 2000000
namespace Rh
open PySem PySem.Spec PyProof.Rows L2 GxR Gx Dl
abbrev s_rank_of : Stmt := topS 16
abbrev s_weight : Stmt := topS 17
abbrev s_is_tower : Stmt := topS 19
abbrev s_put : Stmt := topS 13
abbrev s_at : Stmt := topS 12
theorem sc_rank_of : FnScope ["sign", "ranks"] ["sign", "ranks"] (defScope s_rank_of) := ⟨rfl, rfl, rfl, by decide +kernel, rfl, by decide +kernel, by decide +kernel⟩
theorem sc_weight : FnScope ["term", "weights", "least", "part"] ["term", "weights", "least"] (defScope s_weight) := ⟨rfl, rfl, rfl, by decide +kernel, rfl, by decide +kernel, by decide +kernel⟩
theorem sc_is_tower : FnScope ["one", "name"] ["one", "name"] (defScope s_is_tower) := ⟨rfl, rfl, rfl, by decide +kernel, rfl, by decide +kernel, by decide +kernel⟩
theorem sc_put : FnScope ["term", "table", "part"] ["term", "table"] (defScope s_put) := ⟨rfl, rfl, rfl, by decide +kernel, rfl, by decide +kernel, by decide +kernel⟩
theorem sc_at : FnScope ["term", "place", "k"] ["term", "place"] (defScope s_at) := ⟨rfl, rfl, rfl, by decide +kernel, rfl, by decide +kernel, by decide +kernel⟩
/-- a table of numbers -/
abbrev Tb := List (Str × Int)
def encT (m : Tb) : List (Key × PyData) := m.map fun p => (.inr p.1, .int p.2)
def getT (m : Tb) (s : Str) : Option Int := (m.find? fun p => decide (p.1 = s)).map (·.2)
theorem valD_encT (m : Tb) (s : Str) : valD (encT m) (.inr s) = (getT m s).map PyData.int := by
  induction m with
  | nil => rfl
  | cons p r ih =>
    by_cases h : p.1 = s
    · simp [valD, encT, getT, List.find?_cons, h]
    · have h' : ¬ (Sum.inr p.1 : Key) = .inr s := fun z => h (by injection z)
      simp only [valD, encT, List.map_cons, List.find?_cons, decide_eq_false h', getT, decide_eq_false h]
      exact ih
def T.weight (m : Tb) (l : Int) : T → Int
  | .v _ => l
  | .c s => (getT m s).getD 0
  | .u s t => (getT m s).getD 0 + t.weight m l
  | .b s t r => (getT m s).getD 0 + (t.weight m l + r.weight m l)
/-- all signs stand in the table -/
def T.inT (m : Tb) : T → Prop
  | .v _ => True
  | .c s => (getT m s).isSome = true
  | .u s t => (getT m s).isSome = true ∧ t.inT m
  | .b s t r => (getT m s).isSome = true ∧ t.inT m ∧ r.inT m
theorem T.inT_sgn {m : Tb} {t : T} (h : t.inT m) (hv : t.isV = false) : ∃ k, getT m t.sgn = some k := by
  cases t with
  | v x => cases hv
  | c s => exact Option.isSome_iff_exists.mp h
  | u s t => exact Option.isSome_iff_exists.mp h.1
  | b s t r => exact Option.isSome_iff_exists.mp h.1
theorem T.inT_parts {m : Tb} {t p : T} (o : t.inT m) (h : p ∈ t.parts) : p.inT m := by
  cases t with
  | v x => cases h
  | c s => cases h
  | u s t =>
    rw [T.parts, List.mem_singleton] at h
    subst h
    exact o.2
  | b s t r =>
    rw [T.parts, List.mem_cons, List.mem_singleton] at h
    rcases h with h | h <;> subst h
    · exact o.2.1
    · exact o.2.2
theorem T.weight_n {m : Tb} {l : Int} {t : T} (h : t.isV = false) : t.weight m l = (getT m t.sgn).getD 0 + (t.parts.map fun p => p.weight m l).sum := by
  cases t with
  | v x => cases h
  | c s => simp [T.weight, T.parts, T.sgn]
  | u s t => simp [T.weight, T.parts, T.sgn]
  | b s t r => simp [T.weight, T.parts, T.sgn]
theorem T.weight_v {m : Tb} {l : Int} {t : T} (h : t.isV = true) : t.weight m l = l := by cases t <;> first | rfl | cases h
/-- one sign or more of a single part above a variable -/
def T.tower (x : Str) : T → Bool
  | .v y => decide (y = x)
  | .c _ => false
  | .u _ t => t.tower x
  | .b _ _ _ => false
/-- the variables down the spine are variables -/
def T.okW : T → Prop
  | .v x => isVarS x = true ∧ x.length ≤ 100000
  | .c _ => True
  | .u _ t => t.okW
  | .b _ _ _ => True
theorem T.ok.w {t : T} : t.ok → t.okW := by
  induction t with
  | v x => exact fun o => ⟨o.1, o.2.1⟩
  | c s => exact fun _ => True.intro
  | u s t ih => exact fun o => ih o.2
  | b s t r _ _ => exact fun _ => True.intro
theorem r_ivW {t : T} (o : t.okW) : R_iv [.d (enc t)] (.bool t.isV) := by
  cases t with
  | v x => exact .inl ⟨x, rfl, o.2, by rw [o.1]; rfl⟩
  | c s => exact .inr ⟨_, rfl, rfl⟩
  | u s t => exact .inr ⟨_, rfl, rfl⟩
  | b s t r => exact .inr ⟨_, rfl, rfl⟩
theorem ed_ivW {G : List Addr} {K : PySem.W.Frag} {σ : L2.St} {H : Hp} {te : TE} {t : T} (tG : TabsG G H) (o : t.okW) (h : Ed G K te σ H (enc t)) : Ed G K (tCall (spA G K R_iv) [] (fun _ _ _ => False) (tCons te tNil)) σ H (.bool t.isV) := ea_call tG (ea_one (edx_of h)) (r_ivW o)
abbrev Sub := List (Str × T)
def encSub (m : Sub) : List (Key × PyData) := m.map fun p => (.inr p.1, enc p.2)
def getS (m : Sub) (s : Str) : Option T := (m.find? fun p => decide (p.1 = s)).map (·.2)
theorem valD_encSub (m : Sub) (s : Str) : valD (encSub m) (.inr s) = (getS m s).map enc := by
  induction m with
  | nil => rfl
  | cons p r ih =>
    by_cases h : p.1 = s
    · simp [valD, encSub, getS, List.find?_cons, h]
    · have h' : ¬ (Sum.inr p.1 : Key) = .inr s := fun z => h (by injection z)
      simp only [valD, encSub, List.map_cons, List.find?_cons, decide_eq_false h', getS, decide_eq_false h]
      exact ih
def T.put (m : Sub) : T → T
  | .v x => (getS m x).getD (.v x)
  | .c s => .c s
  | .u s t => .u s (t.put m)
  | .b s t r => .b s (t.put m) (r.put m)
theorem T.put_n {m : Sub} {t : T} (h : t.isV = false) : enc (t.put m) = .tuple [.str t.sgn, .tuple (t.parts.map fun p => enc (p.put m))] := by cases t <;> first | rfl | cases h
def R_rank : List Ar → PyData → Prop := fun as d => ∃ (s : Str) (m : Tb) (k : Int), as = [.d (.str s), .k (encT m)] ∧ getT m s = some k ∧ d = .int k
def R_weight (n : Nat) : List Ar → PyData → Prop := fun as d => ∃ (t : T) (m : Tb) (l : Int), as = [.d (enc t), .k (encT m), .d (.int l)] ∧ t.ok ∧ t.inT m ∧ t.dp < n ∧ d = .int (t.weight m l)
def R_tower : List Ar → PyData → Prop := fun as d => ∃ (t : T) (x : Str), as = [.d (enc t), .d (.str x)] ∧ t.okW ∧ d = .bool (t.tower x)
def R_put (n : Nat) : List Ar → PyData → Prop := fun as d => ∃ (t : T) (m : Sub), as = [.d (enc t), .k (encSub m)] ∧ t.ok ∧ t.dp < n ∧ d = enc (t.put m)
section
variable {P : Program} {w : World} {K : PySem.W.Frag} {mg : Str → Option Value} {base : Heap} {G : List Addr} {f : Addr} {fd : FuncData}
theorem cl_rank (D : DefF K mg base G "rank_of" s_rank_of ["sign", "ranks"] f fd) : Cl0 P w K mg base 1 "rank_of" (spA G K R_rank) := by
  refine D.cl (k := 0) sc_rank_of (fun ds d r => by obtain ⟨t, _, _, rfl, _⟩ := r; rfl) fun c Pt A outer s H vs ds d Q E TB hP hr tG hv r q => ?_
  refine ⟨_, pss_cons (ps_if (pt_cmp (pc_dnotin (hu_of hr) (pv 0) (pv 1))) (pss_one ps_never) pss_nil) (pss_one (ps_ret (pe_dget (hu_of hr) (pv 1) (pv 0) (fun _ _ => rfl)))), ?_⟩
  obtain ⟨x, m, k, rfl, hk, rfl⟩ := r
  obtain ⟨v, z, rfl, rv, rz⟩ := arA_two hv
  have v0 : ∀ {H'}, Ext G H H' → Ed G K (tVar 0) [some v, some z] H' (.str x) := fun y => ed_var (tG.ext y) rfl (dp_ext y tG (show Dp K H v (.str x) from rv))
  have v1 : ∀ {H'}, Ext G H H' → EdX G K (tVar 1) [some v, some z] H' (.k (encT m)) := fun y => edx_var (tG.ext y) rfl (ar_ext y tG rz)
  have e : valD (encT m) (.inr x) = some (.int k) := by rw [valD_encT, hk]; rfl
  refine s_ifR (edt_val (ed_dnin tG (v0 (Ext.refl G H)) (v1 (Ext.refl G H)))) (fun h => by rw [e] at h; cases h) fun h H' y => ?_
  exact s_ret (K := K) (ed_dget (tG.ext y) (v1 y) (v0 y) e) fun u H2 y2 ru => q u H2 (y.trans y2) ru
theorem cl_weight (D : DefF K mg base G "weight" s_weight ["term", "weights", "least"] f fd) (iv : IV P w K mg base G) (m : mg "sum" = none) : ∀ n, Cl0 P w K mg base (2 * n + 2) "weight" (spA G K (R_weight n))
  | 0 => (D.none fun as d ⟨t, _, _, _, _, _, h, _⟩ => Nat.not_lt_zero _ h).mono (Nat.zero_le _)
  | n + 1 => by
    have ih := cl_weight D iv m n
    refine D.cl (k := 2 * n + 3) sc_weight (fun ds d r => by obtain ⟨t, x, _, rfl, _⟩ := r; rfl) fun c Pt A outer s H vs ds d Q E TB hP hr tG hv r q => ?_
    refine ⟨_, pss_cons (ps_if (pt_val (pe_cl iv (hr.mono (by omega)) rfl (pa_cons (pv 0) pa_nil))) (pss_one (ps_ret (pv 2))) pss_nil)
      (pss_cons (ps_if (pt_cmp (pc_dnotin (hu_of hr) (pe_ix ix_tup (pv 0) pe_int (fun _ _ => rfl)) (pv 1))) (pss_one ps_never) pss_nil)
      (pss_one (ps_ret (pe_op op_add (pe_dget (hu_of hr) (pv 1) (pe_ix ix_tup (pv 0) pe_int (fun _ _ => rfl)) (fun _ _ => rfl))
        (pe_sumG (own := [("part", 3)]) hr sc_weight.nd TB rfl (blkOk_by (N := ["term", "weights", "least", "part"]) (sc := defScope s_weight) (by decide +kernel)) m (pi_tup (pe_ix ix_tup (pv 0) pe_int (fun _ _ => rfl)))
          (fun s H C code fp A _ => pg_name (i := 3) sc_weight.nd rfl (Or.inl rfl)) (fun s H C code fp A _ => pts_nil) (fun s H C code fp A r => pe_cl ih r rfl (pa_cons (pv 3) (pa_cons (pv 1) (pa_cons (pv 2) pa_nil))))))))), ?_⟩
    obtain ⟨t, m, l, rfl, o, oi, hd, rfl⟩ := r
    obtain ⟨v, z, y, rfl, rv, rz, ry⟩ := arA_three hv
    have v0 : ∀ {H'}, Ext G H H' → Ed G K (tVar 0) [some v, some z, some y, none] H' (enc t) := fun y => ed_var (tG.ext y) rfl (dp_ext y tG rv)
    have v1 : ∀ {H'}, Ext G H H' → EdX G K (tVar 1) [some v, some z, some y, none] H' (.k (encT m)) := fun y => edx_var (tG.ext y) rfl (ar_ext y tG rz)
    have v2 : ∀ {H'}, Ext G H H' → Ed G K (tVar 2) [some v, some z, some y, none] H' (.int l) := fun x => ed_var (tG.ext x) rfl (dp_ext x tG (show Dp K H y (.int l) from ry))
    refine s_ifR (edt_val (ed_iv tG o (v0 (Ext.refl G H)))) (fun h H' y => ?_) fun h H' y => ?_
    · exact s_ret (K := K) (v2 y) fun u H2 y2 ru => q u H2 (y.trans y2) (by rw [T.weight_v h]; exact ru)
    · obtain ⟨k, hk⟩ := T.inT_sgn oi h
      have e : valD (encT m) (.inr t.sgn) = some (.int k) := by rw [valD_encT, hk]; rfl
      refine s_ifR (edt_val (ed_dnin (tG.ext y) (ed_sgn (tG.ext y) h (v0 y)) (v1 y))) (fun h => by rw [e] at h; cases h) fun h0 H2 y2 => ?_
      have y3 := y.trans y2
      refine s_ret (K := K) (ed_is (ed_op (tG.ext y3) (ed_dget (tG.ext y3) (v1 y3) (ed_sgn (tG.ext y3) h (v0 y3)) e) (ed_sumP (p := fun p => p.weight m l) hP (tG.ext y3) (ed_parts (tG.ext y3) h (v0 y3)) (List.mem_singleton.mpr rfl) fun p u H1 hp x1 t1 rp => ?_) rd_add) (by rw [T.weight_n h, hk]; rfl)) fun u H3 y4 ru => q u H3 (y3.trans y4) ru
      have y5 := y3.trans x1
      exact ea_call t1 (ea_cons t1 (edx_of (ed_var t1 rfl rp)) (ea_cons t1 (edx_var t1 rfl (ar_ext y5 tG rz)) (ea_one (edx_of (ed_var t1 rfl (dp_ext y5 tG (show Dp K H _ (.int l) from ry))))))) ⟨p, m, l, rfl, T.ok_parts o hp, T.inT_parts oi hp, by have := T.dp_parts hp; omega, rfl⟩
theorem cl_put (D : DefF K mg base G "put" s_put ["term", "table"] f fd) (iv : IV P w K mg base G) (m : mg "tuple" = none) : ∀ n, Cl0 P w K mg base (2 * n + 2) "put" (spA G K (R_put n))
  | 0 => (D.none fun as d ⟨t, _, _, _, h, _⟩ => Nat.not_lt_zero _ h).mono (Nat.zero_le _)
  | n + 1 => by
    have ih := cl_put D iv m n
    refine D.cl (k := 2 * n + 3) sc_put (fun ds d r => by obtain ⟨t, x, rfl, _⟩ := r; rfl) fun c Pt A outer s H vs ds d Q E TB hP hr tG hv r q => ?_
    refine ⟨_, pss_cons (ps_if (pt_val (pe_cl iv (hr.mono (by omega)) rfl (pa_cons (pv 0) pa_nil))) (pss_one (ps_ret (pe_dget2 (hu_of hr) (pv 1) (pv 0) (pv 0) ⟨rfl, rfl, rfl, rfl⟩))) pss_nil)
      (pss_one (ps_ret (pe_tup (pa_cons (pe_ix ix_tup (pv 0) pe_int (fun _ _ => rfl)) (pa_cons (pe_callTy call_tuple_of (by rfl) m (by decide +kernel) (pa_cons
        (pe_lc (own := [("part", 2)]) (g := gName 2) (tt := tYes) rfl sc_put.nd (pi_tup (pe_ix ix_tup (pv 0) pe_int (fun _ _ => rfl))) (blkOk_by (N := ["term", "table", "part"]) (sc := defScope s_put) (by decide +kernel))
          (fun _ _ _ _ _ => pg_name (i := 2) sc_put.nd rfl (Or.inl rfl)) (fun _ _ _ _ _ => pts_nil) (fun _ _ _ _ _ => pe_cl ih (hr.mono (by omega)) rfl (pa_cons (pv 2) (pa_cons (pv 1) pa_nil)))) pa_nil)) pa_nil))))), ?_⟩
    obtain ⟨t, m, rfl, o, hd, rfl⟩ := r
    obtain ⟨v, z, rfl, rv, rz⟩ := arA_two hv
    have v0 : ∀ {H'}, Ext G H H' → Ed G K (tVar 0) [some v, some z, none] H' (enc t) := fun y => ed_var (tG.ext y) rfl (dp_ext y tG rv)
    have v1 : ∀ {H'}, Ext G H H' → EdX G K (tVar 1) [some v, some z, none] H' (.k (encSub m)) := fun y => edx_var (tG.ext y) rfl (ar_ext y tG rz)
    refine s_ifR (edt_val (ed_iv tG o (v0 (Ext.refl G H)))) (fun h H' y => ?_) fun h H' y => ?_
    · refine s_ret (K := K) (ed_dget2 (d := enc (t.put m)) (tG.ext y) (v1 y) (by have := v0 y; rw [enc_v h] at this; exact this) (v0 y) ?_) fun u H2 y2 ru => q u H2 (y.trans y2) ru
      cases t with
      | v x =>
        show ((valD (encSub m) (.inr x)).getD _) = enc ((getS m x).getD (.v x))
        rw [valD_encSub]
        cases getS m x <;> rfl
      | c _ => cases h
      | u _ _ => cases h
      | b _ _ _ => cases h
    · refine s_ret (K := K) (ed_is (ed_tup (tG.ext y) (ed_cons (tG.ext y) (ed_sgn (tG.ext y) h (v0 y)) (ed_one (ed_cb (ed_one (ed_lcP (g := fun p => enc (p.put m)) (tG.ext y) (by have := t.parts_len; omega) (ed_parts (tG.ext y) h (v0 y)) (List.mem_singleton.mpr rfl) (fun p _ => pu_enc _) fun p u H1 hp x1 t1 rp => ?_)) (rdc_tuple (tG.ext y))))) (by show 2 ≤ sizeLine; decide)) (T.put_n h).symm) fun u H2 y2 ru => q u H2 (y.trans y2) ru
      exact ea_call t1 (ea_cons t1 (edx_of (ed_var t1 rfl rp)) (ea_one (edx_var t1 rfl (ar_ext (y.trans x1) tG rz)))) ⟨p, m, rfl, T.ok_parts o hp, by have := T.dp_parts hp; omega, rfl⟩
theorem cl_tower (D : DefF K mg base G "is_tower" s_is_tower ["one", "name"] f fd) (iv : IV P w K mg base G) (m : mg "len" = none) : Cl0 P w K mg base 3 "is_tower" (spA G K R_tower) := by
  refine D.cl (k := 2) sc_is_tower (fun ds d r => by obtain ⟨t, _, rfl, _⟩ := r; rfl) fun c Pt A outer s H vs ds d Q E TB hP hr tG hv r q => ?_
  refine ⟨_, pss_cons (ps_while PassesOwn.never (pt_not (pt_val (pe_cl iv hr rfl (pa_cons (pv 0) pa_nil))))
    (pss_cons (ps_if (pt_cmpR op_ne (pe_callB call_len_seq (by rfl) m PySem.boot_len (pa_cons (pe_ix ix_tup (pv 0) pe_int (fun _ _ => rfl)) pa_nil)) pe_int (nomark _)) (pss_one (ps_ret pe_bl)) pss_nil)
      (pss_one (ps_set (i := 0) sc_is_tower.nd rfl (Or.inl rfl) (pe_ix ix_tup (pe_ix ix_tup (pv 0) pe_int (fun _ _ => rfl)) pe_int (fun _ _ => rfl))))))
    (pss_one (ps_ret (pe_cmpR op_eq (pv 0) (pv 1) (nomark _)))), ?_⟩
  obtain ⟨t, x, rfl, o, rfl⟩ := r
  obtain ⟨v, z, rfl, rv, rz⟩ := arA_two hv
  refine s_whileG (α := T) tG (fun a σ' H' => (∃ u, σ' = [some u, some z] ∧ Dp K H' u (enc a)) ∧ a.okW ∧ a.tower x = t.tower x ∧ Ext G H H') T.size (fun a => !a.isV) t ⟨⟨v, rfl, rv⟩, o, rfl, Ext.refl G H⟩ ?_ ?_ ?_ ?_
  · rintro a σ' H' ⟨⟨u, rfl, ru⟩, oa, _, _⟩ t1
    exact edt_not (edt_val (ed_ivW t1 oa (ed_var t1 rfl ru)))
  · rintro a σ' H' N ⟨⟨u, rfl, ru⟩, oa, ea, _⟩ y hb t1 hN
    have hv : a.isV = false := by simpa using hb
    have u0 : ∀ {H2}, Ext G H' H2 → Ed G K (tVar 0) [some u, some z] H2 (enc a) := fun y => ed_var (t1.ext y) rfl (dp_ext y t1 ru)
    refine s_ifR (edt_test (ed_op t1 (ed_cb (ed_one (ed_parts t1 hv (u0 (Ext.refl G H')))) rdc_len) ed_int rd_neI)) (fun h H2 y2 => ?_) fun h H2 y2 => ?_
    · refine s_ret (K := K) ed_bl fun w H3 y3 rw_ => q w H3 ((y.trans y2).trans y3) ?_
      have e : a.tower x = false := by
        cases a with
        | v _ => cases hv
        | c _ => rfl
        | u s r => simp [T.parts] at h
        | b _ _ _ => rfl
      rw [← ea, e]
      exact rw_
    · cases a with
      | v _ => cases hv
      | c _ => simp [T.parts] at h
      | b _ _ _ => simp [T.parts] at h
      | u s r =>
        refine s_set (K := K) (ed_op (t1.ext y2) (ed_parts (t1.ext y2) hv (u0 y2)) ed_int (rd_ixT (d := enc r) (by decide) rfl)) fun w H3 y3 rw_ => ?_
        exact hN r _ H3 (y2.trans y3) ⟨⟨w, rfl, rw_⟩, oa, ea, (y.trans y2).trans y3⟩ (Nat.lt_succ_self _)
  · rintro a σ' H1 H2 y t1 ⟨⟨u, e, ru⟩, oa, ea, y0⟩
    exact ⟨⟨u, e, dp_ext y t1 ru⟩, oa, ea, y0.trans y⟩
  · rintro a σ' H' y ⟨⟨u, rfl, ru⟩, oa, ea, _⟩ hb
    have t1 := tG.ext y
    cases a with
    | v p =>
      refine s_ret (K := K) (ed_op t1 (ed_var t1 rfl (show Dp K H' u (.str p) from ru)) (ed_var t1 rfl (dp_ext y tG (show Dp K H z (.str x) from rz))) rd_eqS) fun w H3 y3 rw_ => q w H3 (y.trans y3) ?_
      rw [← ea]
      exact rw_
    | c _ => cases hb
    | b _ _ _ => cases hb
    | u s r => cases hb
end
end Rh
set_option Elab.async false
set_option linter.all false
set_option maxRecDepth 100000
set_option maxHeartbeats 2000000
namespace Dl
open PySem PySem.Spec PyProof.Rows L2 GxR Gx
def addS (zs : List Str) (x : Str) : List Str := if x ∈ zs then zs else zs ++ [x]
def ddS (ns : List Str) : List Str := ns.foldl addS []
def mkT (zs : List Str) : List (Key × V) := zs.map fun x => ((Sum.inr x : Key), V.bl true)
theorem valV_mkT (zs : List Str) (x : Str) : valV (mkT zs) (.inr x) = if x ∈ zs then some (V.bl true) else none := by
  induction zs with
  | nil => rfl
  | cons y r ih =>
    show valV ((Sum.inr y, V.bl true) :: mkT r) (.inr x) = _
    by_cases h : y = x
    · subst h
      rw [valV_pos rfl]
      simp
    · rw [valV_neg (fun z => h (by injection z)), ih]
      have h' : ¬ x = y := fun z => h z.symm
      simp [h']
theorem putK_mkT (zs : List Str) (x : Str) : putK (mkT zs) (.inr x) (.bl true) = mkT (addS zs x) := by
  unfold addS
  by_cases h : x ∈ zs
  · rw [if_pos h]
    have e : (mkT zs).any (fun kv => decide (kv.1 = (Sum.inr x : Key))) = true := by
      rw [valV_any, valV_mkT, if_pos h]
      rfl
    unfold putK
    rw [if_pos e]
    unfold mkT
    rw [List.map_map]
    refine List.map_congr_left fun y _ => ?_
    show (if (Sum.inr y : Key) = Sum.inr x then (Sum.inr y, V.bl true) else (Sum.inr y, V.bl true)) = _
    split <;> rfl
  · rw [if_neg h, putK_new _ (by rw [valV_mkT, if_neg h])]
    unfold mkT
    rw [List.map_append]
    rfl
theorem addS_len (zs : List Str) (x : Str) : (addS zs x).length ≤ zs.length + 1 := by
  unfold addS
  split
  · omega
  · simp
theorem foldS_len : ∀ (ns zs : List Str), (ns.foldl addS zs).length ≤ zs.length + ns.length
  | [], zs => by simp
  | x :: r, zs => by
    have a := foldS_len r (addS zs x)
    have b := addS_len zs x
    simp only [List.foldl_cons, List.length_cons]
    omega
theorem addS_mem {zs : List Str} {x y : Str} : y ∈ addS zs x ↔ y ∈ zs ∨ y = x := by
  unfold addS
  split
  · refine ⟨.inl, fun h => ?_⟩
    rcases h with h | h
    · exact h
    · subst h; assumption
  · simp
theorem foldS_mem {y : Str} : ∀ (ns zs : List Str), y ∈ ns.foldl addS zs ↔ y ∈ zs ∨ y ∈ ns
  | [], zs => by simp
  | x :: r, zs => by
    rw [List.foldl_cons, foldS_mem r, addS_mem, List.mem_cons]
    constructor
    · rintro ((h | h) | h)
      · exact .inl h
      · exact .inr (.inl h)
      · exact .inr (.inr h)
    · rintro (h | h | h)
      · exact .inl (.inl h)
      · exact .inl (.inr h)
      · exact .inr h
theorem ddS_mem {ns : List Str} {y : Str} : y ∈ ddS ns ↔ y ∈ ns := by
  unfold ddS
  rw [foldS_mem]
  simp
theorem ddS_len (ns : List Str) : (ddS ns).length ≤ ns.length := by
  have h := foldS_len ns []
  unfold ddS
  simpa using h
theorem flat_take {ds : List PyData} {ks : PyData → List Str} {i : Nat} {d : PyData} (h : ds[i]? = some d) : (ds.take (i + 1)).flatMap ks = (ds.take i).flatMap ks ++ ks d := by
  rw [take_snoc h, List.flatMap_append]
  simp
section
variable {G : List Addr} {K : PySem.W.Frag} {σ : L2.St} {H H' : Hp} {ta tb tc te te1 : TE} {tA : TA} {d e f : PyData} {ds es : List PyData}
theorem dkR_mkT : ∀ zs : List Str, DkR K H (mkT zs) (zs.map fun x => ((Sum.inr x : Key), PyData.bool true))
  | [] => .nil
  | _ :: r => .cons (.bl true) (dkR_mkT r)
/-- {x: True for d in t for x in u} -/
theorem edx_dc2 {i j : Nat} {vs vs1 : List Nat} {ks : PyData → List Str} (tG : TabsG G H) (hl : (ds.flatMap ks).length < sizeLine) (h : Ed G K te σ H (.tuple ds)) (hi : i ∈ vs) (hj : j ∈ vs1) (hjl : j < σ.length)
    (hb : ∀ d v H1, d ∈ ds → Ext G H H1 → TabsG G H1 → Dp K H1 v d → Ed G K te1 ((wipe σ vs).set i (some v)) H1 (.tuple ((ks d).map PyData.str))) :
    EdX G K (tDc2 (iTup K te) (gName i) tYes (iTup K te1) (gName j) tYes (tVar j) (tC (.bl true)) vs vs1) σ H (.k ((ddS (ds.flatMap ks)).map fun x => ((Sum.inr x : Key), PyData.bool true))) := fun H1 x Q q =>
  h H1 x _ fun v H2 x2 rv => by
    obtain ⟨a, xs, rfl, hs, hr⟩ := dp_tup rv
    have len := dpA_len hr
    have t2 := (tG.ext x).ext x2
    refine ⟨a, rfl, ⟨xs, hs⟩, fun D hD => ?_⟩
    refine ⟨fun k m Hk => m = xs.length - k ∧ k ≤ xs.length ∧ Ext G H2 Hk ∧ Hk D = some (.dK (mkT (ddS ((ds.take k).flatMap ks)))), ⟨xs.length, rfl, Nat.zero_le _, Ext.new hD, by rw [List.take_zero]; exact upd_same⟩, ?_⟩
    rintro k m Hk ⟨rfl, hk, y1, e1⟩
    have qk : SqT K Hk a xs := y1.sqT t2 hs
    by_cases hlt : k < xs.length
    · refine .inr ⟨⟨xs, xs[k], qk, by simp [hlt]⟩, fun H' => Ext G H2 H' ∧ H' D = some (.dK (mkT (ddS ((ds.take (k + 1)).flatMap ks)))), fun H' z => ⟨xs.length - (k + 1), by omega, rfl, hlt, z.1, z.2⟩, fun y H' hy => ?_⟩
      obtain ⟨e, hy⟩ := hy
      subst e
      have hk' := hy xs qk
      obtain ⟨d, hd', rd⟩ := dpA_getV hr hk'
      have tk := t2.ext y1
      refine ⟨wipe_set σ vs i (some y) hi, ?_⟩
      dsimp only [tYes]
      refine iteT ?_
      refine hb d y _ (List.mem_of_getElem? hd') ((x.trans x2).trans y1) tk (dp_ext y1 t2 rd) _ (Ext.refl G _) _ fun w H4 y4 rw_ => ?_
      obtain ⟨b, ys, rfl, hsb, hrb⟩ := dp_tup rw_
      have e4 : H4 D = some (.dK (mkT (ddS ((ds.take k).flatMap ks)))) := y4.at tk e1 (fun ps z => by cases z)
      have lenb := dpA_len hrb
      rw [List.length_map] at lenb
      have lb : ((ds.take k).flatMap ks ++ ks d).length < sizeLine := by
        rw [← flat_take hd']
        refine Nat.lt_of_le_of_lt ?_ hl
        conv => rhs; rw [← List.take_append_drop (k + 1) ds, List.flatMap_append, List.length_append]
        exact Nat.le_add_right _ _
      refine ⟨b, rfl, ⟨ys, hsb⟩, ?_⟩
      refine ⟨fun l m Hl => m = ys.length - l ∧ l ≤ ys.length ∧ Ext G H2 Hl ∧ SqT K Hl b ys ∧ Hl D = some (.dK (mkT (ddS ((ds.take k).flatMap ks ++ (ks d).take l)))), ⟨ys.length, rfl, Nat.zero_le _, y1.trans y4, hsb, by rw [List.take_zero, List.append_nil]; exact e4⟩, ?_⟩
      rintro l m Hl ⟨rfl, hl', z1, z2, z3⟩
      by_cases hlt2 : l < ys.length
      · refine .inr ⟨⟨ys, ys[l], z2, by simp [hlt2]⟩, fun H' => Ext G H2 H' ∧ SqT K H' b ys ∧ H' D = some (.dK (mkT (ddS ((ds.take k).flatMap ks ++ (ks d).take (l + 1))))), fun H' z => ⟨ys.length - (l + 1), by omega, rfl, hlt2, z.1, z.2.1, z.2.2⟩, fun u H' hu => ?_⟩
        obtain ⟨e, hu⟩ := hu
        subst e
        have hu' := hu ys z2
        obtain ⟨d2, hd2, rd2⟩ := dpA_getV hrb hu'
        rw [List.getElem?_map] at hd2
        obtain ⟨c, hc, rfl⟩ := Option.map_eq_some_iff.mp hd2
        rw [dp_str rd2]
        refine ⟨wipe_set _ vs1 j (some (.str c)) hj, ?_⟩
        dsimp only [tYes]
        refine iteT ?_
        refine ⟨.str c, ?_, mkT (ddS ((ds.take k).flatMap ks ++ (ks d).take l)), .inr c, rfl, z3, ?_, ?_, ?_, ?_⟩
        · rw [List.getElem?_set]
          rw [if_pos rfl, if_pos]
          rw [wipe_length, List.length_set, wipe_length]
          exact hjl
        · unfold mkT
          rw [List.length_map]
          refine Nat.lt_of_le_of_lt (ddS_len _) (Nat.lt_of_le_of_lt ?_ lb)
          rw [List.length_append, List.length_append]
          have := List.length_take_le l (ks d)
          omega
        · exact z1.mut hD z3 (fun ps z => by cases z)
        · exact sqT_updD z3 z2
        · rw [upd_same, putK_mkT, take_snoc hc, ← List.append_assoc]
          unfold ddS
          rw [List.foldl_append (l' := [c])]
          rfl
      · have e : l = (ks d).length := by omega
        subst e
        refine .inl ⟨⟨ys, z2, by omega⟩, z1, ?_⟩
        rw [List.take_length] at z3
        rw [flat_take hd']
        exact z3
    · have e : k = ds.length := by omega
      subst e
      refine .inl ⟨⟨xs, qk, by omega⟩, q _ Hk (x2.trans y1) ⟨D, _, rfl, e1, ?_⟩⟩
      rw [List.take_length]
      exact dkR_mkT _
end
/-! sorted texts -/
theorem cps_ext {x y : Str} (h : x.cps.toList = y.cps.toList) : x = y := Str.ext' (Array.toList_inj.mp h)
def leS (a b : Str) : Bool := !ltCps b.cps.toList a.cps.toList
theorem leS_iff {a b : Str} : leS a b = true ↔ a.cps.toList ≤ b.cps.toList := by
  unfold leS
  rw [ltCps_eq, Bool.not_eq_true', decide_eq_false_iff_not]
  exact Iff.rfl
theorem leS_trans (a b c : Str) (h1 : leS a b = true) (h2 : leS b c = true) : leS a c = true := leS_iff.mpr (List.le_trans (leS_iff.mp h1) (leS_iff.mp h2))
theorem leS_total (a b : Str) : (leS a b || leS b a) = true := by
  rcases List.le_total a.cps.toList b.cps.toList with h | h
  · rw [leS_iff.mpr h]; rfl
  · rw [leS_iff.mpr h, Bool.or_true]
theorem leS_anti {a b : Str} (h1 : leS a b = true) (h2 : leS b a = true) : a = b := cps_ext (List.le_antisymm (leS_iff.mp h1) (leS_iff.mp h2))
def srtS (ks : List Str) : List Str := ks.mergeSort leS
theorem risingS_pw : ∀ (l : List Str) (p : Str), risingS p l = true → (p :: l).Pairwise (fun a b => leS a b = true)
  | [], p, _ => List.pairwise_singleton _ _
  | x :: r, p, h => by
    rw [risingS, Bool.and_eq_true] at h
    have ih := risingS_pw r x h.2
    have hx : leS p x = true := h.1
    refine List.pairwise_cons.mpr ⟨fun y hy => ?_, ih⟩
    rcases List.mem_cons.mp hy with e | hy
    · rw [e]; exact hx
    · exact leS_trans p x y hx ((List.pairwise_cons.mp ih).1 y hy)
theorem sortedS_pw : ∀ l : List Str, sortedS l = true → l.Pairwise (fun a b => leS a b = true)
  | [], _ => .nil
  | x :: r, h => risingS_pw r x h
theorem sorted_is {ys ks : List Str} (p : ys.Perm ks) (h : sortedS ys = true) : ys = srtS ks :=
  List.Perm.eq_of_pairwise (le := fun a b => leS a b = true) (fun a b _ _ h1 h2 => leS_anti h1 h2) (sortedS_pw ys h) (List.pairwise_mergeSort leS_trans leS_total ks) (p.trans (List.mergeSort_perm ks leS).symm)
theorem srtS_mem {ks : List Str} {x : Str} : x ∈ srtS ks ↔ x ∈ ks := (List.mergeSort_perm ks leS).mem_iff
theorem srtS_len {ks : List Str} : (srtS ks).length = ks.length := (List.mergeSort_perm ks leS).length_eq
theorem dpA_strs {K : PySem.W.Frag} {H : Hp} : ∀ ys : List Str, DpAll K H (ys.map V.str) (ys.map PyData.str)
  | [] => .nil
  | _ :: r => .cons (.str _) (dpA_strs r)
theorem dkR_keys {K : PySem.W.Frag} {H : Hp} : ∀ {kvs : List (Key × V)} {es : List (Key × PyData)}, DkR K H kvs es → kvs.map (·.1) = es.map (·.1)
  | _, _, .nil => rfl
  | _, _, .cons _ r => by rw [List.map_cons, List.map_cons, dkR_keys r]
/-- sorted(d), d a dict of texts -/
theorem ed_sortedD {G : List Addr} {K : PySem.W.Frag} {σ : L2.St} {H : Hp} {te : TE} {zs : List Str} {c : Str → PyData} (tG : TabsG G H) (h64 : zs.length < 64) (h : EdX G K te σ H (.k (zs.map fun x => ((Sum.inr x : Key), c x)))) :
    Ed G K (tCB (fun xs H Q => ∃ (a : Addr) (kvs : List (Key × V)) (ks : List Str), xs = [.ref a] ∧ Rd H a (.dK kvs) ∧ kvs.map (·.1) = ks.map Sum.inr ∧ ks.length < 64 ∧ ∀ ys p, ys.Perm ks → sortedS ys = true → H p = none → Q (.ref p) (upd H p (.lst (ys.map V.str)))) (tCons te tNil)) σ H (.list ((srtS zs).map PyData.str)) := fun H1 x Q q =>
  h H1 x _ fun v H2 x2 rv => by
    obtain ⟨a, kvs, rfl, ha, r⟩ := rv
    refine ⟨a, kvs, zs, rfl, .inl ha, by rw [dkR_keys r, List.map_map]; rfl, h64, fun ys p hp hs hn => ?_⟩
    rw [sorted_is hp hs]
    exact q _ _ (x2.trans (Ext.new hn)) (dp_newL hn ((tG.ext x).ext x2) (dpA_strs _))
end Dl
set_option Elab.async false
set_option linter.all false
set_option maxRecDepth 100000
set_option maxHeartbeats 2000000
/-! for i, x in enumerate(t), t a tuple -/
namespace Gx
open PySem PySem.Spec PyProof.Rows L2 GxR
set_option maxHeartbeats 1000000 in
theorem meets_enumerate_B1 {v : Value} {o : Obj} {H : Heap → Prop} (B : Begins v o H) :
    Meets (Builtin.«enumerate.__new__» ⟨[.type "enumerate", v], []⟩) (fun _ R s => H s.heap ∧
      R (.ok (.ret (.ref (s.heap.push o).objs.size))) { s with heap := (s.heap.push o).push { cls := .type "enumerate", data := .fields #[.none, .bool false, .ref s.heap.objs.size, rawInt 0, .none, .none] } }) :=
  .of_wp fun prog w A R s h => by
    obtain ⟨hp, g, d, tk, os⟩ := s; obtain ⟨h1, h⟩ := h
    have hsub := sub_enumerate
    have q1 : ∀ {A' : Around} {E : Value → Shared → Prop} {Q : Value → Shared → Prop}, Q (.ref hp.objs.size) ⟨hp.push o, g, d, tk, os⟩ → wpAny (model prog w) A' (pyIter v) Q E ⟨hp, g, d, tk, os⟩ :=
      fun q => B.iter prog w _ _ ⟨hp, g, d, tk, os⟩ _ h1 q
    wp_walk using q1
    refine wpAny_stack_any fun st => wpAny_pure ?_
    split
    · rename_i c _ _ _ _ _
      cases (c == Value.type "enumerate")
      · wp_walk using q1
        exact ⟨_, rfl, h⟩
      · wp_walk using q1
        exact ⟨_, rfl, h⟩
    · wp_walk using q1
      exact ⟨_, rfl, h⟩
theorem call_enumerate_tup {prog : Program} {w : World} {A : Around} {E : Value → Shared → Prop} {s : Shared} {t : Addr} {items : Array Value} {Q : Value → Shared → Prop} (hT : s.heap.IsTuple t items)
    (h : ∀ h', IsEnum h' (s.heap.objs.size + 1) s.heap.objs.size 0 .none → h'.IsTupleIter s.heap.objs.size t 0 → h'.objs.size = s.heap.objs.size + 2 →
      (∀ b o, s.heap.get? b = some o → h'.get? b = some o) → Q (.ref (s.heap.objs.size + 1)) { s with heap := h' }) :
    wpAny (model prog w) A (call (.type "enumerate") [.ref t]) Q E s := by
  refine callType_new F.called_enumerate (by decide) (F.typeCall_enumerate_1 _) (F.newCall_enumerate_1 _) (fun obj => F.args_object_init_2 obj _) F.entry_enumerate_new
    (meets_enumerate_B1 (begins_tuple t items)) ⟨hT, ?_⟩
  have hz : (s.heap.push { cls := .type "tuple_iterator", data := .fields #[.ref t, .int 0 0] }).objs.size = s.heap.objs.size + 1 := Heap.size_push ..
  show _ ∧ _
  rw [hz]
  have he : IsEnum ((s.heap.push { cls := .type "tuple_iterator", data := .fields #[.ref t, .int 0 0] }).push
      { cls := .type "enumerate", data := .fields #[.none, .bool false, .ref s.heap.objs.size, rawInt 0, .none, .none] }) (s.heap.objs.size + 1) s.heap.objs.size 0 .none := by
    have := Heap.get?_push_size (s.heap.push { cls := .type "tuple_iterator", data := .fields #[.ref t, .int 0 0] })
      (o := { cls := .type "enumerate", data := .fields #[.none, .bool false, .ref s.heap.objs.size, rawInt 0, .none, .none] }) rfl
    rw [hz] at this; exact this
  refine ⟨⟨_, he, rfl⟩, h _ he ⟨_, Heap.get?_push_of_some _ (Heap.get?_push_size _ rfl), rfl, rfl⟩ (by rw [Heap.size_push, hz]) fun b o x => Heap.get?_push_of_some _ (Heap.get?_push_of_some _ x)⟩
def IteT (K : PySem.W.Frag) (a : Addr) : It :=
  ⟨fun i H => ∃ (xs : List V) (x : V), SqT K H a xs ∧ xs[i]? = some x, fun i H v H' => ∃ T x, v = .ref T ∧ H T = none ∧ H' = upd H T (.tup [.int (i : Nat), x]) ∧ ∀ xs, SqT K H a xs → xs[i]? = some x, fun i H => ∃ xs : List V, SqT K H a xs ∧ xs.length = i⟩
theorem isTuple_of {h : Heap} {a : Addr} {its : Array Value} (t : IsTup h a its) : h.IsTuple a its := by
  obtain ⟨o, e, c, n, d⟩ := t
  exact ⟨o, e, c, n, d⟩
theorem turn_enumT {P : Program} {w : World} {K : PySem.W.Frag} {elts : List Expr} {kk : Nat} {tpos : Pos} (a e it : Addr) :
    Turn P w K (.Tuple elts kk tpos) (IteT K a) [e, it] e (fun i h => (∃ old, IsEnum h e it ((i : Nat) : Int) old) ∧ h.IsTupleIter it a i ∧ e ≠ it) where
  mem := by simp
  obj := fun i h st b hb => by
    obtain ⟨⟨old, he⟩, ⟨o, ho, hc, hd⟩, _⟩ := st
    have e' : b = e ∨ b = it := by simpa using hb
    rcases e' with z | z
    · rw [z]; exact ⟨_, he, fun v q => nomatch q⟩
    · rw [z]; exact ⟨o, ho, fun v q => by rw [hd] at q; cases q⟩
  keep := fun i h h' st k => let ⟨⟨old, he⟩, hi, hne⟩ := st; ⟨⟨old, k e (by simp) _ he⟩, hi.at fun o q => k it (by simp) o q, hne⟩
  item := by
    intro X hP hw hK hc i pins s σ H E I hf st hg
    subst hP hw hK
    obtain ⟨⟨old, he⟩, hit, hne⟩ := st
    obtain ⟨xs, x, hq, hx⟩ := hg
    obtain ⟨its, rv, p, hz⟩ := I.tuple hq
    obtain ⟨u, hu, ru⟩ := rv.get hx
    have hel : e < s.heap.objs.size := Heap.lt_size he
    have hil : it < s.heap.objs.size := by obtain ⟨_, q, _⟩ := hit; exact Heap.lt_size q
    have hT := isTuple_of p
    have hei : e ∉ [it, a] := by
      intro hm
      rcases List.mem_cons.mp hm with z | hm
      · exact hne z
      · have z := List.mem_singleton.mp hm
        obtain ⟨o, ho, hc2, _⟩ := hT
        rw [← z, he] at ho
        cases ho
        injection hc2 with hc2
        exact absurd hc2 (by decide)
    have hai : a ≠ it := by
      intro z
      obtain ⟨o, ho, hc2, _⟩ := hT
      obtain ⟨o', ho', hc3, _⟩ := hit
      rw [z, ho'] at ho
      cases ho
      rw [hc3] at hc2
      injection hc2 with hc2
      exact absurd hc2 (by decide)
    have lt : i < its.toArray.size := by
      have := (List.getElem?_eq_some_iff.mp hu).1
      simpa using this
    refine wpAny_pyNext_enum_itemD (Draws.tuple (show X.A.in1.handled = none from I.ok.hd hc) it a hai its.toArray) he ⟨hit, hT⟩ lt hne hei fun y h' tk hy ho hit' hT' hsz hk => ?_
    have ey : y = u := by
      have h1 : its.toArray[i]? = some y := hy
      rw [List.getElem?_toArray, hu] at h1
      exact (Option.some.inj h1).symm
    subst ey
    refine ⟨_, rfl, wpAny_letOwnedTupleGo_enum (s := { s with heap := h', toks := tk + 1 }) ho fun h'' he' sb => ?_⟩
    have hT2 : h''.get? s.heap.objs.size = some { cls := .type "tuple", data := .seq #[.int i tk, y] } := (sb.2 _ (Nat.ne_of_gt hel)).trans hT'
    have new : ObjOk X.prog X.w (upd H s.heap.objs.size (.tup [.int (i : Nat), x])) h'' s.heap.objs.size (.tup [.int (i : Nat), x]) :=
      ⟨by show 2 ≤ sizeLine; decide, [.int i tk, y], .cons ⟨_, rfl⟩ (.cons ru .nil), ⟨_, hT2, rfl, _, rfl⟩⟩
    have I1 : Inv X pins σ (upd H s.heap.objs.size (.tup [.int (i : Nat), x])) { s with heap := h'', toks := tk + 1 } :=
      I.turnedNew (ch := [e, it]) (fun b ob hb q => (sb.2 b (fun z => hb (by simp [z]))).trans (hk b ob (fun z => hb (by simp [z])) (fun z => hb (by simp [z])) q)) hf (Nat.le_refl _) new
    refine ⟨.ref s.heap.objs.size, _, I1, rfl, ⟨_, x, rfl, I.hok.fresh (Nat.le_refl _), rfl, fun ys hy => by rw [I.tuple_inj hy hq]; exact hx⟩, ⟨⟨y, ?_⟩, hit'.1.at fun o q => (sb.2 it (Ne.symm hne)).trans q, hne⟩, fun b hb => ?_⟩
    · have e1 : ((i + 1 : Nat) : Int) = (i : Int) + 1 := by omega
      rw [e1]; exact he'
    · have hb' : b < s.heap.objs.size := by
        have e' : b = e ∨ b = it := by simpa using hb
        rcases e' with z | z
        · rw [z]; exact hel
        · rw [z]; exact hil
      rw [upd_ne (Nat.ne_of_lt hb')]
      exact (hf b hb).1
  done := by
    intro X hP hw hK hc i pins s σ H E I hf st hg
    subst hP hw hK
    obtain ⟨⟨old, he⟩, hit, hne⟩ := st
    obtain ⟨xs, hq, hx⟩ := hg
    obtain ⟨its, rv, p, hz⟩ := I.tuple hq
    obtain ⟨f0, f1, f2, f3, f4, f5⟩ := hf it (by simp)
    have hl := rv.length
    have hT := isTuple_of p
    have hai : a ≠ it := by
      intro z
      obtain ⟨o, ho, hc2, _⟩ := hT
      obtain ⟨o', ho', hc3, _⟩ := hit
      rw [z, ho'] at ho
      cases ho
      rw [hc3] at hc2
      injection hc2 with hc2
      exact absurd hc2 (by decide)
    have e2 : its.toArray.size = i := by rw [List.size_toArray, ← hl]; exact hx
    exact wpAny_pyNext_enum_endD (Draws.tuple (show X.A.in1.handled = none from I.ok.hd hc) it a hai its.toArray) he ⟨by rw [e2]; exact hit, hT⟩ fun h' eb => ⟨rfl, I.turned (t' := s.toks) (fun b o hb q => eb b o hb q) f0 f1 f3 f4 f5⟩
  self := fun A i s Q E st h => let ⟨⟨_, he⟩, _⟩ := st; wpAny_pyIter_enum he h
def iEnumT (K : PySem.W.Frag) (ta : TA) : TI := fun σ H R => ta σ H fun vs H1 => ∃ a xs, vs = [.ref a] ∧ SqT K H1 a xs ∧ R (IteT K a) H1
theorem pi_enumT {X : Cx} {e : Expr} {ta : TA} {p pos tpos : Pos} {elts : List Expr} {kk : Nat} (hg : Gl X "enumerate") (hm : X.mg "enumerate" = none) (ha : PA X [e] ta) (hs : starEach [e] X.env = [(false, eval e X.env)] := by rfl) :
    PI X (.Tuple elts kk tpos) (.Call (.Name "enumerate" p) [e] [] pos) (iEnumT X.K ta) := by
  refine ⟨fun pins s σ H R I h => ?_⟩
  refine Call_ (ld_blt I hg hm boot_enumerate (PyProof.Rows.callWith_type1 (thn (ha.run pos pins s σ H _ I h) fun us s1 ⟨vs, H1, I1, r1, q1⟩ => ?_) hs rfl))
  obtain ⟨a, xs, ex, hq, q⟩ := q1
  subst ex
  cases r1 with
  | cons r rr =>
    cases rr
    cases r
    obtain ⟨its, rv, p', hz⟩ := I1.tuple hq
    refine call_enumerate_tup (isTuple_of p') fun h' he hit hsz hk => wpAny_pyIter_enum he ?_
    have I2 : Inv X pins σ H1 { s1 with heap := h' } := I1.kept (t' := s1.toks) hk
    refine ⟨s1.heap.objs.size + 1, [s1.heap.objs.size + 1, s1.heap.objs.size], _, _, H1, rfl, I2, turn_enumT a (s1.heap.objs.size + 1) s1.heap.objs.size, ⟨⟨.none, he⟩, hit, Nat.succ_ne_self _⟩, fun b hb => ?_, q⟩
    have e' : b = s1.heap.objs.size + 1 ∨ b = s1.heap.objs.size := by simpa using hb
    have hle : s1.heap.objs.size ≤ b := by
      rcases e' with z | z
      · rw [z]; exact Nat.le_add_right _ _
      · rw [z]; exact Nat.le_refl _
    exact I1.fpOk hle (I1.hok.fresh hle)
end Gx
set_option Elab.async false
set_option linter.all false
set_option maxRecDepth 100000
set_option maxHeartbeats 2000000
namespace Dl
open PySem PySem.Spec PyProof.Rows L2 GxR Gx
section
variable {G : List Addr} {K : PySem.W.Frag} {σ : L2.St} {H H' : Hp} {ta tb tc te te1 : TE} {tA : TA} {d e f : PyData} {ds es : List PyData}
/-- for x in t; the invariant sees the heap -/
theorem s_forTH {tb : TS} {D : Ends} {g : TG} (tG : TabsG G H) (h : Ed G K te σ H (.tuple ds)) (Pv : Nat → L2.St → Hp → Prop) (h0 : ∀ H1, Ext G H H1 → Pv 0 σ H1)
    (hs : ∀ i d v σ' H' (N : L2.St → Hp → Prop), ds[i]? = some d → Pv i σ' H' → Ext G H H' → Dp K H' v d → TabsG G H' → (∀ σ2 H2, Ext G H' H2 → Pv (i + 1) σ2 H2 → N σ2 H2) → g v σ' H' fun σ2 H2 => tb { D with nx := N, ct := N, bk := D.nx } σ2 H2)
    (hd : ∀ σ' H', Ext G H H' → Pv ds.length σ' H' → D.nx σ' H') : tFor (iTup K te) g tb D σ H := h H (Ext.refl G H) _ fun v H2 x2 rv => by
  obtain ⟨a, xs, rfl, q, r⟩ := dp_tup rv
  have t2 := tG.ext x2
  have len := dpA_len r
  refine ⟨a, rfl, ⟨xs, q⟩, for_tup (a := a) (xs := xs) (fun i σ' H' => Pv i σ' H' ∧ Ext G H2 H') ⟨h0 H2 x2, Ext.refl G H2⟩ (fun i σ' H' _ p => p.2.sqT t2 q) (fun i x σ' H' hx p => ?_) (fun σ' H' p => hd σ' H' (x2.trans p.2) (by rw [← len]; exact p.1))⟩
  obtain ⟨d, hd', rd⟩ := dpA_getV r hx
  exact hs i d x σ' H' _ hd' p.1 (x2.trans p.2) (dp_ext p.2 t2 rd) (t2.ext p.2) fun σ2 H3 y w => ⟨w, p.2.trans y⟩
end
def flatE (f : Nat → PyData → List PyData) : Nat → List PyData → List PyData
  | _, [] => []
  | i, d :: r => f i d ++ flatE f (i + 1) r
theorem flatE_take (f : Nat → PyData → List PyData) : ∀ (ds : List PyData) (o n : Nat) (d : PyData), ds[n]? = some d → flatE f o (ds.take (n + 1)) = flatE f o (ds.take n) ++ f (o + n) d
  | [], _, n, _, h => by simp at h
  | x :: r, o, 0, d, h => by
    have e := Option.some.inj h
    subst e
    simp [flatE]
  | x :: r, o, n + 1, d, h => by
    have ih := flatE_take f r (o + 1) n d h
    rw [List.take_succ_cons, List.take_succ_cons, flatE, flatE, ih, List.append_assoc, show o + 1 + n = o + (n + 1) by omega]
theorem flatE_le (f : Nat → PyData → List PyData) : ∀ (ds : List PyData) (o n : Nat), (flatE f o (ds.take n)).length ≤ (flatE f o ds).length
  | [], _, n => by simp
  | x :: r, o, 0 => by simp [flatE]
  | x :: r, o, n + 1 => by
    rw [List.take_succ_cons, flatE, flatE, List.length_append, List.length_append]
    exact Nat.add_le_add_left (flatE_le f r (o + 1) n) _
theorem flatE_mem (f : Nat → PyData → List PyData) : ∀ (ds : List PyData) (o : Nat) (z : PyData), z ∈ flatE f o ds → ∃ n d, ds[n]? = some d ∧ z ∈ f (o + n) d
  | [], _, z, h => by simp [flatE] at h
  | x :: r, o, z, h => by
    rw [flatE, List.mem_append] at h
    rcases h with h | h
    · exact ⟨0, x, rfl, h⟩
    · obtain ⟨n, d, h1, h2⟩ := flatE_mem f r (o + 1) z h
      exact ⟨n + 1, d, h1, by rw [show o + (n + 1) = o + 1 + n by omega]; exact h2⟩
theorem wipe_setG (σ : L2.St) (vs : List Nat) (i : Nat) (x : Option V) (hi : i ∈ vs) : wipe (σ.set i x) vs = wipe σ vs := by
  apply List.ext_getElem?
  intro k
  rw [wipe_at, wipe_at, List.length_set]
  by_cases hk : k ∈ vs ∧ k < σ.length
  · rw [if_pos hk, if_pos hk]
  · rw [if_neg hk, if_neg hk, List.getElem?_set]
    by_cases e : i = k
    · subst e
      have : ¬ i < σ.length := fun z => hk ⟨hi, z⟩
      simp [this]
    · rw [if_neg e]
section
variable {G : List Addr} {K : PySem.W.Frag} {σ : L2.St} {H H' : Hp} {ta tb tc te te1 : TE} {tA : TA} {d e f : PyData} {ds es : List PyData}
/-- [e for i, x in enumerate(t) for y in u] -/
theorem ed_lc2E {i j k : Nat} {vs vs1 : List Nat} {ks : Nat → PyData → List PyData} {g : Nat → PyData → PyData → PyData} (tG : TabsG G H) (hl : (flatE (fun n d => (ks n d).map (g n d)) 0 ds).length < sizeLine)
    (h : Ed G K te σ H (.tuple ds)) (hi : i ∈ vs) (hj : j ∈ vs) (hk : k ∈ vs1) (hp : ∀ n d e, ds[n]? = some d → e ∈ ks n d → Pu e = true ∧ Pu (g n d e) = true)
    (hb : ∀ (n : Nat) d v H1, ds[n]? = some d → Ext G H H1 → TabsG G H1 → Dp K H1 v d → Ed G K te1 (((wipe σ vs).set i (some (.int n))).set j (some v)) H1 (.tuple (ks n d)))
    (he : ∀ (n : Nat) d e v w H1, ds[n]? = some d → e ∈ ks n d → Ext G H H1 → TabsG G H1 → Dp K H1 v d → Dp K H1 w e → Ed G K tc ((wipe (((wipe σ vs).set i (some (.int n))).set j (some v)) vs1).set k (some w)) H1 (g n d e)) :
    Ed G K (tLc2 (iEnumT K (tCons te tNil)) (gTup K 2 (gCons (gName i) (gCons (gName j) gNil))) tYes (iTup K te1) (gName k) tYes tc vs vs1) σ H (.list (flatE (fun n d => (ks n d).map (g n d)) 0 ds)) := fun H1 x Q q =>
  h H1 x _ fun v H2 x2 rv => by
    obtain ⟨a, xs, rfl, hs, hr⟩ := dp_tup rv
    have len := dpA_len hr
    have t2 := (tG.ext x).ext x2
    refine ⟨a, xs, rfl, hs, fun D hD => ?_⟩
    refine ⟨fun n m Hk => m = xs.length - n ∧ n ≤ xs.length ∧ Ext G H2 Hk ∧ ∃ acc, Hk D = some (.lst acc) ∧ DpAll K Hk acc (flatE (fun n d => (ks n d).map (g n d)) 0 (ds.take n)), ⟨xs.length, rfl, Nat.zero_le _, Ext.new hD, [], upd_same, by rw [List.take_zero]; exact .nil⟩, ?_⟩
    rintro n m Hk ⟨rfl, hn, y1, acc, e1, r1⟩
    have qk : SqT K Hk a xs := y1.sqT t2 hs
    have tk := t2.ext y1
    by_cases hlt : n < xs.length
    · refine .inr ⟨⟨xs, xs[n], qk, by simp [hlt]⟩, fun H' => Ext G H2 H' ∧ ∃ acc, H' D = some (.lst acc) ∧ DpAll K H' acc (flatE (fun n d => (ks n d).map (g n d)) 0 (ds.take (n + 1))), fun H' z => ⟨xs.length - (n + 1), by omega, rfl, hlt, z.1, z.2⟩, fun y H' hy => ?_⟩
      obtain ⟨T, y, rfl, hT, rfl, hy⟩ := hy
      have hk' := hy xs qk
      obtain ⟨d, hd', rd⟩ := dpA_getV hr hk'
      have xT : Ext G Hk (upd Hk T (.tup [.int n, y])) := Ext.new hT
      refine ⟨T, [.int n, y], rfl, .inl (.inl upd_same), rfl, .int n, [y], rfl, y, [], rfl, rfl, ?_⟩
      refine ⟨by rw [wipe_setG _ _ _ _ hj, wipe_setG _ _ _ _ hi, wipe_wipe], ?_⟩
      dsimp only [tYes]
      refine iteT ?_
      have tT := tk.ext xT
      refine hb n d y _ hd' ((x.trans x2).trans (y1.trans xT)) tT (dp_ext (y1.trans xT) t2 rd) _ (Ext.refl G _) _ fun w H4 y4 rw_ => ?_
      obtain ⟨b, ys, rfl, hsb, hrb⟩ := dp_tup rw_
      have y5 := xT.trans y4
      have e4 : H4 D = some (.lst acc) := y5.at tk e1 (fun ps z => by cases z)
      have r4 := dpA_ext y5 tk r1
      have lenb := dpA_len hrb
      refine ⟨b, rfl, ⟨ys, hsb⟩, ?_⟩
      refine ⟨fun l m Hl => m = ys.length - l ∧ l ≤ ys.length ∧ Ext G H2 Hl ∧ SqT K Hl b ys ∧ DpAll K Hl ys (ks n d) ∧ ∃ acc, Hl D = some (.lst acc) ∧ DpAll K Hl acc (flatE (fun n d => (ks n d).map (g n d)) 0 (ds.take n) ++ ((ks n d).take l).map (g n d)), ⟨ys.length, rfl, Nat.zero_le _, y1.trans y5, hsb, hrb, acc, e4, by rw [List.take_zero, List.map_nil, List.append_nil]; exact r4⟩, ?_⟩
      rintro l m Hl ⟨rfl, hl', z1, z2, z3, acc2, z4, z5⟩
      by_cases hlt2 : l < ys.length
      · refine .inr ⟨⟨ys, ys[l], z2, by simp [hlt2]⟩, fun H' => Ext G H2 H' ∧ SqT K H' b ys ∧ DpAll K H' ys (ks n d) ∧ ∃ acc, H' D = some (.lst acc) ∧ DpAll K H' acc (flatE (fun n d => (ks n d).map (g n d)) 0 (ds.take n) ++ ((ks n d).take (l + 1)).map (g n d)), fun H' z => ⟨ys.length - (l + 1), by omega, rfl, hlt2, z.1, z.2.1, z.2.2.1, z.2.2.2⟩, fun u H' hu => ?_⟩
        obtain ⟨e, hu⟩ := hu
        subst e
        have hu' := hu ys z2
        obtain ⟨d2, hd2, rd2⟩ := dpA_getV z3 hu'
        have hm2 := List.mem_of_getElem? hd2
        refine ⟨wipe_set _ vs1 k (some u) hk, ?_⟩
        dsimp only [tYes]
        refine iteT ?_
        have tl := t2.ext z1
        refine he n d d2 y u _ hd' hm2 ((x.trans x2).trans z1) tl (dp_ext z1 t2 rd) rd2 _ (Ext.refl G _) _ fun w5 H6 y6 rw5 => ?_
        have e6 := y6.at tl z4 (fun ps z => by cases z)
        have hpu := hp n d d2 hd' hm2
        have snoc : (flatE (fun n d => (ks n d).map (g n d)) 0 (ds.take n) ++ ((ks n d).take (l + 1)).map (g n d)) = (flatE (fun n d => (ks n d).map (g n d)) 0 (ds.take n) ++ ((ks n d).take l).map (g n d)) ++ [g n d d2] := by
          rw [take_snoc hd2, List.map_append, ← List.append_assoc]
          rfl
        have hle : (flatE (fun n d => (ks n d).map (g n d)) 0 (ds.take n) ++ ((ks n d).take (l + 1)).map (g n d)).length < sizeLine := by
          refine Nat.lt_of_le_of_lt ?_ hl
          refine Nat.le_trans ?_ (flatE_le (fun n d => (ks n d).map (g n d)) ds 0 (n + 1))
          rw [flatE_take _ _ _ _ _ hd', List.length_append, List.length_append, List.length_map, Nat.zero_add, List.length_map]
          have := List.length_take_le (l + 1) (ks n d)
          have h2 : ((ks n d).take (l + 1)).length ≤ (ks n d).length := by rw [List.length_take]; omega
          omega
        refine ⟨acc2, e6, ?_, ?_, ?_, ?_, acc2 ++ [w5], upd_same, ?_⟩
        · have := dpA_len z5
          rw [snoc, List.length_append, List.length_singleton] at hle
          omega
        · exact (z1.trans y6).mut hD e6 (fun ps z => by cases z)
        · exact sqT_upd e6 (y6.sqT tl z2)
        · exact dpA_tups (fun a xs q => sqT_upd e6 q) (puA_all.mpr fun z hz => (hp n d z hd' hz).1) (dpA_ext y6 tl z3)
        · rw [snoc]
          refine dpA_tups (fun a xs q => sqT_upd e6 q) (puA_all.mpr fun z hz => ?_) (dpA_app (dpA_ext y6 tl z5) (.cons rw5 .nil))
          have hg : ∀ d0 n0, ds[n0]? = some d0 → ∀ z, z ∈ (ks n0 d0).map (g n0 d0) → Pu z = true := fun d0 n0 h0 z hz => by
            obtain ⟨e0, he0, rfl⟩ := List.mem_map.mp hz
            exact (hp n0 d0 e0 h0 he0).2
          rcases List.mem_append.mp hz with hz | hz
          · rcases List.mem_append.mp hz with hz | hz
            · obtain ⟨n0, d0, h0, hz⟩ := flatE_mem _ _ _ _ hz
              have h0' : ds[n0]? = some d0 := by
                rw [List.getElem?_take] at h0
                split at h0
                · exact h0
                · cases h0
              rw [Nat.zero_add] at hz
              exact hg d0 n0 h0' z hz
            · refine hg d n hd' z ?_
              obtain ⟨e0, he0, rfl⟩ := List.mem_map.mp hz
              exact List.mem_map.mpr ⟨e0, List.mem_of_mem_take he0, rfl⟩
          · rw [List.mem_singleton.mp hz]
            exact hpu.2
      · have e : l = (ks n d).length := by omega
        subst e
        refine .inl ⟨⟨ys, z2, by omega⟩, z1, acc2, z4, ?_⟩
        rw [List.take_length] at z5
        rw [flatE_take _ _ _ _ _ hd', Nat.zero_add]
        exact z5
    · have e : n = ds.length := by omega
      subst e
      rw [List.take_length] at r1
      exact .inl ⟨⟨xs, qk, len⟩, q _ Hk (x2.trans y1) (.lst (.inl (.inl e1)) r1)⟩
end
end Dl
set_option Elab.async false
set_option linter.all false
set_option maxRecDepth 100000
set_option maxHeartbeats 2000000
namespace Rh
open PySem PySem.Spec PyProof.Rows L2 GxR Gx Dl
abbrev s_variables : Stmt := topS 8
abbrev s_places : Stmt := topS 11
theorem sc_variables : FnScope ["term", "part", "name"] ["term"] (defScope s_variables) := ⟨rfl, rfl, rfl, by decide +kernel, rfl, by decide +kernel, by decide +kernel⟩
theorem sc_places : FnScope ["term", "k", "part", "place"] ["term"] (defScope s_places) := ⟨rfl, rfl, rfl, by decide +kernel, rfl, by decide +kernel, by decide +kernel⟩
/-- how many places hold a variable -/
def T.lv : T → Nat
  | .v _ => 1
  | .c _ => 0
  | .u _ t => t.lv
  | .b _ t r => t.lv + r.lv
def T.vars : T → List Str
  | .v x => [x]
  | .c _ => []
  | .u _ t => srtS (ddS t.vars)
  | .b _ t r => srtS (ddS (t.vars ++ r.vars))
theorem T.vars_n {t : T} (h : t.isV = false) : t.vars = srtS (ddS (t.parts.flatMap T.vars)) := by
  cases t with
  | v x => cases h
  | c s => simp [T.vars, T.parts, ddS, srtS]
  | u s t => simp [T.vars, T.parts]
  | b s t r => simp [T.vars, T.parts]
theorem T.vars_len : ∀ t : T, t.vars.length ≤ t.lv
  | .v _ => Nat.le_refl _
  | .c _ => Nat.le_refl _
  | .u _ t => by
    have ih := T.vars_len t
    have := ddS_len t.vars
    rw [T.vars, srtS_len, T.lv]
    omega
  | .b _ t r => by
    have ih := T.vars_len t
    have ih2 := T.vars_len r
    have := ddS_len (t.vars ++ r.vars)
    rw [List.length_append] at this
    rw [T.vars, srtS_len, T.lv]
    omega
theorem T.flat_len (t : T) : (t.parts.flatMap T.vars).length ≤ t.lv := by
  cases t with
  | v x => exact Nat.zero_le _
  | c s => exact Nat.zero_le _
  | u s t => simpa [T.parts, T.lv] using T.vars_len t
  | b s t r =>
    have := T.vars_len t
    have := T.vars_len r
    simp [T.parts, T.lv]
    omega
theorem T.lv_parts {t p : T} (h : p ∈ t.parts) : p.lv ≤ t.lv := by
  cases t with
  | v x => cases h
  | c s => cases h
  | u s t =>
    rw [T.parts, List.mem_singleton] at h
    subst h
    exact Nat.le_refl _
  | b s t r =>
    rw [T.parts, List.mem_cons, List.mem_singleton] at h
    show _ ≤ t.lv + r.lv
    rcases h with h | h <;> subst h <;> omega
theorem T.vars_mem {x : Str} : ∀ t : T, x ∈ t.vars ↔ 0 < t.uses x
  | .v y => by
    rw [T.vars, T.uses, List.mem_singleton]
    by_cases h : y = x
    · simp [h]
    · have h' : ¬ x = y := fun z => h z.symm
      simp [h, h']
  | .c _ => by simp [T.vars, T.uses]
  | .u _ t => by rw [T.vars, srtS_mem, ddS_mem, T.uses, T.vars_mem t]
  | .b _ t r => by
    rw [T.vars, srtS_mem, ddS_mem, T.uses, List.mem_append, T.vars_mem t, T.vars_mem r]
    omega
def R_vars (n : Nat) : List Ar → PyData → Prop := fun as d => ∃ t : T, as = [.d (enc t)] ∧ t.ok ∧ t.dp < n ∧ t.lv < 64 ∧ d = .tuple (t.vars.map PyData.str)
def encP (p : List Nat) : PyData := .tuple (p.map fun (n : Nat) => PyData.int n)
def T.places : T → List (List Nat)
  | .v _ => [[]]
  | .c _ => [[]]
  | .u _ t => [] :: t.places.map (0 :: ·)
  | .b _ t r => [] :: (t.places.map (0 :: ·) ++ r.places.map (1 :: ·))
def T.at : T → List Nat → Option T
  | t, [] => some t
  | .v _, _ :: _ => none
  | .c _, _ :: _ => none
  | .u _ t1, k :: r => if k = 0 then t1.at r else none
  | .b _ t t2, k :: r => if k = 0 then t.at r else if k = 1 then t2.at r else none
theorem T.at_nil (t : T) : t.at [] = some t := by cases t <;> rfl
theorem T.at_cons {t r : T} {k : Nat} {p : List Nat} (h : t.at (k :: p) = some r) : ∃ q, t.parts[k]? = some q ∧ q.at p = some r ∧ t.isV = false := by
  cases t with
  | v x => cases h
  | c s => cases h
  | u s t =>
    rw [T.at] at h
    split at h
    · next e => subst e; exact ⟨t, rfl, h, rfl⟩
    · cases h
  | b s t t2 =>
    rw [T.at] at h
    split at h
    · next e => subst e; exact ⟨t, rfl, h, rfl⟩
    · split at h
      · next e => subst e; exact ⟨t2, rfl, h, rfl⟩
      · cases h
def tupD : PyData → List PyData
  | .tuple ds => ds
  | _ => []
theorem T.places_n {t : T} (h : t.isV = false) : .tuple ([PyData.tuple []] ++ flatE (fun (n : Nat) d => ((dec d).places.map encP).map fun e => PyData.tuple ([PyData.int n] ++ tupD e)) 0 (t.parts.map enc)) = PyData.tuple (t.places.map encP) := by
  have e0 : ∀ (n : Nat) (t : T), ((dec (enc t)).places.map encP).map (fun e => PyData.tuple ([PyData.int n] ++ tupD e)) = (t.places.map (n :: ·)).map encP := fun n t => by
    rw [dec_enc, List.map_map, List.map_map]
    refine List.map_congr_left fun p _ => ?_
    simp [encP, tupD]
  cases t with
  | v x => cases h
  | c s => rfl
  | u s t => simp only [T.parts, List.map_cons, List.map_nil, flatE, e0, T.places, List.append_nil]; rfl
  | b s t r => simp only [T.parts, List.map_cons, List.map_nil, flatE, e0, T.places, List.append_nil, List.map_append]; rfl
def R_at : List Ar → PyData → Prop := fun as d => ∃ (t r : T) (p : List Nat), as = [.d (enc t), .d (encP p)] ∧ t.ok ∧ t.at p = some r ∧ d = enc r
def R_places (n : Nat) : List Ar → PyData → Prop := fun as d => ∃ t : T, as = [.d (enc t)] ∧ t.ok ∧ t.dp < n ∧ n ≤ 12 ∧ d = .tuple (t.places.map encP)
theorem T.places_len : ∀ t : T, t.places.length = t.size
  | .v _ => rfl
  | .c _ => rfl
  | .u _ t => by simp [T.places, T.size, T.places_len t]
  | .b _ t r => by simp [T.places, T.size, T.places_len t, T.places_len r]
theorem T.size_le : ∀ t : T, t.size < 2 ^ (t.dp + 1)
  | .v _ => by simp [T.size, T.dp]
  | .c _ => by simp [T.size, T.dp]
  | .u _ t => by
    have := T.size_le t
    have e : 2 ^ (t.dp + 1 + 1) = 2 ^ (t.dp + 1) * 2 := Nat.pow_succ ..
    simp only [T.size, T.dp]
    omega
  | .b _ t r => by
    have h1 := T.size_le t
    have h2 := T.size_le r
    have p1 : 2 ^ (t.dp + 1) ≤ 2 ^ (max t.dp r.dp + 1) := Nat.pow_le_pow_right (by decide) (by omega)
    have p2 : 2 ^ (r.dp + 1) ≤ 2 ^ (max t.dp r.dp + 1) := Nat.pow_le_pow_right (by decide) (by omega)
    have e : 2 ^ (max t.dp r.dp + 1 + 1) = 2 ^ (max t.dp r.dp + 1) * 2 := Nat.pow_succ ..
    simp only [T.size, T.dp]
    omega
theorem T.places_deep : ∀ (t : T) (p : List Nat), p ∈ t.places → p.length ≤ t.dp
  | .v _, p, h => by simp [T.places] at h; simp [h]
  | .c _, p, h => by simp [T.places] at h; simp [h]
  | .u _ t, p, h => by
    rw [T.places, List.mem_cons] at h
    rcases h with h | h
    · simp [h]
    · obtain ⟨q, hq, rfl⟩ := List.mem_map.mp h
      have := T.places_deep t q hq
      simp only [List.length_cons, T.dp]
      omega
  | .b _ t r, p, h => by
    rw [T.places, List.mem_cons, List.mem_append] at h
    rcases h with h | h | h
    · simp [h]
    · obtain ⟨q, hq, rfl⟩ := List.mem_map.mp h
      have := T.places_deep t q hq
      simp only [List.length_cons, T.dp]
      omega
    · obtain ⟨q, hq, rfl⟩ := List.mem_map.mp h
      have := T.places_deep r q hq
      simp only [List.length_cons, T.dp]
      omega
section
variable {P : Program} {w : World} {K : PySem.W.Frag} {mg : Str → Option Value} {base : Heap} {G : List Addr} {f : Addr} {fd : FuncData}
theorem cl_variables (D : DefF K mg base G "variables" s_variables ["term"] f fd) (iv : IV P w K mg base G) (m : mg "tuple" = none) (m2 : mg "sorted" = none) : ∀ n, Cl0 P w K mg base (2 * n + 2) "variables" (spA G K (R_vars n))
  | 0 => (D.none fun as d ⟨t, _, _, h, _⟩ => Nat.not_lt_zero _ h).mono (Nat.zero_le _)
  | n + 1 => by
    have ih := cl_variables D iv m m2 n
    refine D.cl (k := 2 * n + 3) sc_variables (fun ds d r => by obtain ⟨t, rfl, _⟩ := r; rfl) fun c Pt A outer s H vs ds d Q E TB hP hr tG hv r q => ?_
    refine ⟨_, pss_cons (ps_if (pt_val (pe_cl iv (hr.mono (by omega)) rfl (pa_cons (pv 0) pa_nil))) (pss_one (ps_ret (pe_tup (pa_cons (pv 0) pa_nil)))) pss_nil)
      (pss_one (ps_ret (pe_callTy call_tuple_of (by rfl) m (by decide +kernel) (pa_cons (pe_callB (call_sortedD rfl) (by rfl) m2 (by decide +kernel) (pa_cons
        (pe_dc2 (own := [("part", 1), ("name", 2)]) (vs1 := [2]) (wi1 := iTup K (tCall (spA G K (R_vars n)) [] (fun _ _ _ => False) (tCons (tVar 1) tNil))) (g := gName 1) (g1 := gName 2) (tt := tYes) (tt1 := tYes) rfl sc_variables.nd (pi_tup (pe_ix ix_tup (pv 0) pe_int (fun _ _ => rfl))) (blkOk_by (N := ["term", "part", "name"]) (sc := defScope s_variables) (by decide +kernel)) (by decide)
          (fun _ _ _ _ _ => pg_name (i := 1) sc_variables.nd rfl (Or.inl rfl)) (fun _ _ _ _ _ => pts_nil) (fun _ _ _ _ _ => pi_tup (pe_cl ih (hr.mono (by omega)) rfl (pa_cons (pv 1) pa_nil)))
          (fun _ _ _ _ _ => pg_name (i := 2) sc_variables.nd rfl (Or.inl rfl)) (fun _ _ _ _ _ => pts_nil) (fun _ _ _ _ _ => pv 2) (fun _ _ _ _ _ => pe_bl)) pa_nil)) pa_nil)))), ?_⟩
    obtain ⟨t, rfl, o, hd, hl, rfl⟩ := r
    obtain ⟨v, rfl, rv⟩ := arA_one hv
    have v0 : ∀ {H'}, Ext G H H' → Ed G K (tVar 0) [some v, none, none] H' (enc t) := fun y => ed_var (tG.ext y) rfl (dp_ext y tG rv)
    refine s_ifR (edt_val (ed_iv tG o (v0 (Ext.refl G H)))) (fun h H' y => ?_) fun h H' y => ?_
    · refine s_ret (K := K) (ed_tup (tG.ext y) (ed_one (v0 y)) (by show 1 ≤ sizeLine; decide)) fun u H2 y2 ru => q u H2 (y.trans y2) ?_
      cases t with
      | v x => exact ru
      | c _ => cases h
      | u _ _ => cases h
      | b _ _ _ => cases h
    · have fl := t.flat_len
      have e : ((t.parts.map enc).flatMap fun d => (dec d).vars) = t.parts.flatMap T.vars := by rw [List.flatMap_map]; simp [dec_enc]
      refine s_ret (K := K) (ed_is (ed_cb (ed_one (ed_sortedD (tG.ext y) (c := fun _ => PyData.bool true) ?_ (edx_dc2 (ks := fun d => (dec d).vars) (tG.ext y) ?_ (ed_parts (tG.ext y) h (v0 y)) (by decide) (by decide) (by show 2 < 3; decide) fun d u H1 hd1 x1 t1 rp => ?_))) (rdc_tuple (tG.ext y))) ?_) fun u H2 y2 ru => q u H2 (y.trans y2) ru
      · have := ddS_len ((t.parts.map enc).flatMap fun d => (dec d).vars)
        rw [e] at this
        rw [e]
        omega
      · rw [e]
        exact Nat.lt_of_lt_of_le (Nat.lt_of_le_of_lt fl hl) (by decide)
      · obtain ⟨p, hp, rfl⟩ := List.mem_map.mp hd1
        rw [dec_enc]
        exact ea_call t1 (ea_one (edx_of (ed_var t1 rfl rp))) ⟨p, rfl, T.ok_parts o hp, by have := T.dp_parts hp; omega, by have := T.lv_parts hp; omega, rfl⟩
      · rw [e, ← T.vars_n h]
theorem cl_at (D : DefF K mg base G "at" s_at ["term", "place"] f fd) (iv : IV P w K mg base G) (m : mg "len" = none) : Cl0 P w K mg base 3 "at" (spA G K R_at) := by
  refine D.cl (k := 2) sc_at (fun ds d r => by obtain ⟨t, _, _, rfl, _⟩ := r; rfl) fun c Pt A outer s H vs ds d Q E TB hP hr tG hv r q => ?_
  refine ⟨_, pss_cons (ps_for PassesOwn.never rfl (pi_tup (pv 1)) (pg_name (i := 2) sc_at.nd rfl (Or.inl rfl)) (pss_cons (ps_if (PW.pt (pw_or (pt_val (pe_cl iv hr rfl (pa_cons (pv 0) pa_nil)))
      (pw_or1 (pt_not (pt_chain op_le op_lt pe_int (pv 2) (pe_callB call_len_seq (by rfl) m PySem.boot_len (pa_cons (pe_ix ix_tup (pv 0) pe_int (fun _ _ => rfl)) pa_nil))))))) (pss_one ps_never) pss_nil)
      (pss_one (ps_set (i := 0) sc_at.nd rfl (Or.inl rfl) (pe_ix ix_tup (pe_ix ix_tup (pv 0) pe_int (fun _ _ => rfl)) (pv 2) (fun _ _ => rfl))))))
    (pss_one (ps_ret (pv 0))), ?_⟩
  obtain ⟨t, r, p, rfl, o, ha, rfl⟩ := r
  obtain ⟨v, z, rfl, rv, rz⟩ := arA_two hv
  refine s_forTH (K := K) (ds := p.map fun (n : Nat) => PyData.int n) tG (ed_var tG rfl (show Dp K H z (encP p) from rz)) (fun i σ' H' => ∃ u a kk, σ' = [some u, some z, kk] ∧ Dp K H' u (enc a) ∧ a.ok ∧ a.at (p.drop i) = some r)
    (fun H1 y => ⟨v, t, none, rfl, dp_ext y tG rv, o, ha⟩) ?_ ?_
  · rintro i d kv σ' H' N hd ⟨u, a, kk, rfl, ru, oa, haa⟩ y rk t1 hN
    rw [List.getElem?_map] at hd
    obtain ⟨k, hk, rfl⟩ := Option.map_eq_some_iff.mp hd
    have ed : p.drop i = k :: p.drop (i + 1) := by
      obtain ⟨h1, h2⟩ := List.getElem?_eq_some_iff.mp hk
      rw [List.drop_eq_getElem_cons h1, h2]
    rw [ed] at haa
    obtain ⟨b, hb, hr2, hnv⟩ := T.at_cons haa
    have hkl : k < a.parts.length := (List.getElem?_eq_some_iff.mp hb).1
    have u0 : ∀ {H2}, Ext G H' H2 → Ed G K (tVar 0) [some u, some z, some kv] H2 (enc a) := fun y => ed_var (t1.ext y) rfl (dp_ext y t1 ru)
    have uk : ∀ {H2}, Ext G H' H2 → Ed G K (tVar 2) [some u, some z, some kv] H2 (.int k) := fun y => ed_var (t1.ext y) rfl (dp_ext y t1 rk)
    refine s_ifR (b := false) (edt_is (edt_or (edt_val (ed_iv t1 oa (u0 (Ext.refl G H')))) fun _ => edt_not (edt_test (ed_chain t1 ed_int (uk (Ext.refl G H')) rd_leI (ed_cb (ed_one (ed_parts t1 hnv (u0 (Ext.refl G H')))) rdc_len) rd_ltI))) ?_) (fun h => by cases h) fun _ H2 y2 => ?_
    · rw [hnv]
      have e1 : decide ((0 : Int) ≤ (k : Int)) = true := decide_eq_true (by omega)
      have e2 : decide ((k : Int) < ((a.parts.map enc).length : Nat)) = true := decide_eq_true (by rw [List.length_map]; omega)
      rw [e1, e2]
      rfl
    · refine s_set (K := K) (ed_op (t1.ext y2) (ed_parts (t1.ext y2) hnv (u0 y2)) (uk y2) (rd_ixT (d := enc b) (by omega) (by rw [Int.toNat_natCast, List.getElem?_map, hb]; rfl))) fun w H3 y3 rw_ => ?_
      exact hN _ H3 (y2.trans y3) ⟨w, b, some kv, rfl, rw_, T.ok_parts oa (List.mem_of_getElem? hb), hr2⟩
  · rintro σ' H' y ⟨u, a, kk, rfl, ru, oa, haa⟩
    rw [List.length_map, List.drop_length] at haa
    rw [T.at_nil] at haa
    have e := Option.some.inj haa
    refine s_ret (K := K) (ed_var (tG.ext y) rfl ru) fun w H3 y3 rw_ => q w H3 (y.trans y3) ?_
    rw [← e]
    exact rw_
theorem cl_places (D : DefF K mg base G "places" s_places ["term"] f fd) (iv : IV P w K mg base G) (m : mg "tuple" = none) (m2 : mg "enumerate" = none) : ∀ n, Cl0 P w K mg base (2 * n + 2) "places" (spA G K (R_places n))
  | 0 => (D.none fun as d ⟨t, _, _, h, _⟩ => Nat.not_lt_zero _ h).mono (Nat.zero_le _)
  | n + 1 => by
    have ih := cl_places D iv m m2 n
    refine D.cl (k := 2 * n + 3) sc_places (fun ds d r => by obtain ⟨t, rfl, _⟩ := r; rfl) fun c Pt A outer s H vs ds d Q E TB hP hr tG hv r q => ?_
    refine ⟨_, pss_cons (ps_if (pt_val (pe_cl iv (hr.mono (by omega)) rfl (pa_cons (pv 0) pa_nil))) (pss_one (ps_ret (pe_tup (pa_cons (pe_tup pa_nil) pa_nil)))) pss_nil)
      (pss_one (ps_ret (pe_op op_catA (pe_tup (pa_cons (pe_tup pa_nil) pa_nil)) (pe_callTy call_tuple_of (by rfl) m (by decide +kernel) (pa_cons
        (pe_lc2 (own := [("k", 1), ("part", 2), ("place", 3)]) (vs1 := [3]) (wi1 := iTup K (tCall (spA G K (R_places n)) [] (fun _ _ _ => False) (tCons (tVar 2) tNil))) (te := tOp (rCatA K) (tTup (tCons (tVar 1) tNil)) (tVar 3)) (g := gTup K 2 (gCons (gName 1) (gCons (gName 2) gNil))) (g1 := gName 3) (tt := tYes) (tt1 := tYes) rfl sc_places.nd (pi_enumT (by rfl) m2 (pa_cons (pe_ix ix_tup (pv 0) pe_int (fun _ _ => rfl)) pa_nil))
          (blkOk_by (N := ["term", "k", "part", "place"]) (sc := defScope s_places) (by decide +kernel)) (by decide)
          (fun _ _ _ _ _ => pg_tup rfl (pgs_cons (pg_name (i := 1) sc_places.nd rfl (Or.inl rfl)) (pgs_cons (pg_name (i := 2) sc_places.nd rfl (Or.inl rfl)) pgs_nil))) (fun _ _ _ _ _ => pts_nil) (fun _ _ _ _ _ => pi_tup (pe_cl ih (hr.mono (by omega)) rfl (pa_cons (pv 2) pa_nil)))
          (fun _ _ _ _ _ => pg_name (i := 3) sc_places.nd rfl (Or.inl rfl)) (fun _ _ _ _ _ => pts_nil) (fun _ _ _ _ _ => pe_op op_catA (pe_tup (pa_cons (pv 1) pa_nil)) (pv 3))) pa_nil))))), ?_⟩
    obtain ⟨t, rfl, o, hd, hn, rfl⟩ := r
    obtain ⟨v, rfl, rv⟩ := arA_one hv
    have v0 : ∀ {H'}, Ext G H H' → Ed G K (tVar 0) [some v, none, none, none] H' (enc t) := fun y => ed_var (tG.ext y) rfl (dp_ext y tG rv)
    refine s_ifR (edt_val (ed_iv tG o (v0 (Ext.refl G H)))) (fun h H' y => ?_) fun h H' y => ?_
    · refine s_ret (K := K) (ed_tup (tG.ext y) (ed_one (ed_tup (tG.ext y) ed_nil (by show 0 ≤ sizeLine; decide))) (by show 1 ≤ sizeLine; decide)) fun u H2 y2 ru => q u H2 (y.trans y2) ?_
      cases t with
      | v x => exact ru
      | c _ => cases h
      | u _ _ => cases h
      | b _ _ _ => cases h
    · have y3 := tG.ext y
      have bd : ∀ p ∈ t.parts, p.places.length < 100000 ∧ ∀ r ∈ p.places, r.length ≤ 12 := fun p hp => by
        have h1 := T.dp_parts hp
        refine ⟨?_, fun r hr => by have := T.places_deep p r hr; omega⟩
        rw [T.places_len]
        refine Nat.lt_of_lt_of_le (T.size_le p) (Nat.le_trans (Nat.pow_le_pow_right (by decide) (show p.dp + 1 ≤ 12 by omega)) (by decide))
      have hfl : (flatE (fun (n : Nat) d => ((dec d).places.map encP).map fun e => PyData.tuple ([PyData.int n] ++ tupD e)) 0 (t.parts.map enc)).length < 300000 := by
        have e1 : ([PyData.tuple []] ++ flatE (fun (n : Nat) d => ((dec d).places.map encP).map fun e => PyData.tuple ([PyData.int n] ++ tupD e)) 0 (t.parts.map enc)) = t.places.map encP := by
          have := T.places_n h
          injection this
        have e2 := congrArg List.length e1
        rw [List.length_append, List.length_map, T.places_len] at e2
        have e3 : t.size < 300000 := Nat.lt_of_lt_of_le (T.size_le t) (Nat.le_trans (Nat.pow_le_pow_right (by decide) (show t.dp + 1 ≤ 12 by omega)) (by decide))
        omega
      refine s_ret (K := K) (ed_is (ed_op y3 (ed_tup y3 (ed_one (ed_tup y3 ed_nil (by show 0 ≤ sizeLine; decide))) (by show 1 ≤ sizeLine; decide))
        (ed_cb (ed_one (ed_lc2E (ks := fun _ d => (dec d).places.map encP) (g := fun n _ e => PyData.tuple ([PyData.int (n : Nat)] ++ tupD e)) y3 (Nat.lt_of_lt_of_le hfl (by decide)) (ed_parts y3 h (v0 y)) (by decide) (by decide) (by decide) ?_ ?_ ?_)) (rdc_tuple y3)) (rd_catA y3 ?_)) (T.places_n h)) fun u H2 y2 ru => q u H2 (y.trans y2) ru
      · intro n d e _ he
        obtain ⟨p, _, rfl⟩ := List.mem_map.mp he
        have z : ∀ p : List Nat, PuA (p.map fun (n : Nat) => PyData.int n) = true := fun p => puA_all.mpr fun d hd => by
          obtain ⟨n, _, rfl⟩ := List.mem_map.mp hd
          rfl
        refine ⟨z p, ?_⟩
        exact z (n :: p)
      · intro n d u H1 hd1 x1 t1 rp
        rw [List.getElem?_map] at hd1
        obtain ⟨p, hp, rfl⟩ := Option.map_eq_some_iff.mp hd1
        have hp := List.mem_of_getElem? hp
        rw [dec_enc]
        exact ea_call t1 (ea_one (edx_of (ed_var t1 rfl rp))) ⟨p, rfl, T.ok_parts o hp, by have := T.dp_parts hp; omega, by omega, rfl⟩
      · intro n d e u w H1 hd1 he x1 t1 rp rw_
        rw [List.getElem?_map] at hd1
        obtain ⟨p, hp, rfl⟩ := Option.map_eq_some_iff.mp hd1
        have hp := List.mem_of_getElem? hp
        rw [dec_enc] at he
        obtain ⟨r, hr, rfl⟩ := List.mem_map.mp he
        refine ed_op t1 (ed_tup t1 (ed_one (ed_var t1 rfl (.int n))) (by show 1 ≤ sizeLine; decide)) (ed_var t1 rfl rw_) (rd_catA t1 ?_)
        have := (bd p hp).2 r hr
        show 1 + (r.map fun (n : Nat) => PyData.int n).length ≤ sizeLine
        rw [List.length_map]
        exact Nat.le_trans (show 1 + r.length ≤ 100 by omega) (by decide)
      · exact Nat.le_trans (show 1 + _ ≤ 300001 by omega) (by decide)
end
end Rh
set_option Elab.async false
set_option linter.all false
set_option maxRecDepth 100000
set_option maxHeartbeats 2000000
namespace Rh
open PySem PySem.Spec PyProof.Rows L2 GxR Gx Dl
abbrev s_is_above : Stmt := topS 15
abbrev s_is_heavier : Stmt := topS 18
theorem sc_is_above : FnScope ["one", "other", "ranks", "a", "b", "part"] ["one", "other", "ranks"] (defScope s_is_above) := ⟨rfl, rfl, rfl, by decide +kernel, rfl, by decide +kernel, by decide +kernel⟩
theorem sc_is_heavier : FnScope ["one", "other", "weights", "least", "ranks", "mine", "theirs", "a", "b", "name"] ["one", "other", "weights", "least", "ranks"] (defScope s_is_heavier) := ⟨rfl, rfl, rfl, by decide +kernel, rfl, by decide +kernel, by decide +kernel⟩
/-- signs have one count of parts -/
def T.inA (ar : Str → Nat) : T → Prop
  | .v _ => True
  | .c s => ar s = 0
  | .u s t => ar s = 1 ∧ t.inA ar
  | .b s t r => ar s = 2 ∧ t.inA ar ∧ r.inA ar
theorem T.inA_len {ar : Str → Nat} {t : T} (h : t.inA ar) (hv : t.isV = false) : t.parts.length = ar t.sgn := by
  cases t with
  | v x => cases hv
  | c s => exact h.symm
  | u s t => exact h.1.symm
  | b s t r => exact h.1.symm
theorem T.inA_parts {ar : Str → Nat} {t p : T} (o : t.inA ar) (h : p ∈ t.parts) : p.inA ar := by
  cases t with
  | v x => cases h
  | c s => cases h
  | u s t =>
    rw [T.parts, List.mem_singleton] at h
    subst h
    exact o.2
  | b s t r =>
    rw [T.parts, List.mem_cons, List.mem_singleton] at h
    rcases h with h | h <;> subst h
    · exact o.2.1
    · exact o.2.2
def lexB (g : T → T → Bool) : List T → List T → Bool
  | a :: r, b :: q => if a = b then lexB g r q else g a b
  | _, _ => false
def rkT (m : Tb) (s : Str) : Int := (getT m s).getD 0
/-- paths, n turns deep -/
def ab (m : Tb) : Nat → T → T → Bool
  | 0, _, _ => false
  | n + 1, s, t => !s.isV && (if t.isV then decide (t.sgn ∈ s.vars) else (s.parts.any fun p => decide (p = t) || ab m n p t) ||
      ((t.parts.all fun p => ab m n s p) && (if s.sgn = t.sgn then lexB (ab m n) s.parts t.parts else decide (rkT m t.sgn < rkT m s.sgn))))
/-- what the two functions want of a term -/
structure T.fine (ar : Str → Nat) (m : Tb) (t : T) : Prop where
  o : t.ok
  a : t.inA ar
  i : t.inT m
  d : t.dp < 12
  l : t.lv < 64
theorem T.fine.parts {ar : Str → Nat} {m : Tb} {t p : T} (h : t.fine ar m) (hp : p ∈ t.parts) : p.fine ar m := ⟨T.ok_parts h.o hp, T.inA_parts h.a hp, T.inT_parts h.i hp, by have := T.dp_parts hp; have := h.d; omega, by have := T.lv_parts hp; have := h.l; omega⟩
def R_above (n : Nat) : List Ar → PyData → Prop := fun as d => ∃ (s t : T) (m : Tb) (ar : Str → Nat), as = [.d (enc s), .d (enc t), .k (encT m)] ∧ s.fine ar m ∧ t.fine ar m ∧ s.dp + t.dp < n ∧ d = .bool (ab m n s t)
section
variable {P : Program} {w : World} {K : PySem.W.Frag} {mg : Str → Option Value} {base : Heap} {G : List Addr} {f : Addr} {fd : FuncData}
theorem cl_above (D : DefF K mg base G "is_above" s_is_above ["one", "other", "ranks"] f fd) (iv : IV P w K mg base G) (va : Cl0 P w K mg base 26 "variables" (spA G K (R_vars 12))) (rk : Cl0 P w K mg base 1 "rank_of" (spA G K R_rank))
    (m1 : mg "any" = none) (m2 : mg "all" = none) (m3 : mg "zip" = none) (m4 : mg "len" = none) : ∀ n, Cl0 P w K mg base (2 * n + 30) "is_above" (spA G K (R_above n))
  | 0 => (D.none fun as d ⟨s, t, _, _, _, _, _, h, _⟩ => Nat.not_lt_zero _ h).mono (Nat.zero_le _)
  | n + 1 => by
    have ih := cl_above D iv va rk m1 m2 m3 m4 n
    refine D.cl (k := 2 * n + 31) sc_is_above (fun ds d r => by obtain ⟨s, t, _, _, rfl, _⟩ := r; rfl) fun c Pt A outer s H vs ds d Q E TB hP hr tG hv r q => ?_
    refine ⟨_, pss_cons (ps_if (pt_val (pe_cl iv (hr.mono (by omega)) rfl (pa_cons (pv 0) pa_nil))) (pss_one (ps_ret pe_bl)) pss_nil)
      (pss_cons (ps_if (pt_val (pe_cl iv (hr.mono (by omega)) rfl (pa_cons (pv 1) pa_nil))) (pss_one (ps_ret (pe_cmpR op_in_seq (pv 1) (pe_cl va (hr.mono (by omega)) rfl (pa_cons (pv 0) pa_nil)) rfl))) pss_nil)
      (pss_cons (ps_if (pt_val (pe_anyG (own := [("part", 5)]) hr sc_is_above.nd TB rfl (blkOk_by (N := ["one", "other", "ranks", "a", "b", "part"]) (sc := defScope s_is_above) (by decide +kernel)) m1 (pi_tup (pe_ix ix_tup (pv 0) pe_int (fun _ _ => rfl)))
          (fun s H C code fp A _ => pg_name (i := 5) sc_is_above.nd rfl (Or.inl rfl)) (fun s H C code fp A _ => pts_nil) (te := tOrV (tOp (rEqD K) (tVar 5) (tVar 1)) (tCall (spA G K (R_above n)) [] (fun _ _ _ => False) (tCons (tVar 5) (tCons (tVar 1) (tCons (tVar 2) tNil)))))
          (fun s H C code fp A r => pe_or (pe_cmpR (op_eqD r.units) (pv 5) (pv 1) (nomark _)) (pe_one (pe_cl ih r rfl (pa_cons (pv 5) (pa_cons (pv 1) (pa_cons (pv 2) pa_nil)))))))) (pss_one (ps_ret pe_bl)) pss_nil)
      (pss_cons (ps_if (pt_not (pt_val (pe_allG (own := [("part", 5)]) hr sc_is_above.nd TB rfl (blkOk_by (N := ["one", "other", "ranks", "a", "b", "part"]) (sc := defScope s_is_above) (by decide +kernel)) m2 (pi_tup (pe_ix ix_tup (pv 1) pe_int (fun _ _ => rfl)))
          (fun s H C code fp A _ => pg_name (i := 5) sc_is_above.nd rfl (Or.inl rfl)) (fun s H C code fp A _ => pts_nil) (fun s H C code fp A r => pe_cl ih r rfl (pa_cons (pv 0) (pa_cons (pv 5) (pa_cons (pv 2) pa_nil))))))) (pss_one (ps_ret pe_bl)) pss_nil)
      (pss_cons (ps_if (pt_cmpR op_ne (pe_ix ix_tup (pv 0) pe_int (fun _ _ => rfl)) (pe_ix ix_tup (pv 1) pe_int (fun _ _ => rfl)) (nomark _))
          (pss_one (ps_ret (pe_cmpR op_gt (pe_cl rk (hr.mono (by omega)) rfl (pa_cons (pe_ix ix_tup (pv 0) pe_int (fun _ _ => rfl)) (pa_cons (pv 2) pa_nil))) (pe_cl rk (hr.mono (by omega)) rfl (pa_cons (pe_ix ix_tup (pv 1) pe_int (fun _ _ => rfl)) (pa_cons (pv 2) pa_nil))) (nomark _)))) pss_nil)
      (pss_cons (ps_for PassesOwn.never rfl (RZ.pi_zipA (by rfl) m3 (pa_cons (pe_ix ix_tup (pv 0) pe_int (fun _ _ => rfl)) (pa_cons (pe_ix ix_tup (pv 1) pe_int (fun _ _ => rfl)) pa_nil)))
          (pg_tup rfl (pgs_cons (pg_name (i := 3) sc_is_above.nd rfl (Or.inl rfl)) (pgs_cons (pg_name (i := 4) sc_is_above.nd rfl (Or.inl rfl)) pgs_nil)))
          (pss_one (ps_if (pt_cmpR (op_neD hr.units) (pv 3) (pv 4) (nomark _)) (pss_one (ps_ret (pe_cl ih (hr.mono (by omega)) rfl (pa_cons (pv 3) (pa_cons (pv 4) (pa_cons (pv 2) pa_nil)))))) pss_nil)))
      (pss_one (ps_ret (pe_cmpR op_gt (pe_callB call_len_seq (by rfl) m4 PySem.boot_len (pa_cons (pe_ix ix_tup (pv 0) pe_int (fun _ _ => rfl)) pa_nil)) (pe_callB call_len_seq (by rfl) m4 PySem.boot_len (pa_cons (pe_ix ix_tup (pv 1) pe_int (fun _ _ => rfl)) pa_nil)) (nomark _))))))))), ?_⟩
    obtain ⟨s, t, m, ar, rfl, fs, ft, hd, rfl⟩ := r
    obtain ⟨v, u, z, rfl, rv, ru, rz⟩ := arA_three hv
    have v0 : ∀ {H'} {a b c}, Ext G H H' → Ed G K (tVar 0) [some v, some u, some z, a, b, c] H' (enc s) := fun y => ed_var (tG.ext y) rfl (dp_ext y tG rv)
    have v1 : ∀ {H'} {a b c}, Ext G H H' → Ed G K (tVar 1) [some v, some u, some z, a, b, c] H' (enc t) := fun y => ed_var (tG.ext y) rfl (dp_ext y tG ru)
    have v2 : ∀ {H'} {a b c}, Ext G H H' → EdX G K (tVar 2) [some v, some u, some z, a, b, c] H' (.k (encT m)) := fun y => edx_var (tG.ext y) rfl (ar_ext y tG rz)
    refine s_ifR (edt_val (ed_iv tG fs.o (v0 (Ext.refl G H)))) (fun h H' y => ?_) fun h H' y => ?_
    · refine s_ret (K := K) ed_bl fun w H2 y2 rw_ => q w H2 (y.trans y2) ?_
      rw [ab, h]
      exact rw_
    refine s_ifR (edt_val (ed_iv (tG.ext y) ft.o (v1 y))) (fun h2 H2 y2 => ?_) fun h2 H2 y2 => ?_
    · have y3 := y.trans y2
      refine s_ret (K := K) (ed_op (tG.ext y3) (by have := v1 (a := none) (b := none) (c := none) y3; rw [enc_v h2] at this; exact this) (ea_call (tG.ext y3) (ea_one (edx_of (v0 y3))) ⟨s, rfl, fs.o, fs.d, fs.l, rfl⟩) rd_inT) fun w H3 y4 rw_ => q w H3 (y3.trans y4) ?_
      rw [ab, h, h2]
      exact rw_
    have y3 := y.trans y2
    have t3 := tG.ext y3
    refine s_ifR (edt_val (ed_anyP (p := fun p => decide (p = t) || ab m n p t) hP t3 (ed_parts t3 h (v0 y3)) (by decide) fun p u H1 hp x1 t1 rp => ?_)) (fun h3 H4 y4 => ?_) fun h3 H4 y4 => ?_
    · have x3 := y3.trans x1
      refine ed_orV (ed_op t1 (ed_var t1 rfl rp) (v1 x3) (rd_eqT (fs.parts hp).o ft.o (by have := (fs.parts hp).d; omega) (by have := ft.d; omega))) fun _ => ?_
      exact ea_call t1 (ea_cons t1 (edx_of (ed_var t1 rfl rp)) (ea_cons t1 (edx_of (v1 x3)) (ea_one (v2 x3)))) ⟨p, t, m, ar, rfl, fs.parts hp, ft, by have := T.dp_parts hp; omega, rfl⟩
    · refine s_ret (K := K) ed_bl fun w H5 y5 rw_ => q w H5 ((y3.trans y4).trans y5) ?_
      rw [ab, h, h2, h3]
      exact rw_
    have y5 := y3.trans y4
    have t5 := tG.ext y5
    refine s_ifR (edt_not (edt_val (ed_allP (p := fun p => ab m n s p) hP t5 (ed_parts t5 h2 (v1 y5)) (by decide) fun p u H1 hp x1 t1 rp => ?_))) (fun h4 H6 y6 => ?_) fun h4 H6 y6 => ?_
    · have x3 := y5.trans x1
      exact ea_call t1 (ea_cons t1 (edx_of (v0 x3)) (ea_cons t1 (edx_of (ed_var t1 rfl rp)) (ea_one (v2 x3)))) ⟨s, p, m, ar, rfl, fs, ft.parts hp, by have := T.dp_parts hp; omega, rfl⟩
    · refine s_ret (K := K) ed_bl fun w H7 y7 rw_ => q w H7 ((y5.trans y6).trans y7) ?_
      rw [Bool.not_eq_true'] at h4
      rw [ab, h, h2, h3, h4]
      exact rw_
    rw [Bool.not_eq_false'] at h4
    have y7 := y5.trans y6
    have t7 := tG.ext y7
    have e7 : ab m (n + 1) s t = if s.sgn = t.sgn then lexB (ab m n) s.parts t.parts else decide (rkT m t.sgn < rkT m s.sgn) := by
      rw [ab, h, h2, h3, h4]
      simp
    refine s_ifR (edt_test (ed_op t7 (ed_sgn t7 h (v0 y7)) (ed_sgn t7 h2 (v1 y7)) rd_neS)) (fun h5 H8 y8 => ?_) fun h5 H8 y8 => ?_
    · have h5' : ¬ s.sgn = t.sgn := by simpa using h5
      have y9 := y7.trans y8
      have t9 := tG.ext y9
      obtain ⟨k1, hk1⟩ := T.inT_sgn fs.i h
      obtain ⟨k2, hk2⟩ := T.inT_sgn ft.i h2
      refine s_ret (K := K) (ed_op t9 (ea_call t9 (ea_cons t9 (edx_of (ed_sgn t9 h (v0 y9))) (ea_one (v2 y9))) ⟨s.sgn, m, k1, rfl, hk1, rfl⟩) (ea_call t9 (ea_cons t9 (edx_of (ed_sgn t9 h2 (v1 y9))) (ea_one (v2 y9))) ⟨t.sgn, m, k2, rfl, hk2, rfl⟩) rd_gtI) fun w H9 y10 rw_ => q w H9 (y9.trans y10) ?_
      rw [e7, if_neg h5', rkT, rkT, hk1, hk2]
      exact rw_
    have h5' : s.sgn = t.sgn := by simpa using h5
    have y9 := y7.trans y8
    have t9 := tG.ext y9
    have hlen : s.parts.length = t.parts.length := by rw [T.inA_len fs.a h, T.inA_len ft.a h2, h5']
    rw [e7, if_pos h5'] at q
    refine s_forZ (K := K) t9 (ed_cons t9 (ed_parts t9 h (v0 y9)) (ed_one (ed_parts t9 h2 (v1 y9)))) (by rw [List.length_map, List.length_map, hlen])
      (fun i σ' => (∃ a b, σ' = [some v, some u, some z, a, b, none]) ∧ lexB (ab m n) s.parts t.parts = lexB (ab m n) (s.parts.drop i) (t.parts.drop i)) ⟨⟨none, none, rfl⟩, rfl⟩ ?_ ?_
    · rintro i d d2 va ua T2 σ' H' N hd1 hd2 ⟨⟨a0, b0, rfl⟩, el⟩ x1 ra rb hT t1 hN
      rw [List.getElem?_map] at hd1 hd2
      obtain ⟨p, hp, rfl⟩ := Option.map_eq_some_iff.mp hd1
      obtain ⟨p2, hp2, rfl⟩ := Option.map_eq_some_iff.mp hd2
      have mp := List.mem_of_getElem? hp
      have mp2 := List.mem_of_getElem? hp2
      have x3 := y9.trans x1
      have dr : ∀ {l : List Rh.T} {q : Rh.T}, l[i]? = some q → l.drop i = q :: l.drop (i + 1) := fun hk => by
        obtain ⟨h1, h2⟩ := List.getElem?_eq_some_iff.mp hk
        rw [List.drop_eq_getElem_cons h1, h2]
      rw [dr hp, dr hp2, lexB] at el
      refine ⟨T2, [va, ua], rfl, .inl (.inl hT), rfl, va, [ua], rfl, ua, [], rfl, rfl, ?_⟩
      refine s_if (b := !decide (p = p2)) (edt_test (ed_op t1 (ed_var t1 rfl ra) (ed_var t1 rfl rb) (rd_neT (fs.parts mp).o (ft.parts mp2).o (by have := (fs.parts mp).d; omega) (by have := (ft.parts mp2).d; omega)))) (fun h6 H3 x4 => ?_) fun h6 H3 x4 => ?_
      · have h6' : ¬ p = p2 := by simpa using h6
        rw [if_neg h6'] at el
        have t4 := t1.ext x4
        refine s_ret (K := K) (ea_call t4 (ea_cons t4 (edx_of (ed_var t4 rfl (dp_ext x4 t1 ra))) (ea_cons t4 (edx_of (ed_var t4 rfl (dp_ext x4 t1 rb))) (ea_one (v2 (x3.trans x4))))) ⟨p, p2, m, ar, rfl, fs.parts mp, ft.parts mp2, by have := T.dp_parts mp; have := T.dp_parts mp2; omega, rfl⟩) fun w H9 y10 rw_ => q w H9 ((x3.trans x4).trans y10) ?_
        rw [el]
        exact rw_
      · have h6' : p = p2 := by simpa using h6
        rw [if_pos h6'] at el
        exact hN _ _ x4 ⟨⟨_, _, rfl⟩, el⟩
    · rintro σ' H' x1 ⟨⟨a0, b0, rfl⟩, el⟩
      have x3 := y9.trans x1
      have t3 := tG.ext x3
      rw [List.length_map, List.drop_length, hlen, List.drop_length] at el
      refine s_ret (K := K) (ed_op t3 (ed_cb (ed_one (ed_parts t3 h (v0 x3))) rdc_len) (ed_cb (ed_one (ed_parts t3 h2 (v1 x3))) rdc_len) rd_gtI) fun w H9 y10 rw_ => q w H9 (x3.trans y10) ?_
      have e9 : decide (((t.parts.map enc).length : Int) < ((s.parts.map enc).length : Nat)) = false := decide_eq_false (by rw [List.length_map, List.length_map, hlen]; omega)
      rw [e9] at rw_
      rw [el]
      exact rw_
end
end Rh
set_option Elab.async false
set_option linter.all false
set_option maxRecDepth 100000
set_option maxHeartbeats 2000000
namespace Rh
open PySem PySem.Spec PyProof.Rows L2 GxR Gx Dl
theorem s_par {G : List Addr} {K : PySem.W.Frag} {σ : L2.St} {H : Hp} {tA : TA} {D : Ends} {i j : Nat} {d e : PyData} (h : EdA G K tA σ H [d, e]) (q : ∀ v u H', Ext G H H' → Dp K H' v d → Dp K H' u e → D.nx ((σ.set i (some v)).set j (some u)) H') : tPar i j tA D σ H :=
  h H (Ext.refl G H) _ fun ws H3 x3 rws => by
    obtain ⟨w1, w2, rfl, rw1, rw2⟩ := dpA_two rws
    exact ⟨_, _, rfl, q w1 w2 H3 x3 rw1 rw2⟩
/-- weights, n turns deep -/
def hv (m w : Tb) (l : Int) : Nat → T → T → Bool
  | 0, _, _ => false
  | n + 1, s, t => !(t.vars.any fun x => decide ((s.uses x : Int) < t.uses x)) && (if s.weight w l = t.weight w l then !s.isV && (if t.isV then s.tower t.sgn else if s.sgn = t.sgn then lexB (hv m w l n) s.parts t.parts else decide (rkT m t.sgn < rkT m s.sgn))
      else decide (t.weight w l < s.weight w l))
def R_heavier (n : Nat) : List Ar → PyData → Prop := fun as d => ∃ (s t : T) (m w : Tb) (l : Int) (ar : Str → Nat), as = [.d (enc s), .d (enc t), .k (encT w), .d (.int l), .k (encT m)] ∧ s.fine ar m ∧ t.fine ar m ∧ s.inT w ∧ t.inT w ∧ s.dp < n ∧ d = .bool (hv m w l n s t)
def unS : PyData → Str
  | .str x => x
  | _ => Str.ofString ""
section
variable {P : Program} {w : World} {K : PySem.W.Frag} {mg : Str → Option Value} {base : Heap} {G : List Addr} {f : Addr} {fd : FuncData}
theorem cl_heavier (D : DefF K mg base G "is_heavier" s_is_heavier ["one", "other", "weights", "least", "ranks"] f fd) (iv : IV P w K mg base G) (va : Cl0 P w K mg base 26 "variables" (spA G K (R_vars 12))) (us : Cl0 P w K mg base 26 "uses" (spA G K (R_uses 12)))
    (we : Cl0 P w K mg base 26 "weight" (spA G K (R_weight 12))) (tw : Cl0 P w K mg base 3 "is_tower" (spA G K R_tower)) (rk : Cl0 P w K mg base 1 "rank_of" (spA G K R_rank))
    (m1 : mg "any" = none) (m3 : mg "zip" = none) : ∀ n, Cl0 P w K mg base (2 * n + 30) "is_heavier" (spA G K (R_heavier n))
  | 0 => (D.none fun as d ⟨s, t, _, _, _, _, _, _, _, _, _, h, _⟩ => Nat.not_lt_zero _ h).mono (Nat.zero_le _)
  | n + 1 => by
    have ih := cl_heavier D iv va us we tw rk m1 m3 n
    refine D.cl (k := 2 * n + 31) sc_is_heavier (fun ds d r => by obtain ⟨s, t, _, _, _, _, rfl, _⟩ := r; rfl) fun c Pt A outer s H vs ds d Q E TB hP hr tG hv' r q => ?_
    refine ⟨_, pss_cons (ps_if (pt_val (pe_anyG (own := [("name", 9)]) hr sc_is_heavier.nd TB rfl (blkOk_by (N := ["one", "other", "weights", "least", "ranks", "mine", "theirs", "a", "b", "name"]) (sc := defScope s_is_heavier) (by decide +kernel)) m1 (pi_tup (pe_cl va (hr.mono (by omega)) rfl (pa_cons (pv 1) pa_nil)))
          (fun s H C code fp A _ => pg_name (i := 9) sc_is_heavier.nd rfl (Or.inl rfl)) (fun s H C code fp A _ => pts_nil)
          (fun s H C code fp A r => pe_cmpR op_lt (pe_cl us (r.mono (by omega)) rfl (pa_cons (pv 0) (pa_cons (pv 9) pa_nil))) (pe_cl us (r.mono (by omega)) rfl (pa_cons (pv 1) (pa_cons (pv 9) pa_nil))) (nomark _)))) (pss_one (ps_ret pe_bl)) pss_nil)
      (pss_cons (ps_par (i := 5) (j := 6) (by rfl) sc_is_heavier.nd rfl rfl (by decide) rfl rfl (pa_cons (pe_cl we (hr.mono (by omega)) rfl (pa_cons (pv 0) (pa_cons (pv 2) (pa_cons (pv 3) pa_nil)))) (pa_cons (pe_cl we (hr.mono (by omega)) rfl (pa_cons (pv 1) (pa_cons (pv 2) (pa_cons (pv 3) pa_nil)))) pa_nil)) (by rfl))
      (pss_cons (ps_if (pt_cmpR op_ne (pv 5) (pv 6) (nomark _)) (pss_one (ps_ret (pe_cmpR op_gt (pv 5) (pv 6) (nomark _)))) pss_nil)
      (pss_cons (ps_if (pt_val (pe_cl iv (hr.mono (by omega)) rfl (pa_cons (pv 0) pa_nil))) (pss_one (ps_ret pe_bl)) pss_nil)
      (pss_cons (ps_if (pt_val (pe_cl iv (hr.mono (by omega)) rfl (pa_cons (pv 1) pa_nil))) (pss_one (ps_ret (pe_cl tw (hr.mono (by omega)) rfl (pa_cons (pv 0) (pa_cons (pv 1) pa_nil))))) pss_nil)
      (pss_cons (ps_if (pt_cmpR op_ne (pe_ix ix_tup (pv 0) pe_int (fun _ _ => rfl)) (pe_ix ix_tup (pv 1) pe_int (fun _ _ => rfl)) (nomark _))
          (pss_one (ps_ret (pe_cmpR op_gt (pe_cl rk (hr.mono (by omega)) rfl (pa_cons (pe_ix ix_tup (pv 0) pe_int (fun _ _ => rfl)) (pa_cons (pv 4) pa_nil))) (pe_cl rk (hr.mono (by omega)) rfl (pa_cons (pe_ix ix_tup (pv 1) pe_int (fun _ _ => rfl)) (pa_cons (pv 4) pa_nil))) (nomark _)))) pss_nil)
      (pss_cons (ps_for PassesOwn.never rfl (RZ.pi_zipA (by rfl) m3 (pa_cons (pe_ix ix_tup (pv 0) pe_int (fun _ _ => rfl)) (pa_cons (pe_ix ix_tup (pv 1) pe_int (fun _ _ => rfl)) pa_nil)))
          (pg_tup rfl (pgs_cons (pg_name (i := 7) sc_is_heavier.nd rfl (Or.inl rfl)) (pgs_cons (pg_name (i := 8) sc_is_heavier.nd rfl (Or.inl rfl)) pgs_nil)))
          (pss_one (ps_if (pt_cmpR (op_neD hr.units) (pv 7) (pv 8) (nomark _)) (pss_one (ps_ret (pe_cl ih (hr.mono (by omega)) rfl (pa_cons (pv 7) (pa_cons (pv 8) (pa_cons (pv 2) (pa_cons (pv 3) (pa_cons (pv 4) pa_nil)))))))) pss_nil)))
      (pss_one (ps_ret pe_bl)))))))), ?_⟩
    obtain ⟨s, t, m, wt, l, ar, rfl, fs, ft, is, it, hd, rfl⟩ := r
    obtain ⟨v, u, z, y0, x0, rfl, rv, ru, rz, ry, rx⟩ := arA_five hv'
    have v0 : ∀ {H'} {a b c d e}, Ext G H H' → Ed G K (tVar 0) [some v, some u, some z, some y0, some x0, a, b, c, d, e] H' (enc s) := fun y => ed_var (tG.ext y) rfl (dp_ext y tG rv)
    have v1 : ∀ {H'} {a b c d e}, Ext G H H' → Ed G K (tVar 1) [some v, some u, some z, some y0, some x0, a, b, c, d, e] H' (enc t) := fun y => ed_var (tG.ext y) rfl (dp_ext y tG ru)
    have v2 : ∀ {H'} {a b c d e}, Ext G H H' → EdX G K (tVar 2) [some v, some u, some z, some y0, some x0, a, b, c, d, e] H' (.k (encT wt)) := fun y => edx_var (tG.ext y) rfl (ar_ext y tG rz)
    have v3 : ∀ {H'} {a b c d e}, Ext G H H' → EdX G K (tVar 3) [some v, some u, some z, some y0, some x0, a, b, c, d, e] H' (.d (.int l)) := fun y => edx_var (tG.ext y) rfl (ar_ext y tG ry)
    have v4 : ∀ {H'} {a b c d e}, Ext G H H' → EdX G K (tVar 4) [some v, some u, some z, some y0, some x0, a, b, c, d, e] H' (.k (encT m)) := fun y => edx_var (tG.ext y) rfl (ar_ext y tG rx)
    have rf := Ext.refl G H
    have ean : ((t.vars.map PyData.str).any fun d => decide ((s.uses (unS d) : Int) < t.uses (unS d))) = t.vars.any fun x => decide ((s.uses x : Int) < t.uses x) := by rw [List.any_map]; rfl
    refine s_ifR (edt_val (ed_is (ed_anyT (p := fun d => decide ((s.uses (unS d) : Int) < t.uses (unS d))) hP tG (ea_call tG (ea_one (edx_of (v1 rf))) ⟨t, rfl, ft.o, ft.d, ft.l, rfl⟩) (by decide) fun d u1 H1 hd1 x1 t1 rp => ?_) (congrArg PyData.bool ean))) (fun h1 H2 y2 => ?_) fun h1 H2 y2 => ?_
    · obtain ⟨x, hx, rfl⟩ := List.mem_map.mp hd1
      exact ed_op t1 (ea_call t1 (ea_cons t1 (edx_of (v0 x1)) (ea_one (edx_of (ed_var t1 rfl rp)))) ⟨s, x, rfl, fs.o, fs.d, rfl⟩) (ea_call t1 (ea_cons t1 (edx_of (v1 x1)) (ea_one (edx_of (ed_var t1 rfl rp)))) ⟨t, x, rfl, ft.o, ft.d, rfl⟩) rd_ltI
    · refine s_ret (K := K) ed_bl fun w' H3 y3 rw_ => q w' H3 (y2.trans y3) ?_
      rw [hv, h1]
      exact rw_
    have t2 := tG.ext y2
    have eW : EdA G K (tCons (tCall (spA G K (R_weight 12)) [] (fun _ _ _ => False) (tCons (tVar 0) (tCons (tVar 2) (tCons (tVar 3) tNil)))) (tCons (tCall (spA G K (R_weight 12)) [] (fun _ _ _ => False) (tCons (tVar 1) (tCons (tVar 2) (tCons (tVar 3) tNil)))) tNil)) [some v, some u, some z, some y0, some x0, none, none, none, none, none] H2 [.int (s.weight wt l), .int (t.weight wt l)] :=
      ed_cons t2 (ea_call t2 (ea_cons t2 (edx_of (v0 y2)) (ea_cons t2 (v2 y2) (ea_one (v3 y2)))) ⟨s, wt, l, rfl, fs.o, is, fs.d, rfl⟩) (ed_one (ea_call t2 (ea_cons t2 (edx_of (v1 y2)) (ea_cons t2 (v2 y2) (ea_one (v3 y2)))) ⟨t, wt, l, rfl, ft.o, it, ft.d, rfl⟩))
    refine s_par eW fun w1 w2 H3 x3 rw1 rw2 => ?_
    rw [dp_int rw1, dp_int rw2]
    have y3 := y2.trans x3
    have t3 := tG.ext y3
    refine s_ifR (edt_test (K := K) (ed_op t3 (ed_var t3 rfl (.int _)) (ed_var t3 rfl (.int _)) rd_neI)) (fun h2 H4 y4 => ?_) fun h2 H4 y4 => ?_
    · have h2' : ¬ s.weight wt l = t.weight wt l := by simpa using h2
      have t4 := t3.ext y4
      refine s_ret (K := K) (ed_op (K := K) t4 (ed_var t4 rfl (.int _)) (ed_var t4 rfl (.int _)) rd_gtI) fun w' H5 y5 rw_ => q w' H5 ((y3.trans y4).trans y5) ?_
      rw [hv, h1, if_neg h2']
      exact rw_
    have h2' : s.weight wt l = t.weight wt l := by simpa using h2
    have y5 := y3.trans y4
    have t5 := tG.ext y5
    refine s_ifR (edt_val (ed_iv t5 fs.o (v0 y5))) (fun h3 H6 y6 => ?_) fun h3 H6 y6 => ?_
    · refine s_ret (K := K) ed_bl fun w' H7 y7 rw_ => q w' H7 ((y5.trans y6).trans y7) ?_
      rw [hv, h1, if_pos h2', h3]
      exact rw_
    have y7 := y5.trans y6
    have t7 := tG.ext y7
    refine s_ifR (edt_val (ed_iv t7 ft.o (v1 y7))) (fun h4 H8 y8 => ?_) fun h4 H8 y8 => ?_
    · have y9 := y7.trans y8
      have t9 := tG.ext y9
      refine s_ret (K := K) (ea_call t9 (ea_cons t9 (edx_of (v0 y9)) (ea_one (edx_of (v1 y9)))) ⟨s, t.sgn, by rw [enc_v h4], T.ok.w fs.o, rfl⟩) fun w' H9 y10 rw_ => q w' H9 (y9.trans y10) ?_
      rw [hv, h1, if_pos h2', h3, if_pos h4]
      exact rw_
    have y9 := y7.trans y8
    have t9 := tG.ext y9
    have e7 : hv m wt l (n + 1) s t = if s.sgn = t.sgn then lexB (hv m wt l n) s.parts t.parts else decide (rkT m t.sgn < rkT m s.sgn) := by
      rw [hv, h1, if_pos h2', h3, h4]
      simp
    refine s_ifR (edt_test (ed_op t9 (ed_sgn t9 h3 (v0 y9)) (ed_sgn t9 h4 (v1 y9)) rd_neS)) (fun h5 H10 y10 => ?_) fun h5 H10 y10 => ?_
    · have h5' : ¬ s.sgn = t.sgn := by simpa using h5
      have y11 := y9.trans y10
      have t11 := tG.ext y11
      obtain ⟨k1, hk1⟩ := T.inT_sgn fs.i h3
      obtain ⟨k2, hk2⟩ := T.inT_sgn ft.i h4
      refine s_ret (K := K) (ed_op t11 (ea_call t11 (ea_cons t11 (edx_of (ed_sgn t11 h3 (v0 y11))) (ea_one (v4 y11))) ⟨s.sgn, m, k1, rfl, hk1, rfl⟩) (ea_call t11 (ea_cons t11 (edx_of (ed_sgn t11 h4 (v1 y11))) (ea_one (v4 y11))) ⟨t.sgn, m, k2, rfl, hk2, rfl⟩) rd_gtI) fun w' H12 y12 rw_ => q w' H12 (y11.trans y12) ?_
      rw [e7, if_neg h5', rkT, rkT, hk1, hk2]
      exact rw_
    have h5' : s.sgn = t.sgn := by simpa using h5
    have y11 := y9.trans y10
    have t11 := tG.ext y11
    have hlen : s.parts.length = t.parts.length := by rw [T.inA_len fs.a h3, T.inA_len ft.a h4, h5']
    rw [e7, if_pos h5'] at q
    refine s_forZ (K := K) t11 (ed_cons t11 (ed_parts t11 h3 (v0 y11)) (ed_one (ed_parts t11 h4 (v1 y11)))) (by rw [List.length_map, List.length_map, hlen])
      (fun i σ' => (∃ a b c d, σ' = [some v, some u, some z, some y0, some x0, a, b, c, d, none]) ∧ lexB (hv m wt l n) s.parts t.parts = lexB (hv m wt l n) (s.parts.drop i) (t.parts.drop i)) ⟨⟨_, _, none, none, rfl⟩, rfl⟩ ?_ ?_
    · rintro i d d2 va ua T2 σ' H' N hd1 hd2 ⟨⟨a0, b0, c0, d0, rfl⟩, el⟩ x1 ra rb hT t1 hN
      rw [List.getElem?_map] at hd1 hd2
      obtain ⟨p, hp, rfl⟩ := Option.map_eq_some_iff.mp hd1
      obtain ⟨p2, hp2, rfl⟩ := Option.map_eq_some_iff.mp hd2
      have mp := List.mem_of_getElem? hp
      have mp2 := List.mem_of_getElem? hp2
      have x3 := y11.trans x1
      have dr : ∀ {l : List Rh.T} {q : Rh.T}, l[i]? = some q → l.drop i = q :: l.drop (i + 1) := fun hk => by
        obtain ⟨h1, h2⟩ := List.getElem?_eq_some_iff.mp hk
        rw [List.drop_eq_getElem_cons h1, h2]
      rw [dr hp, dr hp2, lexB] at el
      refine ⟨T2, [va, ua], rfl, .inl (.inl hT), rfl, va, [ua], rfl, ua, [], rfl, rfl, ?_⟩
      refine s_if (b := !decide (p = p2)) (edt_test (ed_op t1 (ed_var t1 rfl ra) (ed_var t1 rfl rb) (rd_neT (fs.parts mp).o (ft.parts mp2).o (by have := (fs.parts mp).d; omega) (by have := (ft.parts mp2).d; omega)))) (fun h6 H3 x4 => ?_) fun h6 H3 x4 => ?_
      · have h6' : ¬ p = p2 := by simpa using h6
        rw [if_neg h6'] at el
        have t4 := t1.ext x4
        have x5 := x3.trans x4
        refine s_ret (K := K) (ea_call t4 (ea_cons t4 (edx_of (ed_var t4 rfl (dp_ext x4 t1 ra))) (ea_cons t4 (edx_of (ed_var t4 rfl (dp_ext x4 t1 rb))) (ea_cons t4 (v2 x5) (ea_cons t4 (v3 x5) (ea_one (v4 x5)))))) ⟨p, p2, m, wt, l, ar, rfl, fs.parts mp, ft.parts mp2, T.inT_parts is mp, T.inT_parts it mp2, by have := T.dp_parts mp; omega, rfl⟩) fun w' H9 y12 rw_ => q w' H9 (x5.trans y12) ?_
        rw [el]
        exact rw_
      · have h6' : p = p2 := by simpa using h6
        rw [if_pos h6'] at el
        exact hN _ _ x4 ⟨⟨_, _, _, _, rfl⟩, el⟩
    · rintro σ' H' x1 ⟨⟨a0, b0, c0, d0, rfl⟩, el⟩
      have x3 := y11.trans x1
      rw [List.length_map, List.drop_length, hlen, List.drop_length] at el
      exact q (.bl false) H' x3 (by rw [el]; exact .bl false)
end
end Rh
set_option Elab.async false
set_option linter.all false
set_option maxRecDepth 100000
set_option maxHeartbeats 1000000
/-! paths and weights: what the two orders keep -/
namespace Rh
open PySem PySem.Spec PyProof.Rows L2 GxR Gx Dl
theorem any_congr' {α : Type} {f g : α → Bool} : ∀ {l : List α}, (∀ p ∈ l, f p = g p) → l.any f = l.any g
  | [], _ => rfl
  | x :: r, h => by rw [List.any_cons, List.any_cons, h x List.mem_cons_self, any_congr' fun p hp => h p (List.mem_cons_of_mem _ hp)]
theorem all_congr' {α : Type} {f g : α → Bool} : ∀ {l : List α}, (∀ p ∈ l, f p = g p) → l.all f = l.all g
  | [], _ => rfl
  | x :: r, h => by rw [List.all_cons, List.all_cons, h x List.mem_cons_self, all_congr' fun p hp => h p (List.mem_cons_of_mem _ hp)]
theorem lexB_congr {f g : T → T → Bool} : ∀ {l k : List T}, (∀ a ∈ l, ∀ b ∈ k, f a b = g a b) → lexB f l k = lexB g l k
  | [], _, _ => by simp [lexB]
  | _ :: _, [], _ => by simp [lexB]
  | a :: r, b :: q, h => by
    rw [lexB, lexB, h a List.mem_cons_self b List.mem_cons_self, lexB_congr fun x hx y hy => h x (List.mem_cons_of_mem _ hx) y (List.mem_cons_of_mem _ hy)]
/-- the first unlike pair goes down -/
def LexP (R : T → T → Prop) : List T → List T → Prop
  | a :: r, b :: q => (a = b ∧ LexP R r q) ∨ (a ≠ b ∧ R a b)
  | _, _ => False
theorem lexB_iff {f : T → T → Bool} : ∀ {l k : List T}, lexB f l k = true ↔ LexP (fun a b => f a b = true) l k
  | [], _ => by simp [lexB, LexP]
  | _ :: _, [] => by simp [lexB, LexP]
  | a :: r, b :: q => by
    rw [lexB, LexP]
    by_cases h : a = b
    · simp [h, lexB_iff]
    · simp [h]
theorem lexP_irr {R : T → T → Prop} : ∀ {l : List T}, ¬ LexP R l l
  | [], h => h
  | a :: r, h => by
    rcases h with ⟨_, h⟩ | ⟨h, _⟩
    · exact lexP_irr h
    · exact h rfl
theorem lexP_tr {R : T → T → Prop} : ∀ {l k j : List T}, (∀ a ∈ l, ∀ b ∈ k, ∀ c ∈ j, R a b → R b c → R a c ∧ a ≠ c) → LexP R l k → LexP R k j → LexP R l j
  | a :: r, b :: q, c :: p, h, h1, h2 => by
    rcases h1 with ⟨e1, h1⟩ | ⟨e1, h1⟩
    · rcases h2 with ⟨e2, h2⟩ | ⟨e2, h2⟩
      · exact .inl ⟨e1.trans e2, lexP_tr (fun a ha b hb c hc => h a (List.mem_cons_of_mem _ ha) b (List.mem_cons_of_mem _ hb) c (List.mem_cons_of_mem _ hc)) h1 h2⟩
      · exact .inr ⟨by rw [e1]; exact e2, by rw [e1]; exact h2⟩
    · rcases h2 with ⟨e2, h2⟩ | ⟨e2, h2⟩
      · exact .inr ⟨by rw [← e2]; exact e1, by rw [← e2]; exact h1⟩
      · have := h a List.mem_cons_self b List.mem_cons_self c List.mem_cons_self h1 h2
        exact .inr ⟨this.2, this.1⟩
  | [], _, _, _, h1, _ => h1.elim
  | _ :: _, [], _, _, h1, _ => h1.elim
  | _ :: _, _ :: _, [], _, _, h2 => h2.elim
theorem lexP_map {R : T → T → Prop} {g : T → T} : ∀ {l k : List T}, (∀ a ∈ l, ∀ b ∈ k, R a b → R (g a) (g b) ∧ g a ≠ g b) → LexP R l k → LexP R (l.map g) (k.map g)
  | a :: r, b :: q, h, h1 => by
    rcases h1 with ⟨e1, h1⟩ | ⟨e1, h1⟩
    · exact .inl ⟨by rw [e1], lexP_map (fun a ha b hb => h a (List.mem_cons_of_mem _ ha) b (List.mem_cons_of_mem _ hb)) h1⟩
    · have := h a List.mem_cons_self b List.mem_cons_self h1
      exact .inr ⟨this.2, this.1⟩
  | [], _, _, h1 => h1.elim
  | _ :: _, [], _, h1 => h1.elim
theorem lexP_total {R : T → T → Prop} : ∀ {l k : List T}, l.length = k.length → (∀ a ∈ l, ∀ b ∈ k, a ≠ b → R a b ∨ R b a) → l ≠ k → LexP R l k ∨ LexP R k l
  | [], [], _, _, h => (h rfl).elim
  | [], _ :: _, h, _, _ => by simp at h
  | _ :: _, [], h, _, _ => by simp at h
  | a :: r, b :: q, hl, h, hn => by
    by_cases e : a = b
    · have hn' : r ≠ q := fun z => hn (by rw [e, z])
      rcases lexP_total (by simpa using hl) (fun a ha b hb => h a (List.mem_cons_of_mem _ ha) b (List.mem_cons_of_mem _ hb)) hn' with z | z
      · exact .inl (.inl ⟨e, z⟩)
      · exact .inr (.inl ⟨e.symm, z⟩)
    · rcases h a List.mem_cons_self b List.mem_cons_self e with z | z
      · exact .inl (.inr ⟨e, z⟩)
      · exact .inr (.inr ⟨fun z => e z.symm, z⟩)
theorem lexP_imp {R S : T → T → Prop} : ∀ {l k : List T}, (∀ a ∈ l, ∀ b ∈ k, R a b → S a b) → LexP R l k → LexP S l k
  | a :: r, b :: q, h, h1 => by
    rcases h1 with ⟨e1, h1⟩ | ⟨e1, h1⟩
    · exact .inl ⟨e1, lexP_imp (fun a ha b hb => h a (List.mem_cons_of_mem _ ha) b (List.mem_cons_of_mem _ hb)) h1⟩
    · exact .inr ⟨e1, h a List.mem_cons_self b List.mem_cons_self h1⟩
  | [], _, _, h1 => h1.elim
  | _ :: _, [], _, h1 => h1.elim
theorem isV_of_part {t p : T} (h : p ∈ t.parts) : t.isV = false := by cases t <;> first | rfl | cases h
theorem same_node {s t : T} (h : s.isV = false) (h2 : t.isV = false) (e : s.sgn = t.sgn) (ep : s.parts = t.parts) : s = t := by
  apply enc_inj
  rw [enc_n h, enc_n h2, e, ep]
theorem same_var {s t : T} (h : s.isV = true) (h2 : t.isV = true) (e : s.sgn = t.sgn) : s = t := by
  apply enc_inj
  rw [enc_v h, enc_v h2, e]
theorem vars_parts {s : T} (h : s.isV = false) (x : Str) : x ∈ s.vars ↔ ∃ p ∈ s.parts, x ∈ p.vars := by
  rw [T.vars_n h, srtS_mem, ddS_mem, List.mem_flatMap]
section
variable (m : Tb)
theorem ab_fuel : ∀ (n k : Nat) (s t : T), s.dp + t.dp < n → s.dp + t.dp < k → ab m n s t = ab m k s t
  | 0, _, _, _, h, _ => (Nat.not_lt_zero _ h).elim
  | _ + 1, 0, _, _, _, h => (Nat.not_lt_zero _ h).elim
  | n + 1, k + 1, s, t, h1, h2 => by
    rw [ab, ab]
    have e1 : (s.parts.any fun p => decide (p = t) || ab m n p t) = s.parts.any fun p => decide (p = t) || ab m k p t := any_congr' fun p hp => by
      have := T.dp_parts hp
      rw [ab_fuel n k p t (by omega) (by omega)]
    have e2 : (t.parts.all fun p => ab m n s p) = t.parts.all fun p => ab m k s p := all_congr' fun p hp => by
      have := T.dp_parts hp
      rw [ab_fuel n k s p (by omega) (by omega)]
    have e3 : lexB (ab m n) s.parts t.parts = lexB (ab m k) s.parts t.parts := lexB_congr fun a ha b hb => by
      have := T.dp_parts ha
      have := T.dp_parts hb
      exact ab_fuel n k a b (by omega) (by omega)
    rw [e1, e2, e3]
/-- above by paths -/
def Gt (s t : T) : Prop := ab m (s.dp + t.dp + 1) s t = true
theorem gt_at {n : Nat} {s t : T} (h : s.dp + t.dp < n) : ab m n s t = true ↔ Gt m s t := by
  unfold Gt
  rw [ab_fuel m n (s.dp + t.dp + 1) s t h (by omega)]
theorem gt_var {s : T} {x : Str} : Gt m s (.v x) ↔ s.isV = false ∧ x ∈ s.vars := by
  unfold Gt
  rw [ab]
  cases h : s.isV with
  | true => simp
  | false =>
    simp only [T.isV, T.sgn, Bool.not_false, Bool.true_and, if_true, true_and]
    exact decide_eq_true_iff
theorem gt_iff (s t : T) : Gt m s t ↔ s.isV = false ∧ ((∃ p ∈ s.parts, p = t ∨ Gt m p t) ∨ (t.isV = false ∧ (∀ q ∈ t.parts, Gt m s q) ∧ (if s.sgn = t.sgn then LexP (Gt m) s.parts t.parts else rkT m t.sgn < rkT m s.sgn))) := by
  cases hs : s.isV with
  | true =>
    unfold Gt
    rw [ab, hs]
    simp
  | false =>
    cases ht : t.isV with
    | true =>
      cases t with
      | v x =>
        rw [gt_var, hs]
        simp only [true_and, T.isV, Bool.true_eq_false, false_and, or_false]
        rw [vars_parts hs]
        constructor
        · rintro ⟨p, hp, hx⟩
          refine ⟨p, hp, ?_⟩
          cases hp2 : p.isV with
          | true =>
            cases p with
            | v y =>
              rw [T.vars, List.mem_singleton] at hx
              exact .inl (by rw [hx])
            | c _ => cases hp2
            | u _ _ => cases hp2
            | b _ _ _ => cases hp2
          | false => exact .inr ((gt_var m).mpr ⟨hp2, hx⟩)
        · rintro ⟨p, hp, h | h⟩
          · exact ⟨p, hp, by rw [h]; exact List.mem_singleton.mpr rfl⟩
          · exact ⟨p, hp, ((gt_var m).mp h).2⟩
      | c _ => cases ht
      | u _ _ => cases ht
      | b _ _ _ => cases ht
    | false =>
      have e0 : Gt m s t ↔ ab m (s.dp + t.dp + 1) s t = true := Iff.rfl
      rw [e0, ab, hs, ht]
      have e1 : (s.parts.any fun p => decide (p = t) || ab m (s.dp + t.dp) p t) = true ↔ ∃ p ∈ s.parts, p = t ∨ Gt m p t := by
        rw [List.any_eq_true]
        refine exists_congr fun p => and_congr_right fun hp => ?_
        have := T.dp_parts hp
        rw [Bool.or_eq_true, decide_eq_true_iff, gt_at m (by omega)]
      have e2 : (t.parts.all fun p => ab m (s.dp + t.dp) s p) = true ↔ ∀ q ∈ t.parts, Gt m s q := by
        rw [List.all_eq_true]
        refine forall_congr' fun p => forall_congr' fun hp => ?_
        have := T.dp_parts hp
        rw [gt_at m (by omega)]
      have e3 : lexB (ab m (s.dp + t.dp)) s.parts t.parts = true ↔ LexP (Gt m) s.parts t.parts := by
        rw [lexB_iff]
        constructor
        · refine lexP_imp fun a ha b hb h => ?_
          have := T.dp_parts ha
          have := T.dp_parts hb
          exact (gt_at m (by omega)).mp h
        · refine lexP_imp fun a ha b hb h => ?_
          have := T.dp_parts ha
          have := T.dp_parts hb
          exact (gt_at m (by omega)).mpr h
      simp only [Bool.not_false, Bool.true_and, Bool.false_eq_true, if_false, Bool.or_eq_true, Bool.and_eq_true, e1, e2, true_and]
      by_cases hx : s.sgn = t.sgn
      · simp only [if_pos hx, e3]
      · simp only [if_neg hx, decide_eq_true_iff]
variable {m}
theorem gt_part {s p t : T} (hp : p ∈ s.parts) (h : p = t ∨ Gt m p t) : Gt m s t := (gt_iff m s t).mpr ⟨isV_of_part hp, .inl ⟨p, hp, h⟩⟩
theorem gt_sub : ∀ (n : Nat) (s t q : T), s.size ≤ n → Gt m s t → q ∈ t.parts → Gt m s q
  | 0, s, t, q, hn, _, _ => by
    exfalso
    have : 0 < s.size := by cases s <;> simp [T.size]
    omega
  | n + 1, s, t, q, hn, h, hq => by
    rcases (gt_iff m s t).mp h with ⟨hs, ⟨p, hp, e | h⟩ | ⟨ht, h, _⟩⟩
    · subst e
      exact gt_part hp (.inr (gt_part hq (.inl rfl)))
    · have := T.size_parts hp
      exact gt_part hp (.inr (gt_sub n p t q (by omega) h hq))
    · exact h q hq
theorem gt_irr : ∀ (n : Nat) (s : T), s.size ≤ n → ¬ Gt m s s
  | 0, s, hn, _ => by
    have : 0 < s.size := by cases s <;> simp [T.size]
    omega
  | n + 1, s, hn, h => by
    rcases (gt_iff m s s).mp h with ⟨hs, ⟨p, hp, e | h⟩ | ⟨ht, h, hl⟩⟩
    · have := T.size_parts hp
      rw [e] at this
      omega
    · have := T.size_parts hp
      exact gt_irr n p (by omega) (gt_sub p.size p s p (Nat.le_refl _) h hp)
    · rw [if_pos rfl] at hl
      exact lexP_irr hl
theorem gt_ne {s t : T} (h : Gt m s t) : s ≠ t := fun e => gt_irr s.size s (Nat.le_refl _) (by rw [← e] at h; exact h)
theorem gt_tr : ∀ (n : Nat) (s t u : T), s.size + t.size + u.size ≤ n → Gt m s t → Gt m t u → Gt m s u
  | 0, s, t, u, hn, _, _ => by
    exfalso
    have : 0 < s.size := by cases s <;> simp [T.size]
    omega
  | n + 1, s, t, u, hn, h1, h2 => by
    rcases (gt_iff m s t).mp h1 with ⟨hs, ⟨p, hp, e | h⟩ | ⟨ht, ha, hl⟩⟩
    · subst e
      exact gt_part hp (.inr h2)
    · have := T.size_parts hp
      exact gt_part hp (.inr (gt_tr n p t u (by omega) h h2))
    · rcases (gt_iff m t u).mp h2 with ⟨_, ⟨p, hp, e | h⟩ | ⟨hu, hb, hk⟩⟩
      · subst e
        exact ha p hp
      · have := T.size_parts hp
        exact gt_tr n s p u (by omega) (ha p hp) h
      · refine (gt_iff m s u).mpr ⟨hs, .inr ⟨hu, fun q hq => ?_, ?_⟩⟩
        · have := T.size_parts hq
          exact gt_tr n s t q (by omega) h1 (hb q hq)
        · by_cases e1 : s.sgn = t.sgn
          · rw [if_pos e1] at hl
            by_cases e2 : t.sgn = u.sgn
            · rw [if_pos e2] at hk
              rw [if_pos (e1.trans e2)]
              refine lexP_tr (fun a ha b hb c hc h3 h4 => ?_) hl hk
              have := T.size_parts ha
              have := T.size_parts hb
              have := T.size_parts hc
              have h5 := gt_tr n a b c (by omega) h3 h4
              exact ⟨h5, gt_ne h5⟩
            · rw [if_neg e2] at hk
              rw [if_neg (fun z => e2 (e1.symm.trans z)), e1]
              exact hk
          · rw [if_neg e1] at hl
            by_cases e2 : t.sgn = u.sgn
            · rw [if_neg (fun z => e1 (z.trans e2.symm)), ← e2]
              exact hl
            · rw [if_neg e2] at hk
              rw [if_neg (fun z => by rw [z] at hl; omega)]
              omega
theorem gt_trans {s t u : T} (h1 : Gt m s t) (h2 : Gt m t u) : Gt m s u := gt_tr _ s t u (Nat.le_refl _) h1 h2
theorem put_parts {σ : Sub} {t : T} (h : t.isV = false) : (t.put σ).isV = false ∧ (t.put σ).sgn = t.sgn ∧ (t.put σ).parts = t.parts.map (T.put σ) := by
  cases t with
  | v x => cases h
  | c s => exact ⟨rfl, rfl, rfl⟩
  | u s t => exact ⟨rfl, rfl, rfl⟩
  | b s t r => exact ⟨rfl, rfl, rfl⟩
theorem gt_put {σ : Sub} : ∀ (n : Nat) (s t : T), s.size + t.size ≤ n → Gt m s t → Gt m (s.put σ) (t.put σ)
  | 0, s, t, hn, _ => by
    exfalso
    have : 0 < s.size := by cases s <;> simp [T.size]
    omega
  | n + 1, s, t, hn, h => by
    rcases (gt_iff m s t).mp h with ⟨hs, ⟨p, hp, e | h⟩ | ⟨ht, ha, hl⟩⟩
    · obtain ⟨e1, e2, e3⟩ := put_parts (σ := σ) hs
      exact gt_part (p := p.put σ) (by rw [e3]; exact List.mem_map.mpr ⟨p, hp, rfl⟩) (.inl (by rw [e]))
    · obtain ⟨e1, e2, e3⟩ := put_parts (σ := σ) hs
      have := T.size_parts hp
      exact gt_part (p := p.put σ) (by rw [e3]; exact List.mem_map.mpr ⟨p, hp, rfl⟩) (.inr (gt_put n p t (by omega) h))
    · obtain ⟨e1, e2, e3⟩ := put_parts (σ := σ) hs
      obtain ⟨f1, f2, f3⟩ := put_parts (σ := σ) ht
      refine (gt_iff m _ _).mpr ⟨e1, .inr ⟨f1, fun q hq => ?_, ?_⟩⟩
      · rw [f3] at hq
        obtain ⟨q0, hq0, rfl⟩ := List.mem_map.mp hq
        have := T.size_parts hq0
        exact gt_put n s q0 (by omega) (ha q0 hq0)
      · rw [e2, f2, e3, f3]
        split at hl
        · next e =>
          rw [if_pos e]
          refine lexP_map (fun a ha b hb h => ?_) hl
          have := T.size_parts ha
          have := T.size_parts hb
          have h5 := gt_put (σ := σ) n a b (by omega) h
          exact ⟨h5, gt_ne h5⟩
        · next e =>
          rw [if_neg e]
          exact hl
/-- without variables -/
def T.closed : T → Prop
  | .v _ => False
  | .c _ => True
  | .u _ t => t.closed
  | .b _ t r => t.closed ∧ r.closed
theorem closed_parts {t p : T} (h : t.closed) (hp : p ∈ t.parts) : p.closed := by
  cases t with
  | v x => cases hp
  | c s => cases hp
  | u s t =>
    rw [T.parts, List.mem_singleton] at hp
    subst hp
    exact h
  | b s t r =>
    rw [T.parts, List.mem_cons, List.mem_singleton] at hp
    rcases hp with hp | hp <;> subst hp
    · exact h.1
    · exact h.2
theorem closed_n {t : T} (h : t.closed) : t.isV = false := by cases t <;> first | rfl | exact h.elim
theorem gt_total {ar : Str → Nat} (inj : ∀ x y : Str, (getT m x).isSome = true → (getT m y).isSome = true → x ≠ y → rkT m x ≠ rkT m y) : ∀ (n : Nat) (s t : T), s.size + t.size ≤ n → s.closed → t.closed → s.inA ar → t.inA ar → s.inT m → t.inT m → s ≠ t → Gt m s t ∨ Gt m t s
  | 0, s, t, hn, _, _, _, _, _, _, _ => by
    exfalso
    have : 0 < s.size := by cases s <;> simp [T.size]
    omega
  | n + 1, s, t, hn, cs, ct, as, at_, is, it, ne => by
    have vs := closed_n cs
    have vt := closed_n ct
    by_cases h1 : ∃ p ∈ s.parts, p = t ∨ Gt m p t
    · obtain ⟨p, hp, h⟩ := h1
      exact .inl (gt_part hp h)
    by_cases h2 : ∃ p ∈ t.parts, p = s ∨ Gt m p s
    · obtain ⟨p, hp, h⟩ := h2
      exact .inr (gt_part hp h)
    have a1 : ∀ q ∈ t.parts, Gt m s q := fun q hq => by
      have := T.size_parts hq
      rcases gt_total inj n s q (by omega) cs (closed_parts ct hq) as (T.inA_parts at_ hq) is (T.inT_parts it hq) (fun e => h2 ⟨q, hq, .inl e.symm⟩) with z | z
      · exact z
      · exact (h2 ⟨q, hq, .inr z⟩).elim
    have a2 : ∀ q ∈ s.parts, Gt m t q := fun q hq => by
      have := T.size_parts hq
      rcases gt_total inj n q t (by omega) (closed_parts cs hq) ct (T.inA_parts as hq) at_ (T.inT_parts is hq) it (fun e => h1 ⟨q, hq, .inl e⟩) with z | z
      · exact (h1 ⟨q, hq, .inr z⟩).elim
      · exact z
    by_cases e : s.sgn = t.sgn
    · have hl : s.parts.length = t.parts.length := by rw [T.inA_len as vs, T.inA_len at_ vt, e]
      rcases lexP_total (R := Gt m) hl (fun a ha b hb hab => by
        have := T.size_parts ha
        have := T.size_parts hb
        exact gt_total inj n a b (by omega) (closed_parts cs ha) (closed_parts ct hb) (T.inA_parts as ha) (T.inA_parts at_ hb) (T.inT_parts is ha) (T.inT_parts it hb) hab) (fun z => ne (same_node vs vt e z)) with z | z
      · exact .inl ((gt_iff m s t).mpr ⟨vs, .inr ⟨vt, a1, by rw [if_pos e]; exact z⟩⟩)
      · exact .inr ((gt_iff m t s).mpr ⟨vt, .inr ⟨vs, a2, by rw [if_pos e.symm]; exact z⟩⟩)
    · obtain ⟨k1, hk1⟩ := T.inT_sgn is vs
      obtain ⟨k2, hk2⟩ := T.inT_sgn it vt
      have hne := inj s.sgn t.sgn (by rw [hk1]; rfl) (by rw [hk2]; rfl) e
      rcases Int.lt_or_gt_of_ne hne with z | z
      · exact .inr ((gt_iff m t s).mpr ⟨vt, .inr ⟨vs, a2, by rw [if_neg (fun q => e q.symm)]; exact z⟩⟩)
      · exact .inl ((gt_iff m s t).mpr ⟨vs, .inr ⟨vt, a1, by rw [if_neg e]; exact z⟩⟩)
theorem gt_at_place : ∀ (p : List Nat) (t r : T), p ≠ [] → t.at p = some r → Gt m t r
  | [], _, _, h, _ => (h rfl).elim
  | k :: p, t, r, _, h => by
    obtain ⟨q, hq, hr, _⟩ := T.at_cons h
    have hm := List.mem_of_getElem? hq
    cases p with
    | nil =>
      rw [T.at_nil] at hr
      exact gt_part hm (.inl (Option.some.inj hr))
    | cons j p => exact gt_part hm (.inr (gt_at_place (j :: p) q r (fun z => by cases z) hr))
end
end Rh
set_option Elab.async false
set_option linter.all false
set_option maxRecDepth 100000
set_option maxHeartbeats 2000000
namespace Dl
open PySem PySem.Spec PyProof.Rows L2 GxR Gx
section
variable {G : List Addr} {K : PySem.W.Frag} {σ : L2.St} {H H' : Hp} {ta tb te : TE} {ds : List PyData}
/-- any(.. for a, b in l), l a list of pairs -/
theorem ed_anyLP {P : Addr} {i j : Nat} {vs : List Nat} {ps : List (PyData × PyData)} {p : PyData × PyData → Bool} (hP : P ∈ G) (tG : TabsG G H) (h : Ed G K te σ H (.list (ps.map fun q => PyData.tuple [q.1, q.2]))) (hi : i ∈ vs) (hj : j ∈ vs)
    (hb : ∀ q v u H1, q ∈ ps → Ext G H H1 → TabsG G H1 → Dp K H1 v q.1 → Dp K H1 u q.2 → Ed G K tb (((wipe σ vs).set i (some v)).set j (some u)) H1 (.bool (p q))) : Ed G K (tAnyG P (iList K te) (gTup K 2 (gCons (gName i) (gCons (gName j) gNil))) tYes tb vs) σ H (.bool (ps.any p)) := fun H1 x Q q => by
  refine h H1 x _ fun v H2 x2 rv => ?_
  obtain ⟨a, xs, rfl, hs, hr⟩ := dp_lst rv
  have len := dpA_len hr
  rw [List.length_map] at len
  have t2 := (tG.ext x).ext x2
  refine ⟨a, rfl, ⟨xs, hs⟩, t2 P hP, fun H3 hT => ?_⟩
  have x3 : Ext G H2 H3 := Ext.tabbed hP hT
  refine ⟨fun k m al Hk => m = xs.length - k ∧ k ≤ xs.length ∧ Ext G H2 Hk ∧ ∀ q ∈ ps.take k, p q = false, ⟨xs.length, fun tk => ⟨rfl, Nat.zero_le _, x3, fun q hq => by simp at hq⟩⟩, ?_⟩
  rintro k m al Hk ⟨rfl, hk, y1, hp⟩
  have qk : SqL K Hk a xs := y1.sqL t2 hs
  by_cases hlt : k < xs.length
  · refine .inr ⟨⟨xs, xs[k], qk, by simp [hlt]⟩, fun al' H' => Ext G Hk H' ∧ ∀ q ∈ ps.take (k + 1), p q = false, fun al' H' z => ⟨xs.length - (k + 1), by omega, rfl, hlt, y1.trans z.1, z.2⟩, fun y H' hy => ?_⟩
    obtain ⟨e, hy⟩ := hy
    subst e
    have hk' := hy xs qk
    obtain ⟨d, hd', rd⟩ := dpA_getV hr hk'
    rw [List.getElem?_map] at hd'
    obtain ⟨q0, hq0, rfl⟩ := Option.map_eq_some_iff.mp hd'
    have rd' := dp_ext y1 t2 rd
    obtain ⟨b, ys, rfl, hsb, hrb⟩ := dp_tup rd'
    obtain ⟨v1, v2, rfl, r1, r2⟩ := dpA_two hrb
    refine ⟨b, [v1, v2], rfl, hsb, rfl, v1, [v2], rfl, v2, [], rfl, rfl, ?_⟩
    refine ⟨by rw [wipe_setG _ _ _ _ hj, wipe_setG _ _ _ _ hi, wipe_wipe], ?_⟩
    dsimp only [tYes]
    refine iteT ?_
    have tk := t2.ext y1
    refine hb q0 v1 v2 _ (List.mem_of_getElem? hq0) ((x.trans x2).trans y1) tk r1 r2 _ (Ext.refl G _) _ fun w H3 x3 r => ⟨p q0, dp_bl r, ?_⟩
    cases hpd : p q0 with
    | false =>
      rw [if_neg Bool.false_ne_true]
      refine ⟨x3, fun q hq => ?_⟩
      rw [take_snoc hq0] at hq
      rcases List.mem_append.mp hq with z | z
      · exact hp q z
      · rw [List.mem_singleton.mp z]; exact hpd
    | true =>
      rw [if_pos rfl]
      refine q _ H3 (x2.trans (y1.trans x3)) ?_
      rw [List.any_eq_true.mpr ⟨q0, List.mem_of_getElem? hq0, hpd⟩]
      exact .bl true
  · have e : k = xs.length := by omega
    subst e
    refine .inl ⟨⟨xs, qk, Nat.le_refl _⟩, q _ Hk (x2.trans y1) ?_⟩
    rw [len, List.take_length] at hp
    have e : ps.any p = false := by
      rw [List.any_eq_false]
      exact fun d hd z => by rw [hp d hd] at z; cases z
    rw [e]
    exact .bl false
end
end Dl
namespace Rh
open PySem PySem.Spec PyProof.Rows L2 GxR Gx Dl
abbrev s_are_fit : Stmt := topS 20
theorem sc_are_fit : FnScope ["table", "weights", "least", "ranks", "sign", "many", "other", "more"] ["table", "weights", "least", "ranks"] (defScope s_are_fit) := ⟨rfl, rfl, rfl, by decide +kernel, rfl, by decide +kernel, by decide +kernel⟩
def encR (m : Tb) : PyData := .list (m.map fun p => PyData.tuple [.str p.1, .int p.2])
def badF (tb w m : Tb) (l : Int) (p : Str × Int) : Bool := (decide (p.2 = 0) && decide (rkT w p.1 < l) || decide (rkT w p.1 < 0)) || (decide (p.2 = 1) && (decide (rkT w p.1 = 0) && tb.any fun q => decide (rkT m p.1 < rkT m q.1)))
def fitF (tb w m : Tb) (l : Int) : Bool := !decide (l < 1) && !tb.any (badF tb w m l)
def R_fit : List Ar → PyData → Prop := fun as d => ∃ (tb w m : Tb) (l : Int), as = [.d (encR tb), .k (encT w), .d (.int l), .k (encT m)] ∧ (∀ p ∈ tb, (getT w p.1).isSome = true ∧ (getT m p.1).isSome = true) ∧ d = .bool (fitF tb w m l)
section
variable {P : Program} {w : World} {K : PySem.W.Frag} {mg : Str → Option Value} {base : Heap} {G : List Addr} {f : Addr} {fd : FuncData}
theorem rk_val {m : Tb} {s : Str} (h : (getT m s).isSome = true) : valD (encT m) (.inr s) = some (.int (rkT m s)) := by
  obtain ⟨k, hk⟩ := Option.isSome_iff_exists.mp h
  rw [valD_encT, rkT, hk]
  rfl
theorem cl_fit (D : DefF K mg base G "are_fit" s_are_fit ["table", "weights", "least", "ranks"] f fd) (m1 : mg "any" = none) : Cl0 P w K mg base 3 "are_fit" (spA G K R_fit) := by
  refine D.cl (k := 2) sc_are_fit (fun ds d r => by obtain ⟨_, _, _, _, rfl, _⟩ := r; rfl) fun c Pt A outer s H vs ds d Q E TB hP hr tG hv r q => ?_
  refine ⟨_, pss_cons (ps_if (pt_cmpR op_lt (pv 2) pe_int (nomark _)) (pss_one (ps_ret pe_bl)) pss_nil)
    (pss_cons (ps_for PassesOwn.never rfl (pi_list (pv 0)) (pg_tup rfl (pgs_cons (pg_name (i := 4) sc_are_fit.nd rfl (Or.inr rfl)) (pgs_cons (pg_name (i := 5) sc_are_fit.nd rfl (Or.inl rfl)) pgs_nil)))
      (pss_cons (ps_if (PW.pt (pw_or (PW.pt (pw_and (pt_cmpR op_eq (pv 5) pe_int (nomark _)) (pw_and1 (pt_cmpR op_lt (pe_dget (hu_of hr) (pv 1) (pv 4) (fun _ _ => rfl)) (pv 2) (nomark _))))) (pw_or1 (pt_cmpR op_lt (pe_dget (hu_of hr) (pv 1) (pv 4) (fun _ _ => rfl)) pe_int (nomark _))))) (pss_one (ps_ret pe_bl)) pss_nil)
      (pss_one (ps_if (PW.pt (pw_and (pt_cmpR op_eq (pv 5) pe_int (nomark _)) (pw_and (pt_cmpR op_eq (pe_dget (hu_of hr) (pv 1) (pv 4) (fun _ _ => rfl)) pe_int (nomark _)) (pw_and1 (pt_val
        (pe_anyG (own := [("other", 6), ("more", 7)]) (g := gTup K 2 (gCons (gName 6) (gCons (gName 7) gNil))) hr sc_are_fit.nd TB rfl (blkOk_by (N := ["table", "weights", "least", "ranks", "sign", "many", "other", "more"]) (sc := defScope s_are_fit) (by decide +kernel)) m1 (pi_list (pv 0))
          (fun s H C code fp A _ => pg_tup rfl (pgs_cons (pg_name (i := 6) sc_are_fit.nd rfl (Or.inl rfl)) (pgs_cons (pg_name (i := 7) sc_are_fit.nd rfl (Or.inl rfl)) pgs_nil))) (fun s H C code fp A _ => pts_nil)
          (fun s H C code fp A r => pe_cmpR op_lt (pe_dget (hu_of r) (pv 3) (pv 4) (fun _ _ => rfl)) (pe_dget (hu_of r) (pv 3) (pv 6) (fun _ _ => rfl)) (nomark _)))))))) (pss_one (ps_ret pe_bl)) pss_nil))))
    (pss_one (ps_ret pe_bl))), ?_⟩
  obtain ⟨tb, wt, m, l, rfl, hin, rfl⟩ := r
  obtain ⟨v, u, z, y0, rfl, rv, ru, rz, ry⟩ := arA_four hv
  have v0 : ∀ {H'} {a b c d}, Ext G H H' → Ed G K (tVar 0) [some v, some u, some z, some y0, a, b, c, d] H' (encR tb) := fun y => ed_var (tG.ext y) rfl (dp_ext y tG (show Dp K H v (encR tb) from rv))
  have v1 : ∀ {H'} {a b c d}, Ext G H H' → EdX G K (tVar 1) [some v, some u, some z, some y0, a, b, c, d] H' (.k (encT wt)) := fun y => edx_var (tG.ext y) rfl (ar_ext y tG ru)
  have v2 : ∀ {H'} {a b c d}, Ext G H H' → Ed G K (tVar 2) [some v, some u, some z, some y0, a, b, c, d] H' (.int l) := fun y => ed_var (tG.ext y) rfl (dp_ext y tG (show Dp K H z (.int l) from rz))
  have v3 : ∀ {H'} {a b c d}, Ext G H H' → EdX G K (tVar 3) [some v, some u, some z, some y0, a, b, c, d] H' (.k (encT m)) := fun y => edx_var (tG.ext y) rfl (ar_ext y tG ry)
  have rf := Ext.refl G H
  refine s_ifR (edt_test (ed_op tG (v2 rf) ed_int rd_ltI)) (fun h H2 y2 => ?_) fun h H2 y2 => ?_
  · refine q (.bl false) H2 y2 ?_
    rw [fitF, h]
    exact .bl false
  refine s_forL (K := K) (ds := tb.map fun (p : Str × Int) => PyData.tuple [.str p.1, .int p.2]) (tG.ext y2) (v0 y2) (fun i σ' => (∃ a b, σ' = [some v, some u, some z, some y0, a, b, none, none]) ∧ ∀ p ∈ tb.take i, badF tb wt m l p = false) ⟨⟨none, none, rfl⟩, fun p hp => by simp at hp⟩ ?_ ?_
  · rintro i d va σ' H' N hd ⟨⟨a0, b0, rfl⟩, hb⟩ x1 ra t1 hN
    rw [List.getElem?_map] at hd
    obtain ⟨p, hp, rfl⟩ := Option.map_eq_some_iff.mp hd
    have mp := List.mem_of_getElem? hp
    obtain ⟨b, ys, rfl, hsb, hrb⟩ := dp_tup ra
    obtain ⟨w1, w2, rfl, r1, r2⟩ := dpA_two hrb
    rw [dp_str r1, dp_int r2] at hsb
    refine ⟨b, [.str p.1, .int p.2], rfl, hsb, rfl, _, _, rfl, _, [], rfl, rfl, ?_⟩
    have x3 := y2.trans x1
    have v4 : ∀ {H3} {c d}, Ext G H' H3 → Ed G K (tVar 4) [some v, some u, some z, some y0, some (.str p.1), some (.int p.2), c, d] H3 (.str p.1) := fun y => ed_var (t1.ext y) rfl (.str _)
    have v5 : ∀ {H3} {c d}, Ext G H' H3 → Ed G K (tVar 5) [some v, some u, some z, some y0, some (.str p.1), some (.int p.2), c, d] H3 (.int p.2) := fun y => ed_var (t1.ext y) rfl (.int _)
    have ew := rk_val (hin p mp).1
    have em := rk_val (hin p mp).2
    have r' := Ext.refl G H'
    refine s_ifR (edt_or (edt_and (edt_test (ed_op t1 (v5 r') ed_int rd_eqI)) fun _ => edt_test (ed_op t1 (ed_dget t1 (v1 x3) (v4 r') ew) (v2 x3) rd_ltI)) fun _ => edt_test (ed_op t1 (ed_dget t1 (v1 x3) (v4 r') ew) ed_int rd_ltI)) (fun h1 H4 x4 => ?_) fun h1 H4 x4 => ?_
    · refine q (.bl false) H4 (x3.trans x4) ?_
      have e : badF tb wt m l p = true := by rw [badF, h1]; rfl
      have e2 : tb.any (badF tb wt m l) = true := List.any_eq_true.mpr ⟨p, mp, e⟩
      rw [fitF, e2, h]
      exact .bl false
    have t4 := t1.ext x4
    have x5 := x3.trans x4
    have ean : ((tb.map fun p => (PyData.str p.1, PyData.int p.2)).any fun d => decide (rkT m p.1 < rkT m (unS d.1))) = tb.any fun q => decide (rkT m p.1 < rkT m q.1) := by rw [List.any_map]; rfl
    refine s_if (edt_and (edt_test (ed_op t4 (v5 x4) ed_int rd_eqI)) fun _ => edt_and (edt_test (ed_op t4 (ed_dget t4 (v1 x5) (v4 x4) ew) ed_int rd_eqI)) fun _ => edt_val (ed_is (ed_anyLP (ps := tb.map fun p => (PyData.str p.1, PyData.int p.2)) (p := fun d => decide (rkT m p.1 < rkT m (unS d.1))) hP t4 (ed_is (v0 x5) (by rw [List.map_map]; rfl)) (by decide) (by decide) fun d w3 w4 H5 hd5 z1 t5 r3 r4 => ?_) (congrArg PyData.bool ean))) (fun h2 H6 x6 => ?_) fun h2 H6 x6 => ?_
    · obtain ⟨p2, mp2, rfl⟩ := List.mem_map.mp hd5
      exact ed_op t5 (ed_dget t5 (v3 (x5.trans z1)) (v4 (x4.trans z1)) em) (ed_dget t5 (v3 (x5.trans z1)) (ed_var t5 rfl r3) (rk_val (hin p2 mp2).2)) rd_ltI
    · refine q (.bl false) H6 (x5.trans x6) ?_
      have e : badF tb wt m l p = true := by rw [badF, h1, h2]; rfl
      have e2 : tb.any (badF tb wt m l) = true := List.any_eq_true.mpr ⟨p, mp, e⟩
      rw [fitF, e2, h]
      exact .bl false
    · refine hN _ H6 (x4.trans x6) ⟨⟨_, _, rfl⟩, fun p2 hp2 => ?_⟩
      rw [take_snoc hp] at hp2
      rcases List.mem_append.mp hp2 with z | z
      · exact hb p2 z
      · rw [List.mem_singleton.mp z, badF, h1, h2]
        rfl
  · rintro σ' H' x1 ⟨⟨a0, b0, rfl⟩, hb⟩
    rw [List.length_map, List.take_length] at hb
    refine q (.bl true) H' (y2.trans x1) ?_
    have e : tb.any (badF tb wt m l) = false := by
      rw [List.any_eq_false]
      exact fun d hd z => by rw [hb d hd] at z; cases z
    rw [fitF, e, h]
    exact .bl true
end
end Rh
set_option Elab.async false
set_option linter.all false
set_option maxRecDepth 100000
set_option maxHeartbeats 2000000
namespace Dl
open PySem PySem.Spec PyProof.Rows L2 GxR Gx
theorem log2_mono {m n : Nat} (h : m ≤ n) : m.log2 ≤ n.log2 := by
  by_cases hm : m = 0
  · subst hm; simp
  · exact (Nat.le_log2 (by omega)).mpr (Nat.le_trans (Nat.log2_self_le hm) h)
/-- * of two factors of any size that a script can tell -/
def CMulB (i j : Int) : Prop := i.natAbs.log2 + j.natAbs.log2 < 100000000
theorem CMulB.ok {i j : Int} (h : CMulB i j) : IntMulOk i j := by
  have b : ∀ x : Int, Builtin.Int.intBits x ≤ x.natAbs.log2 + 1 := fun x => by
    unfold Builtin.Int.intBits
    split <;> omega
  have h1 := b i
  have h2 := b j
  have h3 : i.natAbs.log2 + j.natAbs.log2 < 100000000 := h
  have e : bitsLine = 134217728 := by decide
  unfold IntMulOk
  intro z
  rw [Bool.and_eq_true] at z
  have z2 := z.2
  unfold Builtin.Int.intTooBig at z2
  have z3 := of_decide_eq_true z2
  rw [e] at z3
  omega
theorem op_mulB {X : Cx} : OpR X (binaryOp .Mult) (rI CMulB fun i j => .int (i * j)) := opI fun _ _ _ _ _ _ _ hc q => mul_int q hc.ok
section
variable {P : Program} {w : World} {K : PySem.W.Frag} {mg : Str → Option Value} {base : Heap} {G : List Addr}
theorem DefF.clS {x : Str} {st : Stmt} {f : Addr} {fd : FuncData} {N ps : List Str} {k : Nat} {sp : Sp} (D : DefF K mg base G x st ps f fd) (S : FnScope N ps (defScope st)) (len : ∀ vs H Q E, sp vs H Q E → vs.length = ps.length)
    (hbody : ∀ (c Pt : Addr) (A : Around) (outer : List Env) (s : Shared) (H : Hp) (vs : List V) (Q : VK) (E : XK), TabB base mg c Pt → Pt ∈ G → Room k (A.deeper (envOfC x (defScope st) s.heap.objs.size f (.ref c))) → sp vs H Q E →
      ∃ t, PSs (cxOf CX0 P w K mg base N x (defScope st) f (.ref c) A outer s H E).nox (defBody st) t ∧ t { nx := fun _ H' => Q .non H', rt := Q } (start N vs) H) : Cl0 P w K mg base (k + 1) x sp := by
  obtain ⟨c, Pt, F, TB, hP⟩ := D.cP
  refine ⟨f, fd, ps, ?_, D.m, F.kp, D.b⟩
  obtain ⟨oc, od, kV, doc, pm, an, ct, osl, rfl, lk, hcd⟩ := F.ex
  refine fn_of lk hcd S len fun A outer s H vs Q E hr hsp => ?_
  obtain ⟨t, h, q⟩ := hbody c Pt A outer s H vs Q E TB hP hr hsp
  exact ⟨t, h.nox, q⟩
theorem _root_.Dl.DefF.noneS {x : Str} {st : Stmt} {ps : List Str} {f : Addr} {fd : FuncData} {sp : Sp} (D : DefF K mg base G x st ps f fd) (h : ∀ vs H Q E, ¬ sp vs H Q E) : Cl0 P w K mg base 0 x sp := by
  obtain ⟨c, Pt, F, TB, hP⟩ := D.cP
  exact ⟨f, fd, ps, ⟨fun vs H Q E z => absurd z (h _ _ _ _), fun A outer s H args us vs Q E _ _ _ _ z => absurd z (h _ _ _ _)⟩, D.m, F.kp, D.b⟩
end
/-- a dice: a list of three numbers -/
def DiceAt (n : Nat) (H : Hp) (D : Addr) : Prop := ∃ a b c : Int, H D = some (.lst [.int a, .int b, .int c]) ∧ a.natAbs.log2 < 2000000 ∧ 0 ≤ b ∧ b ≤ n
section
variable {G : List Addr} {K : PySem.W.Frag} {σ : L2.St} {H H' H1 : Hp} {D : Addr}
theorem Ext.wide (x : Ext G H H') : Ext (D :: G) H H' := ⟨fun a n o e => x.keep a (fun z => n (List.mem_cons_of_mem _ z)) o e, fun P hP t => by
  by_cases h : P ∈ G
  · exact x.tab P h t
  · obtain ⟨ps, e, z⟩ := t
    exact ⟨ps, x.keep P h _ e, z⟩⟩
theorem Ext.setD {xs : List V} {o : HO} (x : Ext (D :: G) H H1) (h : H1 D = some (.lst xs)) : Ext (D :: G) H (upd H1 D o) := ⟨fun a n o' e => by
  rw [upd_ne (fun z => n (by rw [z]; exact List.mem_cons_self))]
  exact x.keep a n o' e, fun P hP t => by
  have t1 := x.tab P hP t
  obtain ⟨ps, e, z⟩ := t1
  have ne : P ≠ D := fun q => by rw [q, h] at e; cases e
  exact ⟨ps, by rw [upd_ne ne]; exact e, z⟩⟩
theorem TabsG.wide (t : TabsG G H) (x : Ext (D :: G) H H') : TabsG G H' := fun P hP => x.tab P (List.mem_cons_of_mem _ hP) (t P hP)
theorem Ext.sqTD (x : Ext (D :: G) H H') (t : TabsG G H) {l : List V} (hD : H D = some (.lst l)) {a : Addr} {xs : List V} (h : SqT K H a xs) : SqT K H' a xs := by
  rcases h with h | h
  · refine .inl ?_
    have ne : ∀ {o}, H a = some o → o ≠ .lst l → (∀ ps, o ≠ .tbl ps) → H' a = some o := fun e n1 n2 => x.keep a (fun z => by
      rcases List.mem_cons.mp z with z | z
      · rw [z, hD] at e
        exact n1 (Option.some.inj e).symm
      · exact notTab t e n2 z) _ e
    rcases h with h | ⟨o, h⟩
    · exact .inl (ne h (fun z => by cases z) (fun ps z => by cases z))
    · exact .inr ⟨o, ne h (fun z => by cases z) (fun ps z => by cases z)⟩
  · exact .inr h
theorem dp_extD (x : Ext (D :: G) H H') (t : TabsG G H) {l : List V} (hD : H D = some (.lst l)) {v : V} {d : PyData} (hp : Pu d = true) (h : Dp K H v d) : Dp K H' v d := dp_tups (fun _ _ q => x.sqTD t hD q) hp h
theorem dkR_D (x : Ext (D :: G) H H') (t : TabsG G H) {l : List V} (hD : H D = some (.lst l)) : ∀ {ks : List (Key × V)} {es : List (Key × PyData)}, (∀ e ∈ es, Pu e.2 = true) → DkR K H ks es → DkR K H' ks es
  | _, _, _, .nil => .nil
  | _, _, hp, .cons a r => .cons (dp_extD x t hD (hp _ List.mem_cons_self) a) (dkR_D x t hD (fun e he => hp e (List.mem_cons_of_mem _ he)) r)
theorem ar_extD (x : Ext (D :: G) H H') (t : TabsG G H) {l : List V} (hD : H D = some (.lst l)) {v : V} {es : List (Key × PyData)} (hp : ∀ e ∈ es, Pu e.2 = true) : ArR K H v (.k es) → ArR K H' v (.k es) := fun ⟨a, kvs, e, h, r⟩ =>
  ⟨a, kvs, e, x.keep a (fun z => by
    rcases List.mem_cons.mp z with z | z
    · rw [z, hD] at h
      cases h
    · exact notTab t h (fun ps z => by cases z) z) _ h, dkR_D x t hD hp r⟩
theorem rdIx {xs : List V} {i : Int} {j : Nat} {v : V} {Q : VK} (h : σ[j]? = some (some (.ref D))) (hD : H D = some (.lst xs)) (hi : 0 ≤ i) (hx : xs[i.toNat]? = some v) (q : Q v H) : tOp (rIxL K) (tVar j) (tC (.int i)) σ H Q :=
  ⟨.ref D, h, D, xs, i, v, rfl, rfl, SqL.of hD, atI_get hi hx, q⟩
theorem s_retL {tA : TA} {ds : List PyData} {En : Ends} (tG : TabsG G H) (h : EdA G K tA σ H ds) (hl : ds.length ≤ sizeLine) (q : ∀ vs p H', Ext G H H' → DpAll K H' vs ds → H p = none → H' p = none → En.rt (.ref p) (upd H' p (.lst vs))) : tRet (tLst tA) En σ H :=
  h H (Ext.refl G H) _ fun vs H2 x2 rs => ⟨by rw [dpA_len rs]; exact hl, fun p hp => q vs p H2 x2 rs (x2.fresh tG hp) hp⟩
theorem rd_modN {i j : Int} (hj : j ≠ 0) : Rd2 G K (rI (fun _ j => j ≠ 0) fun i j => .int (i.fmod j)) (.int i) (.int j) (.int (i.fmod j)) H := fun H1 _ v u rv ru Q q => by
  rw [dp_int rv, dp_int ru]
  exact ⟨i, j, rfl, rfl, hj, q _ H1 (Ext.refl G H1) (.int _)⟩
theorem rd_pow {i j : Int} (h : CPow i j) : Rd2 G K (rI CPow fun i j => .int (i ^ j.toNat)) (.int i) (.int j) (.int (i ^ j.toNat)) H := fun H1 _ v u rv ru Q q => by
  rw [dp_int rv, dp_int ru]
  exact ⟨i, j, rfl, rfl, h, q _ H1 (Ext.refl G H1) (.int _)⟩
theorem rdc_intI {i : Int} : RdC G K (fun xs H Q => (∃ i, xs = [.int i] ∧ Q (.int i) H) ∨ ∃ k, xs = [.bl k] ∧ Q (.int (if k then 1 else 0)) H) [.int i] (.int i) H := fun H1 x vs rs Q q => by
  obtain ⟨v, rfl, rv⟩ := dpA_one rs
  exact .inl ⟨i, by rw [dp_int rv], q _ H1 (Ext.refl G H1) (.int _)⟩
theorem rd_fdivN {i j : Int} (hj : CDivN i j) : Rd2 G K (rI CDivN fun i j => .int (i.fdiv j)) (.int i) (.int j) (.int (i.fdiv j)) H := fun H1 _ v u rv ru Q q => by
  rw [dp_int rv, dp_int ru]
  exact ⟨i, j, rfl, rfl, hj, q _ H1 (Ext.refl G H1) (.int _)⟩
theorem rd_mulB {i j : Int} (hj : CMulB i j) : Rd2 G K (rI CMulB fun i j => .int (i * j)) (.int i) (.int j) (.int (i * j)) H := fun H1 _ v u rv ru Q q => by
  rw [dp_int rv, dp_int ru]
  exact ⟨i, j, rfl, rfl, hj, q _ H1 (Ext.refl G H1) (.int _)⟩
theorem rd_mul {i j : Int} (hj : CMul i j) : Rd2 G K (rI CMul fun i j => .int (i * j)) (.int i) (.int j) (.int (i * j)) H := fun H1 _ v u rv ru Q q => by
  rw [dp_int rv, dp_int ru]
  exact ⟨i, j, rfl, rfl, hj, q _ H1 (Ext.refl G H1) (.int _)⟩
theorem ed_ixD {xs : List V} {j : Nat} {i : Int} {a : Int} (tG : TabsG G H) (h : σ[j]? = some (some (.ref D))) (hD : H D = some (.lst xs)) (hi : 0 ≤ i) (hx : xs[i.toNat]? = some (.int a)) : Ed G K (tOp (rIxL K) (tVar j) (tC (.int i))) σ H (.int a) :=
  fun H1 x Q q => rdIx h (x.at tG hD (fun ps z => by cases z)) hi hx (q _ H1 (Ext.refl G H1) (.int _))
theorem s_setD {te : TE} {xs : List V} {j i : Nat} {k : Int} {e : Int} {En : Ends} (tG : TabsG G H) (h : Ed G K te σ H (.int e)) (hs : σ[j]? = some (some (.ref D))) (hD : H D = some (.lst xs)) (hj : ixN xs.length k = some i)
    (q : ∀ H1, Ext G H H1 → H1 D = some (.lst xs) → En.nx σ (upd H1 D (.lst (xs.set i (.int e))))) : tAsg te (gSub (tVar j) (tC (.int k)) rSetL) En σ H := h H (Ext.refl G H) _ fun v H2 x2 rv => by
  rw [dp_int rv]
  have e2 := x2.at tG hD (fun ps z => by cases z)
  exact ⟨.ref D, hs, D, xs, k, i, rfl, rfl, e2, hj, q H2 x2 e2⟩
theorem rdc_abs {i : Int} : RdC G K (fun xs H Q => ∃ i, xs = [.int i] ∧ Q (.int (if i < 0 then -i else i)) H) [.int i] (.int (if i < 0 then -i else i)) H := fun H1 x vs rs Q q => by
  obtain ⟨v, rfl, rv⟩ := dpA_one rs
  exact ⟨i, by rw [dp_int rv], q _ H1 (Ext.refl G H1) (.int _)⟩
end
end Dl
namespace Rh
open PySem PySem.Spec PyProof.Rows L2 GxR Gx Dl
abbrev s_dice : Stmt := topS 22
abbrev s_roll : Stmt := topS 23
theorem sc_dice : FnScope ["cell"] ["cell"] (defScope s_dice) := ⟨rfl, rfl, rfl, by decide +kernel, rfl, by decide +kernel, by decide +kernel⟩
theorem sc_roll : FnScope ["dice", "many", "found"] ["dice", "many"] (defScope s_roll) := ⟨rfl, rfl, rfl, by decide +kernel, rfl, by decide +kernel, by decide +kernel⟩
def spDice (G : List Addr) : Sp := fun vs H Q _ => TabsG G H ∧ ∃ c : Int, vs = [.int c] ∧ c.natAbs.log2 < 2000000 ∧ ∀ p H', Ext G H H' → H p = none → DiceAt 1100 H' p → Q (.ref p) H'
def spRoll (G : List Addr) : Sp := fun vs H Q _ => TabsG G H ∧ ∃ (D : Addr) (m n : Nat), vs = [.ref D, .int m] ∧ 0 < m ∧ m < 1000000 ∧ n < 1000000000 ∧ DiceAt n H D ∧ ∀ (r : Nat) H', r < m → Ext (D :: G) H H' → DiceAt (n + 1) H' D → Q (.int r) H'
section
variable {P : Program} {w : World} {K : PySem.W.Frag} {mg : Str → Option Value} {base : Heap} {G : List Addr} {f : Addr} {fd : FuncData}
theorem cl_dice (D : DefF K mg base G "_law_dice" s_dice ["cell"] f fd) (m1 : mg "abs" = none) (m2 : mg "int" = none) : Cl0 P w K mg base 1 "_law_dice" (spDice G) := by
  refine D.clS (k := 0) sc_dice (fun vs H Q E h => by obtain ⟨_, _, rfl, _⟩ := h; rfl) fun c Pt A outer s H vs Q E TB hP hr h => ?_
  refine ⟨_, pss_cons (ps_if (pt_chain op_lt op_lt (pe_op op_sub pe_int pe_int) (pv 0) pe_int) (pss_one (ps_ret (pe_lst (pa_cons (pe_callB call_abs (by rfl) m1 (by decide +kernel) (pa_cons (pv 0) pa_nil)) (pa_cons pe_int (pa_cons pe_int pa_nil)))))) pss_nil)
    (pss_one (ps_ret (pe_lst (pa_cons (pv 0) (pa_cons (pe_op op_add pe_int (pe_op op_modN (pe_callTy call_int1 (by rfl) m2 (by decide +kernel) (pa_cons (pv 0) pa_nil)) pe_int))
      (pa_cons (pe_callTy call_int1 (by rfl) m2 (by decide +kernel) (pa_cons (pe_cmpR op_ge (pv 0) (pe_op op_pow pe_int pe_int) (nomark _)) pa_nil)) pa_nil)))))), ?_⟩
  obtain ⟨tG, z, rfl, hz, q⟩ := h
  have v0 : ∀ {H'}, Ext G H H' → Ed G K (tVar 0) [some (.int z)] H' (.int z) := fun y => ed_var (tG.ext y) rfl (.int z)
  have rf := Ext.refl G H
  refine s_ifR (edt_test (ed_chain tG (ed_op tG ed_int ed_int rd_sub) (v0 rf) rd_ltI ed_int rd_ltI)) (fun h H2 y => ?_) fun h H2 y => ?_
  · have t2 := tG.ext y
    refine s_retL (K := K) t2 (ed_cons t2 (ed_cb (ed_one (v0 y)) rdc_abs) (ed_cons t2 ed_int (ed_one ed_int))) (by show 3 ≤ sizeLine; decide) fun vs p H3 y3 rs hp hp3 => ?_
    obtain ⟨w1, w2, w3, rfl, r1, r2, r3⟩ := dpA_three rs
    rw [dp_int r1, dp_int r2, dp_int r3]
    refine q p _ ((y.trans y3).trans (Ext.new hp3)) (y.fresh tG hp) ⟨_, _, _, upd_same, ?_, by decide, by decide⟩
    split
    · rw [Int.natAbs_neg]; exact hz
    · exact hz
  · have t2 := tG.ext y
    refine s_retL (K := K) t2 (ed_cons t2 (v0 y) (ed_cons t2 (ed_op t2 ed_int (ed_op t2 (ed_cb (ed_one (v0 y)) rdc_intI) ed_int (rd_modN (by decide))) rd_add) (ed_one (ed_cb (ed_one (ed_op t2 (v0 y) (ed_op t2 ed_int ed_int (rd_pow ⟨by decide, by decide, by decide⟩)) rd_geI)) rdc_int)))) (by show 3 ≤ sizeLine; decide) fun vs p H3 y3 rs hp hp3 => ?_
    obtain ⟨w1, w2, w3, rfl, r1, r2, r3⟩ := dpA_three rs
    rw [dp_int r1, dp_int r2, dp_int r3]
    refine q p _ ((y.trans y3).trans (Ext.new hp3)) (y.fresh tG hp) ⟨_, _, _, upd_same, hz, ?_, ?_⟩
    · rw [Int.fmod_eq_emod_of_nonneg _ (by decide)]; omega
    · rw [Int.fmod_eq_emod_of_nonneg _ (by decide)]; omega
theorem cl_roll (D : DefF K mg base G "_law_roll" s_roll ["dice", "many"] f fd) (m2 : mg "int" = none) : Cl0 P w K mg base 1 "_law_roll" (spRoll G) := by
  refine D.clS (k := 0) sc_roll (fun vs H Q E h => by obtain ⟨_, _, _, _, rfl, _⟩ := h; rfl) fun c Pt A outer s H vs Q E TB hP hr h => ?_
  refine ⟨_, pss_cons (ps_if (PW.pt (pw_or (pt_cmpR op_eq (pe_ix ix_list (pv 0) pe_int (fun _ _ => rfl)) pe_int (nomark _)) (pw_or1 (PW.pt (pw_and (pt_cmpR op_eq (pe_ix ix_list (pv 0) pe_int (fun _ _ => rfl)) pe_int (nomark _)) (pw_and1 (pt_cmpR op_gt (pe_ix ix_list (pv 0) pe_int (fun _ _ => rfl)) pe_int (nomark _))))))))
      (pss_cons (ps_set (i := 2) sc_roll.nd rfl (Or.inl rfl) (pe_op op_modN (pe_callTy call_int1 (by rfl) m2 (by decide +kernel) (pa_cons (pe_ix ix_list (pv 0) pe_int (fun _ _ => rfl)) pa_nil)) (pv 1)))
      (pss_cons (ps_asg (pe_op op_fdivN (pe_ix ix_list (pv 0) pe_int (fun _ _ => rfl)) (pv 1)) (pg_sub (pv 0) pe_int set_list)) (pss_one (ps_ret (pv 2))))) pss_nil)
    (pss_cons (ps_asg pe_int (pg_sub (pv 0) pe_int set_list))
    (pss_cons (ps_asg (pe_op op_modN (pe_callTy call_int1 (by rfl) m2 (by decide +kernel) (pa_cons (pe_op op_add (pe_op op_add (pe_op op_mulB (pe_ix ix_list (pv 0) pe_int (fun _ _ => rfl)) pe_int) (pe_op op_mul (pe_ix ix_list (pv 0) pe_int (fun _ _ => rfl)) pe_int)) pe_int) pa_nil)) pe_int) (pg_sub (pv 0) pe_int set_list))
    (pss_cons (ps_asg (pe_op op_add (pe_ix ix_list (pv 0) pe_int (fun _ _ => rfl)) pe_int) (pg_sub (pv 0) pe_int set_list))
    (pss_one (ps_ret (pe_op op_modN (pe_callTy call_int1 (by rfl) m2 (by decide +kernel) (pa_cons (pe_op op_add (pe_op op_fdivN (pe_ix ix_list (pv 0) pe_int (fun _ _ => rfl)) pe_int) (pe_ix ix_list (pv 0) pe_int (fun _ _ => rfl))) pa_nil)) (pv 1))))))), ?_⟩
  obtain ⟨tG, D, m, n, rfl, hm, hm2, hn, ⟨a, b, z, hD, ha, hb, hb2⟩, q⟩ := h
  have rf := Ext.refl G H
  have ix : ∀ {H' : Hp} {c0 : Option V} {x y u e : Int} {i : Int}, TabsG G H' → H' D = some (.lst [.int x, .int y, .int u]) → 0 ≤ i → [V.int x, V.int y, V.int u][i.toNat]? = some (.int e) → Ed G K (tOp (rIxL K) (tVar 0) (tC (.int i))) [some (.ref D), some (.int m), c0] H' (.int e) :=
    fun t h h0 hx => ed_ixD t rfl h h0 hx
  have v1 : ∀ {H' : Hp} {c0 : Option V}, TabsG G H' → Ed G K (tVar 1) [some (.ref D), some (.int m), c0] H' (.int m) := fun t => ed_var t rfl (.int _)
  have hmn : ((m : Int)) ≠ 0 := by omega
  have fm : ∀ i : Int, ∃ r : Nat, r < m ∧ i.fmod m = r := fun i => by
    rw [Int.fmod_eq_emod_of_nonneg _ (by omega)]
    have h1 := Int.emod_nonneg i hmn
    have h2 := Int.emod_lt_of_pos i (show (0 : Int) < m by omega)
    exact ⟨(i % m).toNat, by omega, by omega⟩
  refine s_ifR (edt_or (edt_test (ed_op tG (ix tG hD (by decide) rfl) ed_int rd_eqI)) fun _ => edt_and (edt_test (ed_op tG (ix tG hD (by decide) rfl) ed_int rd_eqI)) fun _ => edt_test (ed_op tG (ix tG hD (by decide) rfl) ed_int rd_gtI)) (fun _ H2 y => ?_) fun _ H2 y => ?_
  · have t2 := tG.ext y
    have d2 := y.at tG hD (fun ps z => by cases z)
    refine s_set (K := K) (ed_op t2 (ed_cb (ed_one (ix t2 d2 (by decide) rfl)) rdc_intI) (v1 t2) (rd_modN hmn)) fun v H3 y3 rv => ?_
    obtain ⟨r, hr1, hr2⟩ := fm a
    have t3 := t2.ext y3
    have d3 := y3.at t2 d2 (fun ps z => by cases z)
    rw [dp_int rv, hr2]
    refine s_setD (K := K) t3 (ed_op t3 (ix t3 d3 (by decide) rfl) (v1 t3) (rd_fdivN ⟨hmn, by omega⟩)) rfl d3 rfl fun H4 y4 d4 => ?_
    have y5 := (y.trans y3).trans y4
    refine ⟨.int r, rfl, q r _ hr1 (Ext.setD (y5.wide) d4) ⟨_, _, _, upd_same, ?_, hb, by omega⟩⟩
    refine Nat.lt_of_le_of_lt (log2_mono ?_) ha
    exact Int.natAbs_fdiv_le_natAbs a m
  · have t2 := tG.ext y
    have d2 := y.at tG hD (fun ps z => by cases z)
    refine s_setD (K := K) t2 ed_int rfl d2 rfl fun H3 y3 d3 => ?_
    have x3 : Ext (D :: G) H (upd H3 D (.lst [.int a, .int b, .int 0])) := Ext.setD ((y.trans y3).wide) d3
    have t3 := tG.wide x3
    have e3 : (upd H3 D (.lst [.int a, .int b, .int 0])) D = some (.lst [.int a, .int b, .int 0]) := upd_same
    refine s_setD (K := K) (e := (a * 48271 + b * 69621 + 11).fmod 2147483647) t3 (ed_op t3 (ed_cb (ed_one (ed_op t3 (ed_op t3 (ed_op t3 (ix t3 e3 (by decide) rfl) ed_int (rd_mulB ?_)) (ed_op t3 (ix t3 e3 (by decide) rfl) ed_int (rd_mul (.inl ⟨by omega, by omega⟩))) rd_add) ed_int rd_add)) rdc_intI) ed_int (rd_modN (by decide))) rfl e3 rfl fun H4 y4 d4 => ?_
    · have : (48271 : Int).natAbs.log2 < 100 := by decide
      unfold CMulB
      omega
    generalize ea : (a * 48271 + b * 69621 + 11).fmod 2147483647 = a' at *
    have ha' : 0 ≤ a' ∧ a' < 2147483647 := by
      rw [Int.fmod_eq_emod_of_nonneg _ (by decide)] at ea
      omega
    have x4 : Ext (D :: G) H (upd H4 D (.lst [.int a', .int b, .int 0])) := Ext.setD (x3.trans y4.wide) d4
    have t4 := tG.wide x4
    have e4 : (upd H4 D (.lst [.int a', .int b, .int 0])) D = some (.lst [.int a', .int b, .int 0]) := upd_same
    refine s_setD (K := K) (e := b + 1) t4 (ed_op t4 (ix t4 e4 (by decide) rfl) ed_int rd_add) rfl e4 rfl fun H5 y5 d5 => ?_
    have x5 : Ext (D :: G) H (upd H5 D (.lst [.int a', .int (b + 1), .int 0])) := Ext.setD (x4.trans y5.wide) d5
    have t5 := tG.wide x5
    have e5 : (upd H5 D (.lst [.int a', .int (b + 1), .int 0])) D = some (.lst [.int a', .int (b + 1), .int 0]) := upd_same
    refine s_ret (K := K) (ed_op t5 (ed_cb (ed_one (ed_op t5 (ed_op t5 (ix t5 e5 (by decide) rfl) ed_int (rd_fdivN ⟨by decide, by decide⟩)) (ix t5 e5 (by decide) rfl) rd_add)) rdc_intI) (v1 t5) (rd_modN hmn)) fun v H6 y6 rv => ?_
    obtain ⟨r, hr1, hr2⟩ := fm (a'.fdiv 7 + a')
    rw [dp_int rv, hr2]
    refine q r H6 hr1 (x5.trans y6.wide) ⟨a', b + 1, 0, y6.at t5 e5 (fun ps z => by cases z), ?_, by omega, by omega⟩
    have e9 : a'.natAbs < 2 ^ 100 := by omega
    have := PySem.Flt.log2_lt_of (by decide) e9
    omega
end
end Rh

set_option Elab.async false
set_option linter.all false
set_option maxRecDepth 100000
set_option maxHeartbeats 2000000
namespace Dl
open PySem PySem.Spec PyProof.Rows L2 GxR Gx
section
variable {G : List Addr} {K : PySem.W.Frag} {H H' : Hp} {D : Addr}
theorem DiceAt.mono {n m : Nat} (d : DiceAt n H D) (h : n ≤ m) : DiceAt m H D := by
  obtain ⟨a, b, c, e, h1, h2, h3⟩ := d
  exact ⟨a, b, c, e, h1, h2, by omega⟩
theorem DiceAt.ext {n : Nat} (d : DiceAt n H D) (t : TabsG G H) (x : Ext G H H') : DiceAt n H' D := by
  obtain ⟨a, b, c, e, h⟩ := d
  exact ⟨a, b, c, x.at t e (fun ps z => by cases z), h⟩
theorem DiceAt.new {n : Nat} (d : DiceAt n H D) : ∃ l, H D = some (.lst l) := by
  obtain ⟨a, b, c, e, h⟩ := d
  exact ⟨_, e⟩
theorem DiceAt.upd {n : Nat} {p : Addr} {o : HO} (d : DiceAt n H D) (h : D ≠ p) : DiceAt n (upd H p o) D := by
  obtain ⟨a, b, c, e, z⟩ := d
  exact ⟨a, b, c, by rw [upd_ne h]; exact e, z⟩
theorem dp_lstD (x : Ext (D :: G) H H') (t : TabsG G H) {l : List V} (hD : H D = some (.lst l)) {a : Addr} {ds : List PyData} (ha : a ≠ D) (hp : PuA ds = true) (h : Dp K H (.ref a) (.list ds)) : Dp K H' (.ref a) (.list ds) := by
  cases h with
  | lst h r =>
    have k : ∀ o, H a = some o → (∀ ps, o ≠ .tbl ps) → H' a = some o := fun o e n => x.keep a (fun z => by
      rcases List.mem_cons.mp z with z | z
      · exact ha z
      · exact notTab t e n z) o e
    refine .lst ?_ (dpA_tups (fun _ _ q => x.sqTD t hD q) hp r)
    rcases h with h | h
    · refine .inl ?_
      rcases h with h | ⟨o, h⟩
      · exact .inl (k _ h (fun ps z => by cases z))
      · exact .inr ⟨o, k _ h (fun ps z => by cases z)⟩
    · exact .inr h
theorem tcall1 {σ : L2.St} {sp : Sp} {te : TE} {v : V} {Q : VK} {E : XK} (h1 : ∀ Q : VK, Q v H → te σ H Q) (h : sp [v] H Q E) : tCall sp [] E (tCons te tNil) σ H Q := h1 _ (show sp ([v] ++ []) H Q E from h)
theorem tcall2 {σ : L2.St} {sp : Sp} {te tf : TE} {v u : V} {Q : VK} {E : XK} (h1 : ∀ Q : VK, Q v H → te σ H Q) (h2 : ∀ Q : VK, Q u H → tf σ H Q) (h : sp [v, u] H Q E) : tCall sp [] E (tCons te (tCons tf tNil)) σ H Q := h1 _ (h2 _ (show sp ([v, u] ++ []) H Q E from h))
theorem tcall3 {σ : L2.St} {sp : Sp} {te tf tg : TE} {v u w : V} {Q : VK} {E : XK} (h1 : ∀ Q : VK, Q v H → te σ H Q) (h2 : ∀ Q : VK, Q u H → tf σ H Q) (h3 : ∀ Q : VK, Q w H → tg σ H Q) (h : sp [v, u, w] H Q E) : tCall sp [] E (tCons te (tCons tf (tCons tg tNil))) σ H Q := h1 _ (h2 _ (h3 _ (show sp ([v, u, w] ++ []) H Q E from h)))
theorem dpA_strsInv : ∀ {vs : List V} {xs : List Str}, DpAll K H vs (xs.map PyData.str) → vs = xs.map V.str
  | _, [], .nil => rfl
  | _, _ :: _, .cons a r => by
    rw [dp_str a, dpA_strsInv r]
    rfl
theorem puA_strs (xs : List Str) : PuA (xs.map PyData.str) = true := puA_all.mpr fun d hd => by
  obtain ⟨x, _, rfl⟩ := List.mem_map.mp hd
  rfl
end
end Dl
namespace Rh
open PySem PySem.Spec PyProof.Rows L2 GxR Gx Dl
abbrev s_rounds : Stmt := topS 24
abbrev s_term : Stmt := topS 26
theorem sc_rounds : FnScope ["script", "most", "cells", "cell"] ["script", "most"] (defScope s_rounds) := ⟨rfl, rfl, rfl, by decide +kernel, rfl, by decide +kernel, by decide +kernel⟩
theorem sc_term : FnScope ["dice", "deep", "names", "kind", "row"] ["dice", "deep", "names"] (defScope s_term) := ⟨rfl, rfl, rfl, by decide +kernel, rfl, by decide +kernel, by decide +kernel⟩
def T.drawn (xs : List Str) : T → Prop
  | .v x => x ∈ xs
  | .c s => s = Str.ofString "a" ∨ s = Str.ofString "b"
  | .u s t => s = Str.ofString "g" ∧ t.drawn xs
  | .b s t r => s = Str.ofString "f" ∧ t.drawn xs ∧ r.drawn xs
def cst : Nat → Nat
  | 0 => 2
  | d + 1 => 2 * cst d + 2
def spTerm (G : List Addr) (K : PySem.W.Frag) (k : Nat) : Sp := fun vs H Q _ => TabsG G H ∧ ∃ (D Nm : Addr) (d n : Nat) (xs : List Str), vs = [.ref D, .int d, .ref Nm] ∧ d < k ∧ k < 100 ∧ n + cst d < 1000000000 ∧ DiceAt n H D ∧ Nm ≠ D ∧ Dp K H (.ref Nm) (.list (xs.map PyData.str)) ∧ xs.length ≤ 10 ∧
  ∀ v H' t, Ext (D :: G) H H' → DiceAt (n + cst d) H' D → Dp K H' v (enc t) → t.dp ≤ d → t.drawn xs → Q v H'
def spRounds (G : List Addr) (K : PySem.W.Frag) : Sp := fun vs H Q _ => TabsG G H ∧ ∃ (S : Addr) (ns : List Int), vs = [.ref S, .int 4] ∧ SqL K H S (ns.map V.int) ∧ ns.length ≤ 63 ∧ (∀ z ∈ ns, z.natAbs.log2 < 2000000) ∧
  ∀ (L : Addr) (ps : List Addr) (H' : Hp), Ext G H H' → H' L = some (.lst (ps.map V.ref)) → ps.Nodup → (∀ p ∈ ps, DiceAt 1100 H' p) → Q (.ref L) H'
theorem dpA_ints {K : PySem.W.Frag} {H : Hp} : ∀ ns : List Int, DpAll K H (ns.map V.int) (ns.map PyData.int)
  | [] => .nil
  | _ :: r => .cons (.int _) (dpA_ints r)
section
variable {P : Program} {w : World} {K : PySem.W.Frag} {mg : Str → Option Value} {base : Heap} {G : List Addr} {f : Addr} {fd : FuncData}
theorem cl_rounds (D : DefF K mg base G "_law_rounds" s_rounds ["script", "most"] f fd) (di : Cl0 P w K mg base 1 "_law_dice" (spDice G)) : Cl0 P w K mg base 2 "_law_rounds" (spRounds G K) := by
  refine D.clS (k := 1) sc_rounds (fun vs H Q E h => by obtain ⟨_, _, _, rfl, _⟩ := h; rfl) fun c Pt A outer s H vs Q E TB hP hr h => ?_
  refine ⟨_, pss_cons (ps_set (i := 2) sc_rounds.nd rfl (Or.inl rfl) (pe_slice sl_list (pv 0) po_none (po_some (pv 1))))
    (pss_cons (ps_if (pt_cmpR (op_eqD hr.units) (pv 2) (pe_lst pa_nil) (nomark _)) (pss_one (ps_set (i := 2) sc_rounds.nd rfl (Or.inl rfl) (pe_lst (pa_cons pe_int pa_nil)))) pss_nil)
    (pss_one (ps_ret (pe_lc (own := [("cell", 3)]) (g := gName 3) (tt := tYes) rfl sc_rounds.nd (pi_list (pv 2)) (blkOk_by (N := ["script", "most", "cells", "cell"]) (sc := defScope s_rounds) (by decide +kernel))
      (fun _ _ _ _ _ => pg_name (i := 3) sc_rounds.nd rfl (Or.inl rfl)) (fun _ _ _ _ _ => pts_nil) (fun _ _ _ _ _ => pe_cl di hr rfl (pa_cons (pv 3) pa_nil)))))), ?_⟩
  obtain ⟨tG, S, ns, rfl, hS, h63, hb, q⟩ := h
  refine ⟨.ref S, rfl, .int 4, rfl, 4, rfl, S, _, rfl, hS, fun p hp => ?_⟩
  generalize ecu : cutV (ns.map V.int) none (some 4) = cu
  obtain ⟨ms, rfl, hm63, hmb⟩ : ∃ ms : List Int, cu = ms.map V.int ∧ ms.length ≤ 63 ∧ ∀ z ∈ ms, z.natAbs.log2 < 2000000 := by
    rw [← ecu]
    unfold cutV
    refine ⟨(ns.drop _).take _, by rw [← List.map_drop, ← List.map_take], ?_, fun z hz => hb z (List.mem_of_mem_drop (List.mem_of_mem_take hz))⟩
    rw [List.length_take, List.length_drop]
    omega
  clear ecu
  have x1 : Ext G H (upd H p (.lst (ms.map V.int))) := Ext.new hp
  have fin : ∀ (zs : List Int) (pz : Addr) (Hz : Hp), Ext G H Hz → Hz pz = some (.lst (zs.map V.int)) → zs.length ≤ 63 → (∀ z ∈ zs, z.natAbs.log2 < 2000000) →
      tRet (tLc (iList K (tVar 2)) (gName 3) tYes (tCall (spDice G) [] (fun _ _ _ => False) (tCons (tVar 3) tNil)) [3]) { nx := fun _ H' => Q .non H', rt := Q } [some (.ref S), some (.int 4), some (.ref pz), none] Hz := fun zs pz Hz xz ez lz bz => by
    have tz := tG.ext xz
    refine ⟨.ref pz, rfl, pz, rfl, ⟨_, SqL.of ez⟩, fun L hL => ?_⟩
    refine lc_list (K := K) (a := pz) (xs := zs.map V.int) (fun i Hk => Ext G Hz Hk ∧ ∃ ps : List Addr, Hk L = some (.lst (ps.map V.ref)) ∧ ps.length = i ∧ ps.Nodup ∧ ∀ p ∈ ps, DiceAt 1100 Hk p ∧ p ≠ L)
      ⟨Ext.new hL, [], upd_same, rfl, .nil, fun p hp => by cases hp⟩ (fun i Hk _ y => SqL.of (y.1.at tz ez (fun ps z => by cases z))) (fun i x Hk hx y => ?_) (fun Hk y => ?_)
    · obtain ⟨y1, ps, e1, e2, e3, e4⟩ := y
      have tk := tz.ext y1
      rw [List.getElem?_map] at hx
      obtain ⟨z, hz, rfl⟩ := Option.map_eq_some_iff.mp hx
      have hi := (List.getElem?_eq_some_iff.mp hz).1
      refine ⟨rfl, ?_⟩
      dsimp only [tYes]
      refine iteT ?_
      refine tcall1 (v := .int z) (fun Q q => ⟨_, rfl, q⟩) ?_
      refine ⟨tk, z, rfl, bz z (List.mem_of_getElem? hz), fun p H' x2 hp hd => ?_⟩
      have eL := x2.at tk e1 (fun ps z => by cases z)
      have nL : p ≠ L := fun z => by rw [z, e1] at hp; cases hp
      have np : p ∉ ps := fun hm => by
        obtain ⟨l, e⟩ := (e4 p hm).1.new
        rw [e] at hp
        cases hp
      refine ⟨_, eL, ?_, (y1.trans x2).mut hL eL (fun ps z => by cases z), ps ++ [p], ?_, by rw [List.length_append, e2]; rfl, ?_, fun p2 h2 => ?_⟩
      · rw [List.length_map, e2]
        exact Nat.lt_of_lt_of_le (show i < 64 by omega) (by decide)
      · rw [upd_same, List.map_append]
        rfl
      · refine List.nodup_append.mpr ⟨e3, by simp, fun a ha b hb => ?_⟩
        rw [List.mem_singleton.mp hb]
        exact fun z => np (z ▸ ha)
      · rcases List.mem_append.mp h2 with h | h
        · exact ⟨((e4 p2 h).1.ext tk x2).upd (e4 p2 h).2, (e4 p2 h).2⟩
        · rw [List.mem_singleton.mp h]
          exact ⟨hd.upd nL, nL⟩
    · obtain ⟨y1, ps, e1, e2, e3, e4⟩ := y
      exact q L ps Hk (xz.trans y1) e1 e3 fun p hp => (e4 p hp).1
  have t1 := tG.ext x1
  have d1 : Dp K (upd H p (.lst (ms.map V.int))) (.ref p) (.list (ms.map PyData.int)) := .lst (SqL.of upd_same) (dpA_ints ms)
  have sh : ∀ zs : List Int, SeqAt.shaped (.list (zs.map PyData.int)) = true := fun zs => by
    have c : PyData.canLayAll0 (zs.map PyData.int) = true := by
      induction zs with
      | nil => rfl
      | cons z r ih => simp [PyData.canLayAll0, PyData.canLay0, ih]
    have dd : PyData.depthAll (zs.map PyData.int) ≤ 1 := by
      induction zs with
      | nil => simp [PyData.depthAll]
      | cons z r ih =>
        have c2 : PyData.canLayAll0 (r.map PyData.int) = true := by simpa [PyData.canLayAll0, PyData.canLay0] using c
        have := ih c2
        simp [PyData.depthAll, PyData.depth]
        omega
    unfold SeqAt.shaped
    rw [PyData.canLay0, c, Bool.true_and]
    refine decide_eq_true ?_
    rw [PyData.depth]
    omega
  refine s_if (edt_test (ed_op t1 (ed_var t1 rfl d1) (ed_lst t1 ed_nil (by show 0 ≤ sizeLine; decide)) (rd_eqD (sh ms) (sh [])))) (fun _ H2 x2 => ?_) (fun _ H2 x2 => ?_)
  · refine ⟨by show 1 ≤ sizeLine; decide, fun p2 hp2 => ?_⟩
    exact fin [0] p2 _ ((x1.trans x2).trans (Ext.new hp2)) upd_same (by decide) (fun z hz => by rw [List.mem_singleton.mp hz]; decide)
  · exact fin ms p H2 (x1.trans x2) (x2.at t1 upd_same (fun ps z => by cases z)) hm63 hmb
theorem cl_term (D : DefF K mg base G "_law_term" s_term ["dice", "deep", "names"] f fd) (ro : Cl0 P w K mg base 1 "_law_roll" (spRoll G)) (m1 : mg "list" = none) (m2 : mg "len" = none) : ∀ n, Cl0 P w K mg base (n + 1) "_law_term" (spTerm G K n)
  | 0 => (D.noneS fun vs H Q E ⟨_, _, _, _, _, _, _, h, _⟩ => Nat.not_lt_zero _ h).mono (Nat.zero_le _)
  | n + 1 => by
    have ih := cl_term D ro m1 m2 n
    refine D.clS (k := n + 1) sc_term (fun vs H Q E h => by obtain ⟨_, _, _, _, _, _, rfl, _⟩ := h; rfl) fun c Pt A outer s H vs Q E TB hP hr h => ?_
    refine ⟨_, pss_cons (ps_set (i := 3) sc_term.nd rfl (Or.inl rfl) (pe_cl ro (hr.mono (by omega)) rfl (pa_cons (pv 0) (pa_cons pe_int pa_nil))))
      (pss_cons (ps_if (PW.pt (pw_or (pt_cmpR op_eq (pv 1) pe_int (nomark _)) (pw_or1 (pt_cmpR op_lt (pv 3) pe_int (nomark _)))))
        (pss_cons (ps_set (i := 4) sc_term.nd rfl (Or.inl rfl) (pe_op op_cat (pe_callTy call_list_of (by rfl) m1 (by decide +kernel) (pa_cons (pv 2) pa_nil)) (pe_lst (pa_cons (pe_tup (pa_cons pe_str (pa_cons (pe_tup pa_nil) pa_nil))) (pa_cons (pe_tup (pa_cons pe_str (pa_cons (pe_tup pa_nil) pa_nil))) pa_nil)))))
        (pss_one (ps_ret (pe_ix ix_list (pv 4) (pe_cl ro (hr.mono (by omega)) rfl (pa_cons (pv 0) (pa_cons (pe_callB call_len_seq (by rfl) m2 PySem.boot_len (pa_cons (pv 4) pa_nil)) pa_nil))) (fun _ _ => rfl))))) pss_nil)
      (pss_cons (ps_if (pt_cmpR op_lt (pv 3) pe_int (nomark _)) (pss_one (ps_ret (pe_tup (pa_cons pe_str (pa_cons (pe_tup (pa_cons (pe_cl ih hr rfl (pa_cons (pv 0) (pa_cons (pe_op op_sub (pv 1) pe_int) (pa_cons (pv 2) pa_nil)))) pa_nil)) pa_nil))))) pss_nil)
      (pss_one (ps_ret (pe_tup (pa_cons pe_str (pa_cons (pe_tup (pa_cons (pe_cl ih hr rfl (pa_cons (pv 0) (pa_cons (pe_op op_sub (pv 1) pe_int) (pa_cons (pv 2) pa_nil)))) (pa_cons (pe_cl ih hr rfl (pa_cons (pv 0) (pa_cons (pe_op op_sub (pv 1) pe_int) (pa_cons (pv 2) pa_nil)))) pa_nil))) pa_nil))))))), ?_⟩
    obtain ⟨tG, D, Nm, d, m, xs, rfl, hd, hk, hm, hD, hne, hN, h10, q⟩ := h
    show tCall (spRoll G) [] _ _ _ _ _
    refine tcall2 (v := .ref D) (u := .int 6) (fun Q q => ⟨_, rfl, q⟩) (fun Q q => q) ?_
    refine ⟨tG, D, 6, m, rfl, by decide, by decide, by omega, hD, fun kd H1 hkd x1 d1 => ?_⟩
    obtain ⟨lD, eD⟩ := hD.new
    have t1 := tG.wide x1
    have N1 := dp_lstD x1 tG eD hne (puA_strs xs) hN
    refine s_ifR (edt_or (edt_test (ed_op (K := K) t1 (ed_var t1 rfl (.int d)) ed_int rd_eqI)) fun _ => edt_test (ed_op (K := K) t1 (ed_var t1 rfl (.int kd)) ed_int rd_ltI)) (fun _ H2 y => ?_) fun h0 H2 y => ?_
    · have t2 := t1.ext y
      have d2 := d1.ext t1 y
      have N2 := dp_ext y t1 N1
      have x12 := x1.trans y.wide
      cases N2 with
      | lst sq rs =>
        have ey := dpA_strsInv rs
        subst ey
        refine ⟨.ref Nm, rfl, Nm, _, rfl, .inl sq, fun l hl => ?_⟩
        have y3 : Ext G H2 (upd H2 l (.lst (xs.map V.str))) := Ext.new hl
        have t3 := t2.ext y3
        have eI : EdA G K (tCons (tTup (tCons (tC (.str (Str.ofString "a"))) (tCons (tTup tNil) tNil))) (tCons (tTup (tCons (tC (.str (Str.ofString "b"))) (tCons (tTup tNil) tNil))) tNil)) [some (.ref D), some (.int d), some (.ref Nm), some (.int kd), none] (upd H2 l (.lst (xs.map V.str))) [enc (.c (Str.ofString "a")), enc (.c (Str.ofString "b"))] :=
          ed_cons t3 (ed_tup t3 (ed_cons t3 ed_str (ed_one (ed_tup t3 ed_nil (by show 0 ≤ sizeLine; decide)))) (by show 2 ≤ sizeLine; decide)) (ed_one (ed_tup t3 (ed_cons t3 ed_str (ed_one (ed_tup t3 ed_nil (by show 0 ≤ sizeLine; decide)))) (by show 2 ≤ sizeLine; decide)))
        refine eI _ (Ext.refl G _) _ fun vs H4 y4 rvs => ⟨by rw [dpA_len rvs]; show 2 ≤ sizeLine; decide, fun b hb => ?_⟩
        have t4 := t3.ext y4
        have el : H4 l = some (.lst (xs.map V.str)) := y4.at t3 upd_same (fun ps z => by cases z)
        have lb : l ≠ b := ne_of_none el hb
        have y5 : Ext G H4 (upd H4 b (.lst vs)) := Ext.new hb
        have len4 := dpA_len rvs
        have hlen : (xs.map V.str).length + vs.length ≤ sizeLine := by
          rw [len4, List.length_map]
          exact Nat.le_trans (show xs.length + 2 ≤ 100 by omega) (by decide)
        refine ⟨l, b, xs.map V.str, vs, rfl, rfl, by rw [upd_ne lb]; exact el, upd_same, hlen, fun r hr => ?_⟩
        have t5 := t4.ext y5
        have y6 : Ext G (upd H4 b (.lst vs)) (upd (upd H4 b (.lst vs)) r (.lst (xs.map V.str ++ vs))) := Ext.new hr
        have y26 := ((y3.trans y4).trans y5).trans y6
        have t6 := t5.ext y6
        generalize hHr : upd (upd H4 b (.lst vs)) r (.lst (xs.map V.str ++ vs)) = Hr at *
        have er : Hr r = some (.lst (xs.map V.str ++ vs)) := by rw [← hHr]; exact upd_same
        have items : DpAll K Hr (xs.map V.str ++ vs) (xs.map PyData.str ++ [enc (.c (Str.ofString "a")), enc (.c (Str.ofString "b"))]) := dpA_app (dpA_strs xs) (dpA_ext (y5.trans y6) t4 rvs)
        have d6 := d2.ext t2 y26
        obtain ⟨l6, e6⟩ := d6.new
        have rD : r ≠ D := fun z => by
          have d5 := d2.ext t2 ((y3.trans y4).trans y5)
          obtain ⟨l5, e5⟩ := d5.new
          rw [z, e5] at hr
          cases hr
        refine ⟨.ref r, rfl, ?_⟩
        refine tcall2 (v := .ref D) (u := .int ((xs.map V.str ++ vs).length : Nat)) (fun Q q => ⟨_, rfl, q⟩) (fun Q q => ⟨.ref r, rfl, r, _, rfl, .inl (SqL.of er), q⟩) ?_
        have eL : (xs.map V.str ++ vs).length = xs.length + 2 := by rw [List.length_append, List.length_map, len4]; rfl
        have c2 : 2 ≤ cst d := by cases d <;> simp [cst]
        refine ⟨t6, D, (xs.map V.str ++ vs).length, m + 1, rfl, by omega, by omega, by omega, d6, fun i H7 hi x7 d7 => ?_⟩
        have er7 : H7 r = some (.lst (xs.map V.str ++ vs)) := x7.keep r (fun z => by
          rcases List.mem_cons.mp z with z | z
          · exact rD z
          · exact notTab t6 er (fun ps z => by cases z) z) _ er
        have items7 := dpA_tups (fun _ _ q => x7.sqTD t6 e6 q) (puA_all.mpr fun z hz => by
          rcases List.mem_append.mp hz with hz | hz
          · obtain ⟨x, _, rfl⟩ := List.mem_map.mp hz
            rfl
          · rcases List.mem_cons.mp hz with hz | hz
            · rw [hz]; rfl
            · rw [List.mem_singleton.mp hz]; rfl) items
        have hi2 : i < (xs.map PyData.str ++ [enc (.c (Str.ofString "a")), enc (.c (Str.ofString "b"))]).length := by
          rw [← dpA_len items]; exact hi
        obtain ⟨v, hv, rv⟩ := dpA_get items7 (List.getElem?_eq_getElem hi2)
        refine ⟨r, xs.map V.str ++ vs, i, v, rfl, rfl, SqL.of er7, atI_get (by omega) (by rw [Int.toNat_natCast]; exact hv), ?_⟩
        have xx : Ext (D :: G) H H7 := (x12.trans y26.wide).trans x7
        have fin : ∀ t : T, (xs.map PyData.str ++ [enc (.c (Str.ofString "a")), enc (.c (Str.ofString "b"))])[i] = enc t → t.dp ≤ d → t.drawn xs → Q v H7 := fun t et hdp hdr => q v H7 t xx (d7.mono (by omega)) (by rw [← et]; exact rv) hdp hdr
        by_cases hx : i < xs.length
        · refine fin (.v xs[i]) ?_ (Nat.zero_le _) (List.getElem_mem hx)
          rw [List.getElem_append_left (by rw [List.length_map]; exact hx), List.getElem_map]
          rfl
        · have hi3 : i = xs.length ∨ i = xs.length + 1 := by
            rw [List.length_append, List.length_map] at hi2
            have : ([enc (.c (Str.ofString "a")), enc (.c (Str.ofString "b"))] : List PyData).length = 2 := rfl
            omega
          rcases hi3 with e | e
          · refine fin (.c (Str.ofString "a")) ?_ (Nat.zero_le _) (.inl rfl)
            rw [List.getElem_append_right (by rw [List.length_map]; omega)]
            simp [e]
          · refine fin (.c (Str.ofString "b")) ?_ (Nat.zero_le _) (.inr rfl)
            rw [List.getElem_append_right (by rw [List.length_map]; omega)]
            simp [e]
    · have t2 := t1.ext y
      have d2 := d1.ext t1 y
      have N2 := dp_ext y t1 N1
      have x12 := x1.trans y.wide
      obtain ⟨d', rfl⟩ : ∃ d', d = d' + 1 := by
        cases d with
        | zero => simp at h0
        | succ d' => exact ⟨d', rfl⟩
      have eN : ((d' + 1 : Nat) : Int) - 1 = (d' : Nat) := by omega
      have cE : cst (d' + 1) = 2 * cst d' + 2 := rfl
      have call : ∀ (Hc : Hp) (n2 : Nat) (Qc : VK), Ext (D :: G) H Hc → DiceAt n2 Hc D → n2 ≤ m + 1 + cst d' → (∀ v H' t, Ext (D :: G) Hc H' → DiceAt (n2 + cst d') H' D → Dp K H' v (enc t) → t.dp ≤ d' → t.drawn xs → Qc v H') →
          tCall (spTerm G K n) [] (fun _ _ _ => False) (tCons (tVar 0) (tCons (tOp (rI0 fun i j => .int (i - j)) (tVar 1) (tC (.int 1))) (tCons (tVar 2) tNil))) [some (.ref D), some (.int (d' + 1 : Nat)), some (.ref Nm), some (.int kd), none] Hc Qc := fun Hc n2 Qc xc dc hn2 k => by
        refine tcall3 (v := .ref D) (u := .int d') (w := .ref Nm) (fun Q q => ⟨_, rfl, q⟩) (fun Q q => ⟨_, rfl, _, _, rfl, rfl, by show Q (.int (((d' + 1 : Nat) : Int) - 1)) Hc; rw [eN]; exact q⟩) (fun Q q => ⟨_, rfl, q⟩) ?_
        exact ⟨tG.wide xc, D, Nm, d', n2, xs, rfl, by omega, by omega, by omega, dc, hne, dp_lstD xc tG eD hne (puA_strs xs) hN, h10, k⟩
      refine s_ifR (edt_test (ed_op (K := K) t2 (ed_var t2 rfl (.int kd)) ed_int rd_ltI)) (fun _ H3 y3 => ?_) fun _ H3 y3 => ?_
      · have t3 := t2.ext y3
        have d3 := d2.ext t2 y3
        have x13 := x12.trans y3.wide
        refine call H3 (m + 1) _ x13 d3 (by omega) fun v H4 t x4 d4 rv hdp hdr => ?_
        have t4 := tG.wide (x13.trans x4)
        refine ⟨by show 1 ≤ sizeLine; decide, fun p hp => ⟨by show 2 ≤ sizeLine; decide, fun p2 hp2 => ?_⟩⟩
        have y5 : Ext G H4 (upd H4 p (.tup [v])) := Ext.new hp
        have t5 := t4.ext y5
        have y6 : Ext G (upd H4 p (.tup [v])) (upd (upd H4 p (.tup [v])) p2 (.tup [.str (Str.ofString "g"), .ref p])) := Ext.new hp2
        refine q _ _ (.u (Str.ofString "g") t) (((x13.trans x4).trans y5.wide).trans y6.wide) ((d4.ext t4 (y5.trans y6)).mono (by omega)) ?_ (by show t.dp + 1 ≤ d' + 1; omega) ⟨rfl, hdr⟩
        exact dp_new hp2 t5 (.cons (.str _) (.cons (dp_new hp t4 (.cons rv .nil)) .nil))
      · have t3 := t2.ext y3
        have d3 := d2.ext t2 y3
        have x13 := x12.trans y3.wide
        refine call H3 (m + 1) _ x13 d3 (by omega) fun v H4 t x4 d4 rv hdp hdr => ?_
        have t4 := tG.wide (x13.trans x4)
        refine call H4 (m + 1 + cst d') _ (x13.trans x4) d4 (by omega) fun v2 H5 t2' x5 d5 rv2 hdp2 hdr2 => ?_
        have t5 := tG.wide ((x13.trans x4).trans x5)
        obtain ⟨l4, e4⟩ := d4.new
        have rv5 := dp_extD x5 t4 e4 (pu_enc t) rv
        refine ⟨by show 2 ≤ sizeLine; decide, fun p hp => ⟨by show 2 ≤ sizeLine; decide, fun p2 hp2 => ?_⟩⟩
        have y5 : Ext G H5 (upd H5 p (.tup [v, v2])) := Ext.new hp
        have t6 := t5.ext y5
        have y6 : Ext G (upd H5 p (.tup [v, v2])) (upd (upd H5 p (.tup [v, v2])) p2 (.tup [.str (Str.ofString "f"), .ref p])) := Ext.new hp2
        refine q _ _ (.b (Str.ofString "f") t t2') ((((x13.trans x4).trans x5).trans y5.wide).trans y6.wide) ((d5.ext t5 (y5.trans y6)).mono (by omega)) ?_ (by show max t.dp t2'.dp + 1 ≤ d' + 1; omega) ⟨rfl, hdr, hdr2⟩
        exact dp_new hp2 t6 (.cons (.str _) (.cons (dp_new hp t5 (.cons rv5 (.cons rv2 .nil))) .nil))
end
end Rh
set_option Elab.async false
set_option linter.all false
set_option maxRecDepth 100000
set_option maxHeartbeats 400000
namespace Rh
open PySem PySem.Spec PyProof.Rows L2 GxR Gx Dl
abbrev s_lawabove : Stmt := topS 27
theorem sc_lawabove : FnScope ["how", "one", "two", "ranks", "weights"] ["how", "one", "two"] (defScope s_lawabove) := ⟨rfl, rfl, rfl, by decide +kernel, rfl, by decide +kernel, by decide +kernel⟩
abbrev st (x : String) : Str := Str.ofString x
def RK : Tb := [(st "a", 0), (st "b", 1), (st "g", 3), (st "f", 2)]
def WT : Tb := [(st "a", 1), (st "b", 2), (st "f", 1), (st "g", 0)]
def mkD (m : Tb) : List (Key × V) := m.map fun p => (.inr p.1, .int p.2)
theorem dkR_mkD {K : PySem.W.Frag} {H : Hp} : ∀ m : Tb, DkR K H (mkD m) (encT m)
  | [] => .nil
  | _ :: r => .cons (.int _) (dkR_mkD r)
def trsT (m : Tb) : List (TE × TE) := m.map fun p => (tC (.str p.1), tC (.int p.2))
theorem tPairs_T {σ : L2.St} {H : Hp} : ∀ (m : Tb) {Q : List (V × V) → Hp → Prop}, Q ((mkD m).map fun kv => (kV kv.1, kv.2)) H → tPairs (trsT m) σ H Q
  | [], Q, q => q
  | p :: r, Q, q => by
    show tPairs (trsT r) σ H fun ps H' => Q ((V.str p.1, V.int p.2) :: ps) H'
    exact tPairs_T r q
theorem edx_disp {G : List Addr} {K : PySem.W.Frag} {σ : L2.St} {H : Hp} {m : Tb} (hm : mergeK [] (mkD m) = mkD m) (hl : m.length ≤ 15) : EdX G K (tDisp (trsT m)) σ H (.k (encT m)) := fun H1 x Q q p hp =>
  tPairs_T m ⟨upd_same, mkD m, rfl, by unfold mkD; rw [List.length_map]; exact hl, by
    rw [hm, upd_upd]
    exact q _ _ (Ext.new hp) ⟨p, mkD m, rfl, upd_same, dkR_mkD m⟩⟩
theorem mg_RK : mergeK [] (mkD RK) = mkD RK := by decide +kernel
theorem mg_WT : mergeK [] (mkD WT) = mkD WT := by decide +kernel
def AR : Str → Nat := fun s => if s = st "g" then 1 else if s = st "f" then 2 else 0
abbrev dRK : TE := tDisp [(tC (.str (Str.ofString "a")), tC (.int 0)), (tC (.str (Str.ofString "b")), tC (.int 1)), (tC (.str (Str.ofString "g")), tC (.int 3)), (tC (.str (Str.ofString "f")), tC (.int 2))]
abbrev dWT : TE := tDisp [(tC (.str (Str.ofString "a")), tC (.int 1)), (tC (.str (Str.ofString "b")), tC (.int 2)), (tC (.str (Str.ofString "f")), tC (.int 1)), (tC (.str (Str.ofString "g")), tC (.int 0))]
theorem edx_RK {G : List Addr} {K : PySem.W.Frag} {σ : L2.St} {H : Hp} : EdX G K dRK σ H (.k (encT RK)) := edx_disp (m := RK) mg_RK (by decide)
theorem edx_WT {G : List Addr} {K : PySem.W.Frag} {σ : L2.St} {H : Hp} : EdX G K dWT σ H (.k (encT WT)) := edx_disp (m := WT) mg_WT (by decide)
theorem s_parX {G : List Addr} {K : PySem.W.Frag} {σ : L2.St} {H : Hp} {tA : TA} {D : Ends} {i j : Nat} {d e : Ar} (h : EdXA G K tA σ H [d, e]) (q : ∀ v u H', Ext G H H' → ArR K H' v d → ArR K H' u e → D.nx ((σ.set i (some v)).set j (some u)) H') : tPar i j tA D σ H :=
  h H (Ext.refl G H) _ fun ws H3 x3 rws => by
    obtain ⟨w1, w2, rfl, rw1, rw2⟩ := arA_two rws
    exact ⟨_, _, rfl, q w1 w2 H3 x3 rw1 rw2⟩
structure T.good (t : T) : Prop where
  f : t.fine AR RK
  w : t.inT WT
def lawAb (how : Str) (s t : T) : Bool := if how = st "paths" then ab RK 24 s t else hv RK WT 1 24 s t
def R_lawabove : List Ar → PyData → Prop := fun as d => ∃ (how : Str) (s t : T), as = [.d (.str how), .d (enc s), .d (enc t)] ∧ s.good ∧ t.good ∧ d = .bool (lawAb how s t)
section
variable {P : Program} {w : World} {K : PySem.W.Frag} {mg : Str → Option Value} {base : Heap} {G : List Addr} {f : Addr} {fd : FuncData}
theorem cl_lawabove (D : DefF K mg base G "_law_above" s_lawabove ["how", "one", "two"] f fd) (ia : Cl0 P w K mg base 78 "is_above" (spA G K (R_above 24))) (ih : Cl0 P w K mg base 78 "is_heavier" (spA G K (R_heavier 24))) :
    Cl0 P w K mg base 79 "_law_above" (spA G K R_lawabove) := by
  refine D.cl (k := 78) sc_lawabove (fun ds d ⟨how, a, b, e, _⟩ => by rw [e]; rfl) fun c Pt A outer s H vs ds d Q E TB hP hr tG hv' r q => ?_
  refine ⟨_, pss_cons (ps_par (i := 3) (j := 4) (by rfl) sc_lawabove.nd rfl rfl (by decide) rfl rfl
      (pa_cons (pe_disp (pps_cons pe_str pe_int (pps_cons pe_str pe_int (pps_cons pe_str pe_int (pps_cons pe_str pe_int pps_nil)))) (by rfl) (by rfl) (fun z => by cases z) (by decide))
      (pa_cons (pe_disp (pps_cons pe_str pe_int (pps_cons pe_str pe_int (pps_cons pe_str pe_int (pps_cons pe_str pe_int pps_nil)))) (by rfl) (by rfl) (fun z => by cases z) (by decide)) pa_nil)) (by rfl))
    (pss_one (ps_ret (pe_ifExp (pt_cmpR op_eq (pv 0) pe_str (nomark _)) (pe_cl ia hr rfl (pa_cons (pv 1) (pa_cons (pv 2) (pa_cons (pv 3) pa_nil)))) (pe_cl ih hr rfl (pa_cons (pv 1) (pa_cons (pv 2) (pa_cons (pv 4) (pa_cons pe_int (pa_cons (pv 3) pa_nil))))))))), ?_⟩
  obtain ⟨how, a, b, rfl, ga, gb, rfl⟩ := r
  obtain ⟨v, u, z, rfl, rv, ru, rz⟩ := arA_three hv'
  have eA : EdXA G K (tCons dRK (tCons dWT tNil)) [some v, some u, some z, none, none] H [.k (encT RK), .k (encT WT)] :=
    ea_cons tG edx_RK (ea_one edx_WT)
  refine s_parX eA fun p1 p2 H2 x2 r1 r2 => ?_
  have t2 := tG.ext x2
  have v0 : ∀ {H'}, Ext G H2 H' → Ed G K (tVar 0) [some v, some u, some z, some p1, some p2] H' (.str how) := fun y => ed_var (t2.ext y) rfl (dp_ext (x2.trans y) tG (show Dp K H v (.str how) from rv))
  have v1 : ∀ {H'}, Ext G H2 H' → Ed G K (tVar 1) [some v, some u, some z, some p1, some p2] H' (enc a) := fun y => ed_var (t2.ext y) rfl (dp_ext (x2.trans y) tG ru)
  have v2 : ∀ {H'}, Ext G H2 H' → Ed G K (tVar 2) [some v, some u, some z, some p1, some p2] H' (enc b) := fun y => ed_var (t2.ext y) rfl (dp_ext (x2.trans y) tG rz)
  have v3 : ∀ {H'}, Ext G H2 H' → EdX G K (tVar 3) [some v, some u, some z, some p1, some p2] H' (.k (encT RK)) := fun y => edx_var (t2.ext y) rfl (ar_ext y t2 r1)
  have v4 : ∀ {H'}, Ext G H2 H' → EdX G K (tVar 4) [some v, some u, some z, some p1, some p2] H' (.k (encT WT)) := fun y => edx_var (t2.ext y) rfl (ar_ext y t2 r2)
  have rf := Ext.refl G H2
  have da := ga.f.d
  have db := gb.f.d
  refine s_ret (K := K) (d := .bool (lawAb how a b)) (ed_if (edt_test (ed_op t2 (v0 rf) ed_str rd_eqS)) (fun h => ?_) fun h => ?_) fun w' H3 y3 rw_ => q w' H3 (x2.trans y3) rw_
  · exact ea_call t2 (ea_cons t2 (edx_of (v1 rf)) (ea_cons t2 (edx_of (v2 rf)) (ea_one (v3 rf)))) ⟨a, b, RK, AR, rfl, ga.f, gb.f, by omega, by rw [lawAb, if_pos (of_decide_eq_true h)]⟩
  · exact ea_call t2 (ea_cons t2 (edx_of (v1 rf)) (ea_cons t2 (edx_of (v2 rf)) (ea_cons t2 (v4 rf) (ea_cons t2 (edx_of ed_int) (ea_one (v3 rf)))))) ⟨a, b, RK, WT, 1, AR, rfl, ga.f, gb.f, ga.w, gb.w, by omega, by rw [lawAb, if_neg (of_decide_eq_false h)]⟩
end
end Rh
set_option Elab.async false
set_option linter.all false
set_option maxRecDepth 100000
set_option maxHeartbeats 1000000
/-! weights -/
namespace Rh
open PySem PySem.Spec PyProof.Rows L2 GxR Gx Dl
section
variable (m w : Tb) (l : Int)
theorem hv_fuel : ∀ (n k : Nat) (s t : T), s.dp < n → s.dp < k → hv m w l n s t = hv m w l k s t
  | 0, _, _, _, h, _ => (Nat.not_lt_zero _ h).elim
  | _ + 1, 0, _, _, _, h => (Nat.not_lt_zero _ h).elim
  | n + 1, k + 1, s, t, h1, h2 => by
    have e3 : lexB (hv m w l n) s.parts t.parts = lexB (hv m w l k) s.parts t.parts := lexB_congr fun a ha b hb => by
      have := T.dp_parts ha
      exact hv_fuel n k a b (by omega) (by omega)
    rw [hv, hv, e3]
/-- above by weights -/
def Kt (s t : T) : Prop := hv m w l (s.dp + 1) s t = true
theorem kt_at {n : Nat} {s t : T} (h : s.dp < n) : hv m w l n s t = true ↔ Kt m w l s t := by
  unfold Kt
  rw [hv_fuel m w l n (s.dp + 1) s t h (by omega)]
theorem kt_iff (s t : T) : Kt m w l s t ↔ (∀ x, t.uses x ≤ s.uses x) ∧ ((t.weight w l < s.weight w l) ∨ (s.weight w l = t.weight w l ∧ s.isV = false ∧ ((t.isV = true ∧ s.tower t.sgn = true) ∨ (t.isV = false ∧ (if s.sgn = t.sgn then LexP (Kt m w l) s.parts t.parts else rkT m t.sgn < rkT m s.sgn))))) := by
  have e0 : Kt m w l s t ↔ hv m w l (s.dp + 1) s t = true := Iff.rfl
  have e1 : (!(t.vars.any fun x => decide ((s.uses x : Int) < t.uses x))) = true ↔ ∀ x, t.uses x ≤ s.uses x := by
    rw [Bool.not_eq_true', List.any_eq_false]
    constructor
    · intro h x
      by_cases hx : x ∈ t.vars
      · have := h x hx
        simp only [decide_eq_true_iff] at this
        omega
      · have : ¬ 0 < t.uses x := fun z => hx ((T.vars_mem t).mpr z)
        omega
    · intro h x _ z
      have := h x
      simp only [decide_eq_true_iff] at z
      omega
  have e3 : lexB (hv m w l s.dp) s.parts t.parts = true ↔ LexP (Kt m w l) s.parts t.parts := by
    rw [lexB_iff]
    constructor
    · refine lexP_imp fun a ha b hb h => ?_
      exact (kt_at m w l (T.dp_parts ha)).mp h
    · refine lexP_imp fun a ha b hb h => ?_
      exact (kt_at m w l (T.dp_parts ha)).mpr h
  rw [e0, hv, Bool.and_eq_true, e1]
  refine and_congr_right fun _ => ?_
  by_cases hw : s.weight w l = t.weight w l
  · have nlt : ¬ t.weight w l < s.weight w l := by omega
    rw [if_pos hw, Bool.and_eq_true]
    cases hs : s.isV with
    | true => simp [nlt]
    | false =>
      cases ht : t.isV with
      | true => simp [nlt, hw]
      | false =>
        by_cases hx : s.sgn = t.sgn
        · simp only [if_pos hx, e3, Bool.not_false, Bool.false_eq_true, if_false, true_and, false_and, false_or, nlt, hw, or_false, Int.lt_irrefl]
        · simp only [if_neg hx, Bool.not_false, Bool.false_eq_true, if_false, true_and, false_and, false_or, nlt, hw, decide_eq_true_iff, or_false, Int.lt_irrefl]
  · rw [if_neg hw, decide_eq_true_iff]
    simp [hw]
end
/-- the law's weights -/
abbrev Kw : T → T → Prop := Kt RK WT 1
def T.wt : T → Nat
  | .v _ => 1
  | .c s => if s = st "b" then 2 else 1
  | .u _ t => t.wt
  | .b _ t r => t.wt + r.wt + 1
theorem get_a : getT WT (st "a") = some 1 := by decide +kernel
theorem get_b : getT WT (st "b") = some 2 := by decide +kernel
theorem get_f : getT WT (st "f") = some 1 := by decide +kernel
theorem get_g : getT WT (st "g") = some 0 := by decide +kernel
theorem ab_ne : st "a" ≠ st "b" := by decide +kernel
theorem wt_is {xs : List Str} : ∀ {t : T}, t.drawn xs → t.weight WT 1 = (t.wt : Int)
  | .v _, _ => rfl
  | .c s, h => by
    rcases h with h | h
    · subst h
      rw [T.weight, get_a, T.wt, if_neg ab_ne]
      rfl
    · subst h
      rw [T.weight, get_b, T.wt, if_pos rfl]
      rfl
  | .u s t, h => by
    obtain ⟨h1, h2⟩ := h
    subst h1
    rw [T.weight, get_g, T.wt, wt_is h2]
    show (0 : Int) + _ = _
    omega
  | .b s t r, h => by
    obtain ⟨h1, h2, h3⟩ := h
    subst h1
    rw [T.weight, get_f, T.wt, wt_is h2, wt_is h3]
    show (1 : Int) + _ = _
    omega
theorem wt_pos : ∀ t : T, 1 ≤ t.wt
  | .v _ => Nat.le_refl _
  | .c s => by rw [T.wt]; split <;> omega
  | .u _ t => wt_pos t
  | .b _ t r => by rw [T.wt]; omega
theorem drawn_parts {xs : List Str} {t p : T} (h : t.drawn xs) (hp : p ∈ t.parts) : p.drawn xs := by
  cases t with
  | v x => cases hp
  | c s => cases hp
  | u s t =>
    rw [T.parts, List.mem_singleton] at hp
    subst hp
    exact h.2
  | b s t r =>
    rw [T.parts, List.mem_cons, List.mem_singleton] at hp
    rcases hp with hp | hp <;> subst hp
    · exact h.2.1
    · exact h.2.2
/-- what Kw says of the law's terms -/
theorem kw_iff {xs : List Str} {s t : T} (ds : s.drawn xs) (dt : t.drawn xs) : Kw s t ↔ (∀ x, t.uses x ≤ s.uses x) ∧ ((t.wt < s.wt) ∨ (s.wt = t.wt ∧ s.isV = false ∧ ((t.isV = true ∧ s.tower t.sgn = true) ∨ (t.isV = false ∧ (if s.sgn = t.sgn then LexP Kw s.parts t.parts else rkT RK t.sgn < rkT RK s.sgn))))) := by
  rw [Kw, kt_iff, wt_is ds, wt_is dt]
  have e1 : ((t.wt : Int) < (s.wt : Int)) ↔ t.wt < s.wt := by omega
  have e2 : ((s.wt : Int) = (t.wt : Int)) ↔ s.wt = t.wt := by omega
  rw [e1, e2]
theorem kw_irr (s : T) (h : Kw s s) : False := by
  rcases (kt_iff RK WT 1 s s).mp h with ⟨_, h | ⟨_, hv, ⟨h, _⟩ | ⟨_, h⟩⟩⟩
  · omega
  · rw [hv] at h; cases h
  · rw [if_pos rfl] at h
    exact lexP_irr h
theorem kw_ne {s t : T} (h : Kw s t) : s ≠ t := fun e => kw_irr s (by rw [← e] at h; exact h)
theorem tower_of {xs : List Str} {x : Str} : ∀ {s : T}, s.drawn xs → s.wt = 1 → 1 ≤ s.uses x → s.tower x = true
  | .v y, _, _, h => by
    rw [T.uses] at h
    split at h
    · next e => rw [T.tower]; exact decide_eq_true e
    · omega
  | .c _, _, _, h => by rw [T.uses] at h; omega
  | .u _ t, d, hw, h => show t.tower x = true from tower_of (xs := xs) (s := t) d.2 hw h
  | .b _ t r, _, hw, _ => by
    rw [T.wt] at hw
    have := wt_pos t
    omega
theorem kw_tr {xs : List Str} : ∀ (n : Nat) (s t u : T), s.size + t.size + u.size ≤ n → s.drawn xs → t.drawn xs → u.drawn xs → Kw s t → Kw t u → Kw s u
  | 0, s, t, u, hn, _, _, _, _, _ => by
    exfalso
    have : 0 < s.size := by cases s <;> simp [T.size]
    omega
  | n + 1, s, t, u, hn, ds, dt, du, h1, h2 => by
    obtain ⟨u1, c1⟩ := (kw_iff ds dt).mp h1
    obtain ⟨u2, c2⟩ := (kw_iff dt du).mp h2
    refine (kw_iff ds du).mpr ⟨fun x => Nat.le_trans (u2 x) (u1 x), ?_⟩
    rcases c1 with c1 | ⟨w1, hs, c1⟩
    · rcases c2 with c2 | ⟨w2, _⟩ <;> exact .inl (by omega)
    rcases c2 with c2 | ⟨w2, ht, c2⟩
    · exact .inl (by omega)
    refine .inr ⟨by omega, hs, ?_⟩
    rcases c1 with ⟨z, _⟩ | ⟨_, c1⟩
    · rw [ht] at z; cases z
    rcases c2 with ⟨hu, _⟩ | ⟨hu, c2⟩
    · refine .inl ⟨hu, tower_of ds ?_ ?_⟩
      · cases u with
        | v x => exact w1.trans w2
        | c _ => cases hu
        | u _ _ => cases hu
        | b _ _ _ => cases hu
      · refine Nat.le_trans ?_ (Nat.le_trans (u2 _) (u1 _))
        cases u with
        | v x => show 1 ≤ if x = x then 1 else 0; rw [if_pos rfl]; exact Nat.le_refl _
        | c _ => cases hu
        | u _ _ => cases hu
        | b _ _ _ => cases hu
    · refine .inr ⟨hu, ?_⟩
      by_cases e1 : s.sgn = t.sgn
      · rw [if_pos e1] at c1
        by_cases e2 : t.sgn = u.sgn
        · rw [if_pos e2] at c2
          rw [if_pos (e1.trans e2)]
          refine lexP_tr (fun a ha b hb c hc h3 h4 => ?_) c1 c2
          have := T.size_parts ha
          have := T.size_parts hb
          have := T.size_parts hc
          have h5 := kw_tr n a b c (by omega) (drawn_parts ds ha) (drawn_parts dt hb) (drawn_parts du hc) h3 h4
          exact ⟨h5, kw_ne h5⟩
        · rw [if_neg e2] at c2
          rw [if_neg (fun z => e2 (e1.symm.trans z)), e1]
          exact c2
      · rw [if_neg e1] at c1
        by_cases e2 : t.sgn = u.sgn
        · rw [if_neg (fun z => e1 (z.trans e2.symm)), ← e2]
          exact c1
        · rw [if_neg e2] at c2
          rw [if_neg (fun z => by rw [z] at c1; omega)]
          omega
theorem kw_trans {xs : List Str} {s t u : T} (ds : s.drawn xs) (dt : t.drawn xs) (du : u.drawn xs) (h1 : Kw s t) (h2 : Kw t u) : Kw s u := kw_tr _ s t u (Nat.le_refl _) ds dt du h1 h2
abbrev gg (t : T) : T := .u (st "g") t
abbrev ff (t r : T) : T := .b (st "f") t r
theorem rk_a : rkT RK (st "a") = 0 := by decide +kernel
theorem rk_b : rkT RK (st "b") = 1 := by decide +kernel
theorem rk_f : rkT RK (st "f") = 2 := by decide +kernel
theorem rk_g : rkT RK (st "g") = 3 := by decide +kernel
theorem fg_ne : st "f" ≠ st "g" := by decide +kernel
theorem ag_ne : st "a" ≠ st "g" := by decide +kernel
theorem bg_ne : st "b" ≠ st "g" := by decide +kernel
theorem gg_above {xs : List Str} : ∀ {r : T}, r.drawn xs → Kw (gg r) r
  | .v x, d => (kw_iff (xs := xs) (s := gg (.v x)) (t := .v x) ⟨rfl, d⟩ d).mpr ⟨fun y => Nat.le_refl _, .inr ⟨rfl, rfl, .inl ⟨rfl, by simp [T.tower, T.sgn]⟩⟩⟩
  | .c s, d => (kw_iff (xs := xs) (s := gg (.c s)) (t := .c s) ⟨rfl, d⟩ d).mpr ⟨fun y => Nat.le_refl _, .inr ⟨rfl, rfl, .inr ⟨rfl, by
      rcases d with h | h
      · subst h
        rw [if_neg (fun z => ag_ne z.symm)]
        show rkT RK (st "a") < rkT RK (st "g")
        rw [rk_a, rk_g]; decide
      · subst h
        rw [if_neg (fun z => bg_ne z.symm)]
        show rkT RK (st "b") < rkT RK (st "g")
        rw [rk_b, rk_g]; decide⟩⟩⟩
  | .u s t, d => (kw_iff (xs := xs) (s := gg (.u s t)) (t := .u s t) ⟨rfl, d⟩ d).mpr ⟨fun y => Nat.le_refl _, .inr ⟨rfl, rfl, .inr ⟨rfl, by
      obtain ⟨h1, h2⟩ := d
      subst h1
      rw [if_pos (show (gg (T.u (st "g") t)).sgn = (T.u (st "g") t).sgn from rfl)]
      have ih := gg_above h2
      exact .inr ⟨fun z => kw_ne ih z, ih⟩⟩⟩⟩
  | .b s t r, d => (kw_iff (xs := xs) (s := gg (.b s t r)) (t := .b s t r) ⟨rfl, d⟩ d).mpr ⟨fun y => Nat.le_refl _, .inr ⟨rfl, rfl, .inr ⟨rfl, by
      obtain ⟨h1, h2⟩ := d
      subst h1
      rw [if_neg (fun z => fg_ne z.symm)]
      show rkT RK (st "f") < rkT RK (st "g")
      rw [rk_f, rk_g]; decide⟩⟩⟩
theorem kw_gg {xs : List Str} {a b : T} (da : a.drawn xs) (db : b.drawn xs) (h : Kw a b) : Kw (gg a) (gg b) := by
  obtain ⟨u1, c1⟩ := (kw_iff da db).mp h
  refine (kw_iff (s := gg a) (t := gg b) ⟨rfl, da⟩ ⟨rfl, db⟩).mpr ⟨u1, ?_⟩
  rcases c1 with c1 | ⟨w1, _⟩
  · exact .inl c1
  · exact .inr ⟨w1, rfl, .inr ⟨rfl, by rw [if_pos (show (gg a).sgn = (gg b).sgn from rfl)]; exact .inr ⟨kw_ne h, h⟩⟩⟩
theorem kw_ff {xs : List Str} {a b c : T} (da : a.drawn xs) (db : b.drawn xs) (dc : c.drawn xs) (h : Kw a b) : Kw (ff c a) (ff c b) := by
  obtain ⟨u1, c1⟩ := (kw_iff da db).mp h
  refine (kw_iff (s := ff c a) (t := ff c b) ⟨rfl, dc, da⟩ ⟨rfl, dc, db⟩).mpr ⟨fun x => Nat.add_le_add_left (u1 x) _, ?_⟩
  rcases c1 with c1 | ⟨w1, _⟩
  · exact .inl (by simp only [T.wt]; omega)
  · exact .inr ⟨by simp only [T.wt]; omega, rfl, .inr ⟨rfl, by rw [if_pos (show (ff c a).sgn = (ff c b).sgn from rfl)]; exact .inl ⟨rfl, .inr ⟨kw_ne h, h⟩⟩⟩⟩
theorem kw_ffl {xs : List Str} {a b : T} (da : a.drawn xs) (db : b.drawn xs) : Kw (ff a b) a :=
  (kw_iff (s := ff a b) (t := a) ⟨rfl, da, db⟩ da).mpr ⟨fun x => Nat.le_add_right _ _, .inl (by simp only [T.wt]; omega)⟩
theorem gt_gg {a b : T} (h : Gt RK a b) : Gt RK (gg a) (gg b) :=
  (gt_iff RK _ _).mpr ⟨rfl, .inr ⟨rfl, fun q hq => by rw [List.mem_singleton.mp hq]; exact gt_part (p := a) List.mem_cons_self (.inr h), by rw [if_pos (show (gg a).sgn = (gg b).sgn from rfl)]; exact .inr ⟨gt_ne h, h⟩⟩⟩
theorem gt_ff {a b c : T} (h : Gt RK a b) : Gt RK (ff c a) (ff c b) :=
  (gt_iff RK _ _).mpr ⟨rfl, .inr ⟨rfl, fun q hq => by
    rcases List.mem_cons.mp hq with e | e
    · rw [e]; exact gt_part (p := c) List.mem_cons_self (.inl rfl)
    · rw [List.mem_singleton.mp e]; exact gt_part (p := a) (List.mem_cons_of_mem _ List.mem_cons_self) (.inr h), by rw [if_pos (show (ff c a).sgn = (ff c b).sgn from rfl)]; exact .inl ⟨rfl, .inr ⟨gt_ne h, h⟩⟩⟩⟩
theorem gt_ffl {a b : T} : Gt RK (ff a b) a := gt_part (p := a) List.mem_cons_self (.inl rfl)
theorem gt_ggl {a : T} : Gt RK (gg a) a := gt_part (p := a) List.mem_cons_self (.inl rfl)
theorem rk_inj : ∀ x y : Str, (getT RK x).isSome = true → (getT RK y).isSome = true → x ≠ y → rkT RK x ≠ rkT RK y := by
  have four : ∀ x : Str, (getT RK x).isSome = true → x = st "a" ∨ x = st "b" ∨ x = st "g" ∨ x = st "f" := fun x h => by
    simp only [getT, RK, List.find?_cons, List.find?_nil] at h
    by_cases h1 : st "a" = x
    · exact .inl h1.symm
    by_cases h2 : st "b" = x
    · exact .inr (.inl h2.symm)
    by_cases h3 : st "g" = x
    · exact .inr (.inr (.inl h3.symm))
    by_cases h4 : st "f" = x
    · exact .inr (.inr (.inr h4.symm))
    rw [decide_eq_false h1, decide_eq_false h2, decide_eq_false h3, decide_eq_false h4] at h
    cases h
  intro x y hx hy ne
  rcases four x hx with rfl | rfl | rfl | rfl <;> rcases four y hy with rfl | rfl | rfl | rfl <;> first | exact (ne rfl).elim | (simp only [rk_a, rk_b, rk_f, rk_g]; decide)
theorem kw_total {ar : Str → Nat} {xs : List Str} : ∀ (n : Nat) (s t : T), s.size + t.size ≤ n → s.closed → t.closed → s.drawn xs → t.drawn xs → s.inA ar → t.inA ar → s.inT RK → t.inT RK → s ≠ t → Kw s t ∨ Kw t s
  | 0, s, t, hn, _, _, _, _, _, _, _, _, _ => by
    exfalso
    have : 0 < s.size := by cases s <;> simp [T.size]
    omega
  | n + 1, s, t, hn, cs, ct, ds, dt, as, at_, is, it, ne => by
    have vs := closed_n cs
    have vt := closed_n ct
    have u0 : ∀ t : T, t.closed → ∀ x, t.uses x = 0 := fun t => by
      induction t with
      | v x => exact fun h => h.elim
      | c s => exact fun _ _ => rfl
      | u s t ih => exact fun h x => ih h x
      | b s t r ih ih2 => exact fun h x => by rw [T.uses, ih h.1 x, ih2 h.2 x]
    have us : ∀ x, t.uses x ≤ s.uses x := fun x => by rw [u0 t ct x]; exact Nat.zero_le _
    have ut : ∀ x, s.uses x ≤ t.uses x := fun x => by rw [u0 s cs x]; exact Nat.zero_le _
    rcases Nat.lt_trichotomy s.wt t.wt with hw | hw | hw
    · exact .inr ((kw_iff dt ds).mpr ⟨ut, .inl hw⟩)
    · by_cases e : s.sgn = t.sgn
      · have hl : s.parts.length = t.parts.length := by rw [T.inA_len as vs, T.inA_len at_ vt, e]
        rcases lexP_total (R := Kw) hl (fun a ha b hb hab => by
          have := T.size_parts ha
          have := T.size_parts hb
          exact kw_total n a b (by omega) (closed_parts cs ha) (closed_parts ct hb) (drawn_parts ds ha) (drawn_parts dt hb) (T.inA_parts as ha) (T.inA_parts at_ hb) (T.inT_parts is ha) (T.inT_parts it hb) hab) (fun z => ne (same_node vs vt e z)) with z | z
        · exact .inl ((kw_iff ds dt).mpr ⟨us, .inr ⟨hw, vs, .inr ⟨vt, by rw [if_pos e]; exact z⟩⟩⟩)
        · exact .inr ((kw_iff dt ds).mpr ⟨ut, .inr ⟨hw.symm, vt, .inr ⟨vs, by rw [if_pos e.symm]; exact z⟩⟩⟩)
      · obtain ⟨k1, hk1⟩ := T.inT_sgn is vs
        obtain ⟨k2, hk2⟩ := T.inT_sgn it vt
        have hne := rk_inj s.sgn t.sgn (by rw [hk1]; rfl) (by rw [hk2]; rfl) e
        rcases Int.lt_or_gt_of_ne hne with z | z
        · exact .inr ((kw_iff dt ds).mpr ⟨ut, .inr ⟨hw.symm, vt, .inr ⟨vs, by rw [if_neg (fun q => e q.symm)]; exact z⟩⟩⟩)
        · exact .inl ((kw_iff ds dt).mpr ⟨us, .inr ⟨hw, vs, .inr ⟨vt, by rw [if_neg e]; exact z⟩⟩⟩)
    · exact .inl ((kw_iff ds dt).mpr ⟨us, .inl hw⟩)
end Rh
set_option Elab.async false
set_option linter.all false
set_option maxRecDepth 100000
set_option maxHeartbeats 1000000
/-! weights with things put in -/
namespace Rh
open PySem PySem.Spec PyProof.Rows L2 GxR Gx Dl
abbrev sb (p q : T) : Sub := [(st "x", p), (st "y", q)]
theorem xy_ne : st "x" ≠ st "y" := by decide +kernel
theorem put_x (p q : T) : (T.v (st "x")).put (sb p q) = p := by
  rw [T.put, getS, List.find?_cons]
  simp
theorem put_y (p q : T) : (T.v (st "y")).put (sb p q) = q := by
  rw [T.put, getS, List.find?_cons, show decide ((st "x", p).1 = st "y") = false from decide_eq_false xy_ne]
  simp
abbrev XY : List Str := [st "x", st "y"]
theorem use_xx : (T.v (st "x")).uses (st "x") = 1 := by rw [T.uses, if_pos rfl]
theorem use_xy : (T.v (st "x")).uses (st "y") = 0 := by rw [T.uses, if_neg xy_ne]
theorem use_yx : (T.v (st "y")).uses (st "x") = 0 := by rw [T.uses, if_neg (fun z => xy_ne z.symm)]
theorem use_yy : (T.v (st "y")).uses (st "y") = 1 := by rw [T.uses, if_pos rfl]
theorem xy_or {x : Str} (h : (T.v x).drawn XY) : x = st "x" ∨ x = st "y" := by
  have h' : x ∈ XY := h
  rcases List.mem_cons.mp h' with h | h
  · exact .inl h
  · exact .inr (List.mem_singleton.mp h)
theorem wt_put {p q : T} {p' q' : Nat} (hp : p.wt = p' + 1) (hq : q.wt = q' + 1) : ∀ {t : T}, t.drawn XY → (t.put (sb p q)).wt = t.wt + t.uses (st "x") * p' + t.uses (st "y") * q'
  | .v x, h => by
    rcases xy_or h with e | e
    · subst e
      rw [put_x, use_xx, use_xy, hp, T.wt]
      omega
    · subst e
      rw [put_y, use_yx, use_yy, hq, T.wt]
      omega
  | .c s, _ => by simp [T.put, T.uses]
  | .u s t, h => by
    rw [T.put, T.wt, wt_put hp hq h.2, T.wt, T.uses, T.uses]
  | .b s t r, h => by
    rw [T.put, T.wt, wt_put hp hq h.2.1, wt_put hp hq h.2.2, T.wt, T.uses, T.uses, Nat.add_mul, Nat.add_mul]
    omega
theorem uses_put {p q : T} (z : Str) : ∀ {t : T}, t.drawn XY → (t.put (sb p q)).uses z = t.uses (st "x") * p.uses z + t.uses (st "y") * q.uses z
  | .v x, h => by
    rcases xy_or h with e | e
    · subst e
      rw [put_x, use_xx, use_xy]
      omega
    · subst e
      rw [put_y, use_yx, use_yy]
      omega
  | .c s, _ => by simp [T.put, T.uses]
  | .u s t, h => by
    rw [T.put, T.uses, uses_put z h.2, T.uses, T.uses]
  | .b s t r, h => by
    rw [T.put, T.uses, uses_put z h.2.1, uses_put z h.2.2, T.uses, T.uses, Nat.add_mul, Nat.add_mul]
    omega
theorem drawn_put {ys : List Str} {p q : T} (hp : p.drawn ys) (hq : q.drawn ys) : ∀ {t : T}, t.drawn XY → (t.put (sb p q)).drawn ys
  | .v x, h => by
    rcases xy_or h with e | e
    · subst e
      rw [put_x]
      exact hp
    · subst e
      rw [put_y]
      exact hq
  | .c s, h => h
  | .u s t, h => ⟨h.1, drawn_put hp hq h.2⟩
  | .b s t r, h => ⟨h.1, drawn_put hp hq h.2.1, drawn_put hp hq h.2.2⟩
theorem tower_put {ys : List Str} {p q : T} (hp : p.drawn ys) (hq : q.drawn ys) {z : Str} : ∀ {s : T}, s.drawn XY → s.isV = false → s.tower z = true → Kw (s.put (sb p q)) ((T.v z).put (sb p q))
  | .v _, _, h, _ => by cases h
  | .c _, _, _, h => by cases h
  | .b _ _ _, _, _, h => by cases h
  | .u g t, d, _, h => by
    obtain ⟨e, dt⟩ := d
    subst e
    have h' : t.tower z = true := h
    have dp := drawn_put hp hq dt
    have ab : Kw ((T.u (st "g") t).put (sb p q)) (t.put (sb p q)) := gg_above dp
    cases hv : t.isV with
    | true =>
      cases t with
      | v y =>
        rw [T.tower, decide_eq_true_iff] at h'
        rw [← h']
        exact ab
      | c _ => cases hv
      | u _ _ => cases hv
      | b _ _ _ => cases hv
    | false =>
      have hz : (T.v z).drawn XY := by
        have go : ∀ {t : T}, t.drawn XY → t.tower z = true → (T.v z).drawn XY := fun {t} => by
          induction t with
          | v y =>
            intro d h
            rw [T.tower, decide_eq_true_iff] at h
            rw [← h]
            exact d
          | c _ => intro _ h; cases h
          | u _ t ih => intro d h; exact ih d.2 h
          | b _ _ _ _ _ => intro _ h; cases h
        exact go dt h'
      exact kw_trans (xs := ys) ⟨rfl, dp⟩ dp (drawn_put hp hq hz) ab (tower_put hp hq dt hv h')
theorem kw_put {ys : List Str} {p q : T} (hp : p.drawn ys) (hq : q.drawn ys) : ∀ (n : Nat) (s t : T), s.size + t.size ≤ n → s.drawn XY → t.drawn XY → Kw s t → Kw (s.put (sb p q)) (t.put (sb p q))
  | 0, s, t, hn, _, _, _ => by
    exfalso
    have : 0 < s.size := by cases s <;> simp [T.size]
    omega
  | n + 1, s, t, hn, ds, dt, h => by
    obtain ⟨us, c⟩ := (kw_iff ds dt).mp h
    have dps := drawn_put hp hq ds
    have dpt := drawn_put hp hq dt
    obtain ⟨p', ep⟩ : ∃ k, p.wt = k + 1 := ⟨p.wt - 1, by have := wt_pos p; omega⟩
    obtain ⟨q', eq⟩ : ∃ k, q.wt = k + 1 := ⟨q.wt - 1, by have := wt_pos q; omega⟩
    have w1 := wt_put ep eq ds
    have w2 := wt_put ep eq dt
    have m1 := Nat.mul_le_mul_right p' (us (st "x"))
    have m2 := Nat.mul_le_mul_right q' (us (st "y"))
    have up : ∀ z, (t.put (sb p q)).uses z ≤ (s.put (sb p q)).uses z := fun z => by
      rw [uses_put z ds, uses_put z dt]
      exact Nat.add_le_add (Nat.mul_le_mul_right _ (us _)) (Nat.mul_le_mul_right _ (us _))
    rcases c with c | ⟨w, vs, c⟩
    · exact (kw_iff dps dpt).mpr ⟨up, .inl (by omega)⟩
    rcases c with ⟨vt, tw⟩ | ⟨vt, c⟩
    · cases t with
      | v z => exact tower_put hp hq ds vs tw
      | c _ => cases vt
      | u _ _ => cases vt
      | b _ _ _ => cases vt
    · refine (kw_iff dps dpt).mpr ⟨up, ?_⟩
      by_cases hw : (t.put (sb p q)).wt < (s.put (sb p q)).wt
      · exact .inl hw
      obtain ⟨e1, e2, e3⟩ := put_parts (σ := sb p q) vs
      obtain ⟨f1, f2, f3⟩ := put_parts (σ := sb p q) vt
      refine .inr ⟨by omega, e1, .inr ⟨f1, ?_⟩⟩
      rw [e2, f2, e3, f3]
      split at c
      · next e =>
        rw [if_pos e]
        refine lexP_map (fun a ha b hb h => ?_) c
        have := T.size_parts ha
        have := T.size_parts hb
        have h5 := kw_put hp hq n a b (by omega) (drawn_parts ds ha) (drawn_parts dt hb) h
        exact ⟨h5, kw_ne h5⟩
      · next e =>
        rw [if_neg e]
        exact c
/-! what the law asks, of the two together -/
theorem lawAb_paths {s t : T} (hs : s.good) (ht : t.good) : lawAb (st "paths") s t = true ↔ Gt RK s t := by
  have := hs.f.d
  have := ht.f.d
  rw [lawAb, if_pos rfl]
  exact gt_at RK (by omega)
theorem pw_ne : st "weights" ≠ st "paths" := by decide +kernel
theorem lawAb_weights {s t : T} (hs : s.good) : lawAb (st "weights") s t = true ↔ Kw s t := by
  have := hs.f.d
  rw [lawAb, if_neg pw_ne]
  exact kt_at RK WT 1 (by omega)
structure OrdOk (R : T → T → Prop) (xs : List Str) : Prop where
  irr : ∀ s, ¬ R s s
  tr : ∀ {s t u : T}, s.drawn xs → t.drawn xs → u.drawn xs → R s t → R t u → R s u
  g1 : ∀ {s t : T}, s.drawn xs → t.drawn xs → R s t → R (gg s) (gg t)
  f1 : ∀ {s t u : T}, s.drawn xs → t.drawn xs → u.drawn xs → R s t → R (ff u s) (ff u t)
  fl : ∀ {s t : T}, s.drawn xs → t.drawn xs → R (ff s t) s
  gl : ∀ {s : T}, s.drawn xs → R (gg s) s
theorem ord_paths (xs : List Str) : OrdOk (Gt RK) xs where
  irr := fun s h => gt_ne h rfl
  tr := fun _ _ _ h1 h2 => gt_trans h1 h2
  g1 := fun _ _ h => gt_gg h
  f1 := fun _ _ _ h => gt_ff h
  fl := fun _ _ => gt_ffl
  gl := fun _ => gt_ggl
theorem ord_weights (xs : List Str) : OrdOk Kw xs where
  irr := fun s h => kw_irr s h
  tr := fun d1 d2 d3 h1 h2 => kw_trans d1 d2 d3 h1 h2
  g1 := fun d1 d2 h => kw_gg d1 d2 h
  f1 := fun d1 d2 d3 h => kw_ff d1 d2 d3 h
  fl := fun d1 d2 => kw_ffl d1 d2
  gl := fun d => gg_above d
end Rh
set_option Elab.async false
set_option linter.all false
set_option maxRecDepth 100000
set_option maxHeartbeats 1000000
/-! f(lambda: e): all but the own table stays -/
namespace Gx
open PySem PySem.Spec PyProof.Rows L2 GxR LamX
/-- what the making of a lambda changes: the table at P, whose code objects stay known -/
structure LamMade (P : Addr) (q : Str) (H H1 : Hp) : Prop where
  keep : ∀ b o, b ≠ P → H b = some o → H1 b = some o
  tab : TabS H1 P q
section
variable {X : Cx} {pins : List (Addr × Obj)} {σ : L2.St} {H : Hp} {s : Shared}
theorem tabS_snoc {P c' : Addr} {q : Str} {ps : Array Value} {pos : Pos} (hP : H P = some (.tbl ps)) (tr : TriplesOk ps.toList) (known : ∀ (p : Pos) (cv : Value), codeAmong p ps.toList = some cv → ∃ c, cv = .ref c ∧ H c = some (CodeO c q)) (new : H c' = none) :
    LamMade P q H (upd (upd H P (.tbl (ps ++ #[rawInt pos.line, rawInt pos.col, .ref c']))) c' (CodeO c' q)) := by
  have keep : ∀ b o, b ≠ P → H b = some o → (upd (upd H P (.tbl (ps ++ #[rawInt pos.line, rawInt pos.col, .ref c']))) c' (CodeO c' q)) b = some o := fun b o h e => by
    rw [upd_ne (ne_of_none e new), upd_ne h]
    exact e
  have shape : (ps ++ #[rawInt pos.line, rawInt pos.col, .ref c']).toList = ps.toList ++ [rawInt pos.line, rawInt pos.col, .ref c'] := by simp
  refine ⟨keep, _, by rw [upd_ne (ne_of_none hP new), upd_same], by rw [shape]; exact PySem.TriplesOk_snoc _ _ _ _ tr, fun p cv h => ?_⟩
  rw [shape] at h
  rcases among_app _ tr h with old | this
  · obtain ⟨c, e, k⟩ := known p cv old
    have ne : c ≠ P := fun z => by
      rw [z, hP] at k
      exact codeO_ne ps (Option.some.inj k).symm
    exact ⟨c, e, keep c _ ne k⟩
  · exact ⟨c', this, upd_same⟩
theorem lamNew {c P : Addr} {params : Arguments} {body : Expr} {scope : Scope} {pos : Pos} {E : Value → Shared → Prop} {Q : Value → Shared → Prop} (I : Inv X pins σ H s) (TB : LamX.TabB X.base X.mg c P) (hcode : X.env.code = .ref c)
    (hT : TabS H P (X.env.qual ++ "<lambda>")) (hdef : defaultsOf params X.env = ([], [])) (hfree : ∀ y ∈ scope.names, y.2 = .free → ∃ c, X.env.cells.lookup y.1 = some c)
    (go : ∀ (f c' : Addr) (pm ctv : Value) (H1 : Hp) (s' : Shared), Inv X pins σ H1 s' → LamMade P (X.env.qual ++ "<lambda>") H H1 →
      s'.heap.get? f = some (PySem.W.kla_obj "<lambda>" (X.env.qual ++ "<lambda>") params body scope (cloFrom X.env.cells scope.names []) pm c' ctv) → H1 f = none → f ∉ frs X.stack → H1 c' = some (CodeO c' (X.env.qual ++ "<lambda>")) → Q (.ref f) s') :
    wpAny (model X.prog X.w) X.A (eval (.Lambda params body scope pos) X.env) Q E s := by
  obtain ⟨ps, hP, tr, known⟩ := id hT
  have there : s.heap.get? P = some { cls := .none, data := .fields ps } := I.hok P _ hP
  have outside : ∀ f, s.heap.objs.size ≤ f → f ∉ frs X.stack := fun f big hm => by
    rcases List.mem_cons.mp (I.stkSub _ hm) with e | e
    · have small := I.lt
      rw [← e] at small
      exact absurd (Nat.lt_of_lt_of_le small big) (Nat.lt_irrefl _)
    · exact I.nofs big e
  refine PySem.W.kla_eval hdef ?_
  cases found : codeAmong pos ps.toList with
  | some cv =>
    obtain ⟨c', e, k⟩ := known pos cv found
    subst e
    refine PySem.W.kla_makeFunctionHit (mg := X.mg) (c := c) (P := P) (ps := ps) (closure_ok hfree) I.ok.glob (I.mod.glob.keeps I.bk) hcode (TB.code.keeps I.bk) there tr found (TB.bm.keeps I.bk) fun ctv h' tk grow size => ?_
    exact go _ c' _ ctv H _ (I.kept fun b o e => Heap.get?_push_of_some _ (grow b o e)) ⟨fun _ _ _ e => e, hT⟩ (Heap.get?_push_size _ rfl) (I.hok.fresh size) (outside _ size) k
  | none =>
    refine PySem.W.kla_makeFunction (mg := X.mg) (c := c) (P := P) (ps := ps) (closure_ok hfree) I.ok.glob (I.mod.glob.keeps I.bk) hcode (TB.code.keeps I.bk) there tr found TB.gP (TB.bm.keeps I.bk) fun c' ctv h' tk grow old size rec written => ?_
    obtain ⟨c2, oc, vs, t, e2, at2, dat, nam⟩ := rec
    cases e2
    have new : H c' = none := I.hok.fresh old
    have size2 : s.heap.objs.size ≤ h'.objs.size := Nat.le_trans old (Nat.le_of_lt size)
    have made := tabS_snoc (pos := pos) hP tr known new
    refine go h'.objs.size c' ((X.mg "__name__").getD .none) ctv _ _ (inv_table (t' := tk) (more := #[rawInt pos.line, rawInt pos.col, .ref c']) (h' := h'.push (PySem.W.kla_obj "<lambda>" (X.env.qual ++ "<lambda>") params body scope (cloFrom X.env.cells scope.names []) ((X.mg "__name__").getD .none) c' ctv)) I hP
      (fun b o ne e => Heap.get?_push_of_some _ (grow b o ne e)) (Heap.get?_push_of_some _ written) old ⟨oc, vs, t, Heap.get?_push_of_some _ at2, dat, nam⟩) made (Heap.get?_push_size _ rfl) ?_ (outside _ size2) upd_same
    rw [upd_ne (Nat.ne_of_gt size), upd_ne (Nat.ne_of_gt (Nat.lt_of_lt_of_le (Heap.lt_size there) size2))]
    exact I.hok.fresh size2
/-- f(lambda: e), f a def that calls what it got -/
def tLam1 (P : Addr) (q : Str) (TT : (XK → Hp → VK → Prop) → Hp → VK → Prop) (t : XK → TE) : TE := fun σ H Q => TabS H P q ∧ ∀ H1, LamMade P q H H1 → TT (fun E H' Q' => t E σ H' Q') H1 Q
theorem pe_lam1 {TT : (XK → Hp → VK → Prop) → Hp → VK → Prop} {x a : Str} {g c P : Addr} {k : Nat} {pg : Arguments} {bg : List Stmt} {sg : Scope} {dV kV doc pm cdv ct oc : Value} {an od : Option Addr} {osl : Array (Option Value)} {Ng : List Str}
    {params : Arguments} {body : Expr} {scope : Scope} {t : XK → TE} {p lpos pos : Pos} (hg : Gl X x) (hm : X.mg x = some (.ref g)) (hk : PySem.W.keepIn X.K (.ref g) = true)
    (lk : X.K.lookup g = some ⟨oc, od, .func (PySem.W.fnOf x x pg bg sg dV kV doc pm an cdv ct), osl⟩) (hcg : PySem.W.codeIn X.K cdv x = true) (hb : L2.Binds X.K (PySem.W.fnOf x x pg bg sg dV kV doc pm an cdv ct) [a] []) (Sg : FnScope Ng [a] sg) (hNg : Ng[0]? = some a) (hva : Vis sg a)
    (hG : GivesTo X Ng x sg g cdv bg a (X.env.qual ++ "<lambda>") TT)
    (TB : LamX.TabB X.base X.mg c P) (hcode : X.env.code = .ref c) (hr : Room (k + 2) X.A) (L : LamS X.env.scope scope) (hdef : defaultsOf params X.env = ([], []))
    (hbind : ∀ (q : Str) (cl : List (Str × Addr)) (pm cv ctv : Value), bindArgs (PySem.W.kla_fn "<lambda>" q params body scope cl pm cv ctv) ⟨[], []⟩ = pure [])
    (hbody : ∀ (A : Around) (outer : List Env) (s : Shared) (H : Hp) (E : XK) (f c' : Addr), Room k (A.deeper (lamEnv X scope s.heap.objs.size f c')) → PE (lamCx X A outer s H E scope f c') body (t E))
    (hdb : (x == ("__debug__" : Str)) = false := by decide) (hd : (a == ("__debug__" : Str)) = false := by decide) (hcd : (a == ("__classdict__" : Str)) = false := by decide) :
    PE X (.Call (.Name x p) [.Lambda params body scope lpos] [] pos) (tLam1 P (X.env.qual ++ "<lambda>") TT t) := by
  refine ⟨fun pins s σ H Q I ⟨hT, h⟩ => ?_⟩
  refine wpAny_Call_Name_kw (ld_glob I hg hm (PySem.W.callWith_K (h₀ := X.base) I.ok.mod.kin hk ?_ (by rfl) (by rfl)) hdb)
  refine Calls.spliced_cons (lamNew I TB hcode hT hdef (L.has I.ok) fun f c' pm' ctv H1 s' I1 made hf hfn hfr hco => Calls.spliced_nil ⟨I1.kIn, ?_⟩)
  have ran : codeAny (model X.prog X.w) X.A (.call (.ref g) ⟨[.ref f], []⟩) (CR C8.CX0 X.stack X.prog X.w H1 s' Q C8.E0) s' :=
    run_ofS (N := Ng) (ps := [a]) (us := [.ref f]) (vs := [.ref f]) lk hcg Sg hr I1.env0 (hb s' [.ref f] I1.kIn rfl) (.cons rfl .nil) rfl fun hr' => by
      obtain ⟨t', ht', hq'⟩ := hG f c' s' H1 Q (fun E H' Q' => t E σ H' Q') (fun W pn xe E p1 p2 tk hW => pe_act (i := 0) I1 L hf hfn hfr (hbind _ _ _ _ _) tk hW hr' (fun A outer s H hr2 => hbody A outer s H E f c' hr2) hNg hva hd hcd) hco (h H1 made)
      exact ⟨t', ht'.nox, hq'⟩
  refine wpAny_call (codeAny_mono ran fun r s2 hq => ?_)
  match r, hq with
  | .ok (.ret u), hq => exact I1.after hq
  | .ok .next, hq => exact False.elim hq
  | .ok .brk, hq => exact False.elim hq
  | .ok .cont, hq => exact False.elim hq
  | .error e, hq => exact (show False from hq).elim
end
end Gx
set_option Elab.async false
set_option linter.all false
set_option maxRecDepth 100000
set_option maxHeartbeats 1000000
namespace Rh
open PySem PySem.Spec PyProof.Rows L2 GxR Gx Dl LamX
abbrev s_told : Stmt := topS 25
theorem sc_told : FnScope ["what"] ["what"] (defScope s_told) := ⟨rfl, rfl, rfl, by decide +kernel, rfl, by decide +kernel, by decide +kernel⟩
/-- what _law_told makes of a BadRule -/
def TTrule (C : Addr) : (XK → Hp → VK → Prop) → Hp → VK → Prop := fun tl H Q => tl (fun cls _ H' => cls = .ref C ∧ Q (.str (Str.ofString "rule")) H') H Q
theorem told_rule {X : Cx} {q : Str} {g CT CB CN CL : Addr} {cdg : Value} (mT : X.mg "BadTerm" = some (.ref CT)) (mB : X.mg "BadRule" = some (.ref CB)) (mN : X.mg "NoWay" = some (.ref CN)) (mL : X.mg "TooLarge" = some (.ref CL))
    (e1 : PySem.W.exmOne X.K (.ref CB) (.ref CT) = some false) (e2 : PySem.W.exmOne X.K (.ref CB) (.ref CB) = some true) :
    GivesTo X ["what"] "_law_told" (defScope s_told) g cdg (defBody s_told) "what" q (TTrule CB) := by
  intro f c' s H Q tl act hc h
  refine ⟨_, pss_one (ps_try_many (X := (cxOf C8.CX0 X.prog X.w X.K X.mg X.base ["what"] "_law_told" (defScope s_told) g cdg X.A X.stack s H C8.E0).nox)
      (tb := fun W D σ H => ∃ Ech : XK, (∀ cls d σ' H', Ech cls d H' → W cls d σ' H') ∧ σ[0]? = some (some (.ref f)) ∧ H c' = some (CodeO c' q) ∧ tl Ech H D.rt)
      rfl rfl LamX.takes0 (fun W pn xe tk _ => ⟨fun pins s' σ H' D I ⟨Ech, hW, h1, h2, h3⟩ => (pss_one (ps_ret (act W pn xe Ech _ _ tk hW))).run pins s' σ H' D I ⟨h1, h2, h3⟩⟩)
      (.cons ⟨rfl, by decide, .inl mT⟩ (fun a oe cls d pn _ _ => pss_one (ps_ret pe_str)) (.cons ⟨rfl, by decide, .inl mB⟩ (fun a oe cls d pn _ _ => pss_one (ps_ret pe_str))
        (.cons ⟨rfl, by decide, .inl mN⟩ (fun a oe cls d pn _ _ => pss_one (ps_ret pe_str)) (.cons ⟨rfl, by decide, .inl mL⟩ (fun a oe cls d pn _ _ => pss_one (ps_ret pe_str)) .nil))))), ?_⟩
  refine ⟨fun cls _ H' => cls = .ref CB ∧ Q (.str (Str.ofString "rule")) H', fun cls d σ' H' ⟨ec, hq⟩ => ?_, rfl, hc, h⟩
  subst ec
  exact ⟨false, e1, (fun z => Bool.noConfusion z), fun _ => ⟨true, e2, (fun _ a _ => hq), (fun z => Bool.noConfusion z)⟩⟩
end Rh
set_option Elab.async false
set_option linter.all false
set_option maxRecDepth 100000
set_option maxHeartbeats 1000000
namespace Dl
open PySem PySem.Spec PyProof.Rows L2 GxR Gx
/-- a def that may raise -/
structure ClX (P : Program) (w : World) (K : PySem.W.Frag) (mg : Str → Option Value) (base : Heap) (k : Nat) (x : Str) (sp : Sp) : Prop where
  ex : ∃ f fd ps, FnOk P w K mg base (L2.CX P w) k f fd ps sp ∧ mg x = some (.ref f) ∧ PySem.W.keepIn K (.ref f) = true ∧ Binds K fd ps []
section
variable {X : Cx} {k : Nat} {x : Str} {sp : Sp} {E : XK} {p pos : Pos} {e : Expr} {es : List Expr} {t : TA} {P : Program} {w : World} {K : PySem.W.Frag} {mg : Str → Option Value} {base : Heap} {G : List Addr}
theorem pe_clX (C : ClX X.prog X.w X.K X.mg X.base k x sp) (hr : Room k X.A) (hg : Gl X x) (hx : Passes (L2.CX X.prog X.w) X E) (ha : PA X (e :: es) t) (hdb : (x == ("__debug__" : Str)) = false := by decide)
    (he : starEach (e :: es) X.env = (false, eval e X.env) :: starEach es X.env := by rfl) (hpl : (backTo pos (starEach es X.env)).any (·.1) = false := by rfl) :
    PE X (.Call (.Name x p) (e :: es) [] pos) (tCall sp [] E t) := by
  obtain ⟨f, fd, ps, F, m, kp, b⟩ := C.ex
  exact pe_call F hr hg m kp b .nil hx ha hdb he hpl
theorem DefF.clX {st : Stmt} {f : Addr} {fd : FuncData} {N ps : List Str} {R : List Ar → Prop} {C : Addr} (D : DefF K mg base G x st ps f fd) (S : FnScope N ps (defScope st)) (len : ∀ ds, R ds → ds.length = ps.length)
    (hbody : ∀ (c Pt : Addr) (A : Around) (outer : List Env) (s : Shared) (H : Hp) (vs : List V) (ds : List Ar) (Q : VK) (E : XK), TabB base mg c Pt → Pt ∈ G → Room k (A.deeper (envOfC x (defScope st) s.heap.objs.size f (.ref c))) →
      TabsG G H → ArA K H vs ds → R ds → (∀ H', Ext G H H' → E (.ref C) Option.none H') →
      ∃ t, PSs (cxOf (L2.CX P w) P w K mg base N x (defScope st) f (.ref c) A outer s H E) (defBody st) t ∧ t { nx := fun _ H' => Q .non H', rt := Q } (start N vs) H) : ClX P w K mg base (k + 1) x (spE G K R C) := by
  obtain ⟨c, Pt, F, TB, hP⟩ := D.cP
  refine ⟨f, fd, ps, ?_, D.m, F.kp, D.b⟩
  obtain ⟨oc, od, kV, doc, pm, an, ct, osl, rfl, lk, hcd⟩ := F.ex
  refine fn_of lk hcd S (fun vs H Q E ⟨_, ds, h1, h2, _⟩ => (arA_len h1).trans (len ds h2)) fun A outer s H vs Q E hr hsp => ?_
  obtain ⟨tG, ds, h1, h2, q⟩ := hsp
  exact hbody c Pt A outer s H vs ds Q E TB hP hr tG h1 h2 q
end
theorem s_retOpE {G : List Addr} {K : PySem.W.Frag} {σ : L2.St} {H : Hp} {tA : TA} {tb : TE} {r : R2} {R : List Ar → Prop} {C : Addr} {E : XK} {as : List Ar} {D : Ends} (tG : TabsG G H) (h : EdXA G K tA σ H as) (hr : R as) (q : ∀ H', Ext G H H' → E (.ref C) none H') :
    tRet (tOp r (tCall (spE G K R C) [] E tA) tb) D σ H := h H (Ext.refl G H) _ fun vs H2 x2 rs => by
  show spE G K R C (vs ++ []) H2 _ E
  rw [List.append_nil]
  exact ⟨tG.ext x2, as, rs, hr, fun H3 x3 => q H3 (x2.trans x3)⟩
end Dl
namespace Rh
open PySem PySem.Spec PyProof.Rows L2 GxR Gx Dl
def R_rankE : List Ar → Prop := fun as => ∃ (s : Str) (m : Tb), as = [.d (.str s), .k (encT m)] ∧ getT m s = none
def R_aboveE : List Ar → Prop := fun as => as = [.d (enc (.c (Str.ofString "k"))), .d (enc (.c (Str.ofString "a"))), .k (encT RK)]
section
variable {P : Program} {w : World} {K : PySem.W.Frag} {mg : Str → Option Value} {base : Heap} {G : List Addr} {f : Addr} {fd : FuncData} {CB : Addr}
theorem clx_rank (D : DefF K mg base G "rank_of" s_rank_of ["sign", "ranks"] f fd) (gP : mg "BadRule" = some (.ref CB)) (kP : PySem.W.keepIn K (.ref CB) = true)
    (mk : ∀ {X : Cx} {m : Str} {j : Nat} {p p2 pos : Pos}, X.K = K → X.mg = mg → Gl X "BadRule" → PMk X (.Call (.Name "BadRule" p) [.Constant (.str m) j p2] [] pos) (fun _ H Q => Q (.ref CB) none H)) :
    ClX P w K mg base 1 "rank_of" (spE G K R_rankE CB) := by
  refine D.clX (k := 0) sc_rank_of (fun ds r => by obtain ⟨_, _, rfl, _⟩ := r; rfl) fun c Pt A outer s H vs ds Q E TB hP hr tG hv r q => ?_
  refine ⟨_, pss_cons (ps_if (pt_cmp (pc_dnotin (hu_of hr) (pv 0) (pv 1))) (pss_one (ps_raise rfl (takes_of rfl rfl rfl rfl) (mk rfl rfl rfl))) pss_nil) (PSs.nox (pss_one (ps_ret (pe_dget (hu_of hr) (pv 1) (pv 0) (fun _ _ => rfl))))), ?_⟩
  obtain ⟨x, m, rfl, hk⟩ := r
  obtain ⟨v, z, rfl, rv, rz⟩ := arA_two hv
  have e : valD (encT m) (.inr x) = none := by rw [valD_encT, hk]; rfl
  refine s_ifR (b := true) (edt_is (edt_val (ed_dnin tG (ed_var tG rfl (show Dp K H v (.str x) from rv)) (edx_var tG rfl rz))) (by rw [e]; rfl)) (fun _ H2 y => ?_) (fun h => by cases h)
  exact q H2 y
theorem clx_above (D : DefF K mg base G "is_above" s_is_above ["one", "other", "ranks"] f fd) (iv : IV P w K mg base G) (ia : Cl0 P w K mg base 78 "is_above" (spA G K (R_above 24))) (rk : Cl0 P w K mg base 1 "rank_of" (spA G K R_rank))
    (rx : ClX P w K mg base 1 "rank_of" (spE G K R_rankE CB)) (m1 : mg "any" = none) (m2 : mg "all" = none) : ClX P w K mg base 80 "is_above" (spE G K R_aboveE CB) := by
  refine D.clX (k := 79) sc_is_above (fun ds r => by rw [r]; rfl) fun c Pt A outer s H vs ds Q E TB hP hr tG hv r q => ?_
  refine ⟨_, pss_cons (ps_if (PT.nox (pt_val (pe_cl iv (hr.mono (by omega)) rfl (pa_cons (pv 0) pa_nil)))) (pss_one ps_never) pss_nil)
      (pss_cons (ps_if (PT.nox (pt_val (pe_cl iv (hr.mono (by omega)) rfl (pa_cons (pv 1) pa_nil)))) (pss_one ps_never) pss_nil)
      (pss_cons (ps_if (PT.nox (pt_val (pe_anyG (own := [("part", 5)]) hr sc_is_above.nd TB rfl (blkOk_by (N := ["one", "other", "ranks", "a", "b", "part"]) (sc := defScope s_is_above) (by decide +kernel)) m1 (pi_tup (pe_ix ix_tup (pv 0) pe_int (fun _ _ => rfl)))
          (fun s H C code fp A _ => pg_name (i := 5) sc_is_above.nd rfl (Or.inl rfl)) (fun s H C code fp A _ => pts_nil) (te := tOrV (tOp (rEqD K) (tVar 5) (tVar 1)) (tCall (spA G K (R_above 24)) [] (fun _ _ _ => False) (tCons (tVar 5) (tCons (tVar 1) (tCons (tVar 2) tNil)))))
          (fun s H C code fp A r => pe_or (pe_cmpR (op_eqD r.units) (pv 5) (pv 1) (nomark _)) (pe_one (pe_cl ia r rfl (pa_cons (pv 5) (pa_cons (pv 1) (pa_cons (pv 2) pa_nil))))))))) (pss_one ps_never) pss_nil)
      (pss_cons (ps_if (PT.nox (pt_not (pt_val (pe_allG (own := [("part", 5)]) hr sc_is_above.nd TB rfl (blkOk_by (N := ["one", "other", "ranks", "a", "b", "part"]) (sc := defScope s_is_above) (by decide +kernel)) m2 (pi_tup (pe_ix ix_tup (pv 1) pe_int (fun _ _ => rfl)))
          (fun s H C code fp A _ => pg_name (i := 5) sc_is_above.nd rfl (Or.inl rfl)) (fun s H C code fp A _ => pts_nil) (fun s H C code fp A r => pe_cl ia r rfl (pa_cons (pv 0) (pa_cons (pv 5) (pa_cons (pv 2) pa_nil)))))))) (pss_one ps_never) pss_nil)
      (pss_cons (ps_if (pt_cmpR op_ne (pe_ix ix_tup (pv 0) pe_int (fun _ _ => rfl)) (pe_ix ix_tup (pv 1) pe_int (fun _ _ => rfl)) (nomark _))
          (pss_one (ps_ret (pe_cmpR op_gt (pe_clX rx (hr.mono (by omega)) rfl (passes_call (takes_of rfl rfl rfl rfl) (fun _ _ _ _ h => h)) (pa_cons (pe_ix ix_tup (pv 0) pe_int (fun _ _ => rfl)) (pa_cons (pv 2) pa_nil)))
            (pe_cl rk (hr.mono (by omega)) rfl (pa_cons (pe_ix ix_tup (pv 1) pe_int (fun _ _ => rfl)) (pa_cons (pv 2) pa_nil))) (nomark _)))) pss_nil)
      (pss_cons ps_never (pss_one ps_never)))))), ?_⟩
  have r' : ds = [.d (enc (.c (Str.ofString "k"))), .d (enc (.c (Str.ofString "a"))), .k (encT RK)] := r
  subst r'
  obtain ⟨v, u, z, rfl, rv, ru, rz⟩ := arA_three hv
  have ok : (T.c (Str.ofString "k")).ok := (show PyData.strOk (Str.ofString "k") = true by decide +kernel)
  have oa : (T.c (Str.ofString "a")).ok := (show PyData.strOk (Str.ofString "a") = true by decide +kernel)
  have v0 : ∀ {H'} {a b c}, Ext G H H' → Ed G K (tVar 0) [some v, some u, some z, a, b, c] H' (enc (.c (Str.ofString "k"))) := fun y => ed_var (tG.ext y) rfl (dp_ext y tG rv)
  have v1 : ∀ {H'} {a b c}, Ext G H H' → Ed G K (tVar 1) [some v, some u, some z, a, b, c] H' (enc (.c (Str.ofString "a"))) := fun y => ed_var (tG.ext y) rfl (dp_ext y tG ru)
  have v2 : ∀ {H'} {a b c}, Ext G H H' → EdX G K (tVar 2) [some v, some u, some z, a, b, c] H' (.k (encT RK)) := fun y => edx_var (tG.ext y) rfl (ar_ext y tG rz)
  refine s_ifR (b := false) (edt_val (ed_iv tG ok (v0 (Ext.refl G H)))) (fun h => by cases h) fun _ H2 y2 => ?_
  have t2 := tG.ext y2
  refine s_ifR (b := false) (edt_val (ed_iv t2 oa (v1 y2))) (fun h => by cases h) fun _ H3 y3 => ?_
  have x3 := y2.trans y3
  have t3 := tG.ext x3
  refine s_ifR (b := false) (edt_val (ed_anyP (ts := []) (p := fun _ => true) hP t3 (ed_parts t3 rfl (v0 x3)) (by decide) fun p u H1 hp => by cases hp)) (fun h => by cases h) fun _ H4 y4 => ?_
  have x4 := x3.trans y4
  have t4 := tG.ext x4
  refine s_ifR (b := false) (edt_not (edt_val (ed_allP (ts := []) (p := fun _ => true) hP t4 (ed_parts t4 rfl (v1 x4)) (by decide) fun p u H1 hp => by cases hp))) (fun h => by cases h) fun _ H5 y5 => ?_
  have x5 := x4.trans y5
  have t5 := tG.ext x5
  refine s_ifR (b := true) (edt_is (edt_test (ed_op t5 (ed_sgn t5 rfl (v0 x5)) (ed_sgn t5 rfl (v1 x5)) rd_neS)) (by decide +kernel)) (fun _ H6 y6 => ?_) (fun h => by cases h)
  have x6 := x5.trans y6
  have t6 := tG.ext x6
  exact s_retOpE t6 (ea_cons t6 (edx_of (ed_sgn t6 rfl (v0 x6))) (ea_one (v2 x6))) ⟨Str.ofString "k", RK, rfl, by decide +kernel⟩ fun H8 y8 => q H8 (x6.trans y8)
end
end Rh
set_option Elab.async false
set_option linter.all false
set_option maxRecDepth 100000
set_option maxHeartbeats 1000000
namespace Rh
open PySem PySem.Spec PyProof.Rows L2 GxR Gx Dl
abbrev s_law : Stmt := topS 28
abbrev NL : List Str := ["script", "ranks", "weights", "table", "dice", "a", "b", "c", "things", "how", "d", "e", "k", "place", "sign", "many"]
theorem sc_law : FnScope NL ["script"] (defScope s_law) := ⟨rfl, rfl, rfl, by decide +kernel, rfl, by decide +kernel, by decide +kernel⟩
section
variable {P : Program} {w : World} {K : PySem.W.Frag} {mg : Str → Option Value} {base : Heap} {G : List Addr} {f : Addr} {fd : FuncData} {CB : Addr}
def stL (i : Nat) : Stmt := (defBody s_law).getD i (.Pass ⟨0, 0, 0, 0⟩)
def forB (i : Nat) : Stmt := match stL 1 with
  | .For _ _ body _ _ => body.getD i (.Pass ⟨0, 0, 0, 0⟩)
  | _ => .Pass ⟨0, 0, 0, 0⟩
abbrev XL (P : Program) (w : World) (K : PySem.W.Frag) (mg : Str → Option Value) (base : Heap) (f : Addr) (c : Addr) (A : Around) (outer : List Env) (s : Shared) (H : Hp) (E : XK) : Cx := (cxOf CX0 P w K mg base NL "law" (defScope s_law) f (.ref c) A outer s H E).nox
abbrev dTB : TE := tLst (tCons (tTup (tCons (tC (.str (Str.ofString "a"))) (tCons (tC (.int 0)) tNil))) (tCons (tTup (tCons (tC (.str (Str.ofString "b"))) (tCons (tC (.int 0)) tNil))) (tCons (tTup (tCons (tC (.str (Str.ofString "f"))) (tCons (tC (.int 2)) tNil))) (tCons (tTup (tCons (tC (.str (Str.ofString "g"))) (tCons (tC (.int 1)) tNil))) tNil))))
theorem law0 {c : Addr} {A : Around} {outer : List Env} {s : Shared} {H : Hp} {E : XK} {k : Nat} (hr : Room k (XL P w K mg base f c A outer s H E).A) : PS (XL P w K mg base f c A outer s H E) (stL 0) (tAsg (tTup (tCons dRK (tCons dWT (tCons dTB tNil)))) (gTup K 3 (gCons (gName 1) (gCons (gName 2) (gCons (gName 3) gNil))))) := by
  refine ps_asg (pe_tup (pa_cons (pe_disp (pps_cons pe_str pe_int (pps_cons pe_str pe_int (pps_cons pe_str pe_int (pps_cons pe_str pe_int pps_nil)))) (by rfl) (by rfl) (fun z => by cases z) (by decide))
      (pa_cons (pe_disp (pps_cons pe_str pe_int (pps_cons pe_str pe_int (pps_cons pe_str pe_int (pps_cons pe_str pe_int pps_nil)))) (by rfl) (by rfl) (fun z => by cases z) (by decide))
      (pa_cons (pe_lst (pa_cons (pe_tup (pa_cons pe_str (pa_cons pe_int pa_nil))) (pa_cons (pe_tup (pa_cons pe_str (pa_cons pe_int pa_nil))) (pa_cons (pe_tup (pa_cons pe_str (pa_cons pe_int pa_nil))) (pa_cons (pe_tup (pa_cons pe_str (pa_cons pe_int pa_nil))) pa_nil))))) pa_nil))))
    (pg_tup rfl (pgs_cons (pg_name (i := 1) sc_law.nd rfl (Or.inr rfl)) (pgs_cons (pg_name (i := 2) sc_law.nd rfl (Or.inl rfl)) (pgs_cons (pg_name (i := 3) sc_law.nd rfl (Or.inl rfl)) pgs_nil))))
end
end Rh
set_option Elab.async false
set_option linter.all false
set_option maxRecDepth 100000
set_option maxHeartbeats 1000000
namespace Rh
open PySem PySem.Spec PyProof.Rows L2 GxR Gx Dl
/-- what law calls -/
structure LF (P : Program) (w : World) (K : PySem.W.Frag) (mg : Str → Option Value) (base : Heap) (G : List Addr) : Prop where
  ro : Cl0 P w K mg base 2 "_law_rounds" (spRounds G K)
  te : Cl0 P w K mg base 10 "_law_term" (spTerm G K 9)
  la : Cl0 P w K mg base 79 "_law_above" (spA G K R_lawabove)
  pu : Cl0 P w K mg base 26 "put" (spA G K (R_put 12))
  pl : Cl0 P w K mg base 26 "places" (spA G K (R_places 12))
  ia : Cl0 P w K mg base 78 "is_above" (spA G K (R_above 24))
  at_ : Cl0 P w K mg base 3 "at" (spA G K R_at)
  ih : Cl0 P w K mg base 78 "is_heavier" (spA G K (R_heavier 24))
  we : Cl0 P w K mg base 26 "weight" (spA G K (R_weight 12))
  si : Cl0 P w K mg base 26 "size" (spA G K (R_size 12))
  tw : Cl0 P w K mg base 3 "is_tower" (spA G K R_tower)
  fi : Cl0 P w K mg base 3 "are_fit" (spA G K R_fit)
  range : mg "range" = none
  dict : mg "dict" = none
section
variable {P : Program} {w : World} {K : PySem.W.Frag} {mg : Str → Option Value} {base : Heap} {G : List Addr} {f : Addr} {fd : FuncData} {CB : Addr}
section
variable {c : Addr} {A : Around} {outer : List Env} {s : Shared} {H : Hp} {E : XK} (F : LF P w K mg base G) (hr : Room 90 (XL P w K mg base f c A outer s H E).A)
include F hr
theorem lawB0 : ∃ t, PS (XL P w K mg base f c A outer s H E) (forB 0) t ∧ t = tAsg (tLc (iRng1 (tCons (tC (.int 3)) tNil)) (gName 12) tYes (tCall (spTerm G K 9) [] (fun _ _ _ => False) (tCons (tVar 4) (tCons (tC (.int 3)) (tCons (tLst (tCons (tC (.str (Str.ofString "x"))) (tCons (tC (.str (Str.ofString "y"))) tNil))) tNil)))) [12]) (gLst K 3 (gCons (gName 5) (gCons (gName 6) (gCons (gName 7) gNil)))) := by
  refine ⟨_, ps_asg (pe_lc (own := [("k", 12)]) (g := gName 12) (tt := tYes) rfl sc_law.nd (pi_range1 rfl F.range (pa_cons pe_int pa_nil)) (blkOk_by (N := NL) (sc := defScope s_law) (by decide +kernel))
      (fun _ _ _ _ _ => pg_name (i := 12) sc_law.nd rfl (Or.inl rfl)) (fun _ _ _ _ _ => pts_nil) (fun _ _ _ _ _ => pe_cl F.te (hr.mono (by omega)) rfl (pa_cons (pv 4) (pa_cons pe_int (pa_cons (pe_lst (pa_cons pe_str (pa_cons pe_str pa_nil))) pa_nil)))))
    (pg_lst rfl (pgs_cons (pg_name (i := 5) sc_law.nd rfl (by first | exact Or.inl rfl | exact Or.inr rfl)) (pgs_cons (pg_name (i := 6) sc_law.nd rfl (by first | exact Or.inl rfl | exact Or.inr rfl)) (pgs_cons (pg_name (i := 7) sc_law.nd rfl (by first | exact Or.inl rfl | exact Or.inr rfl)) pgs_nil)))), ?_⟩
  rfl
theorem lawB1 : ∃ t, PS (XL P w K mg base f c A outer s H E) (forB 1) t := ⟨_, ps_set (i := 8) sc_law.nd rfl (Or.inl rfl) (pe_disp (pps_cons pe_str (pe_cl F.te (hr.mono (by omega)) rfl (pa_cons (pv 4) (pa_cons pe_int (pa_cons (pe_lst (pa_cons pe_str pa_nil)) pa_nil)))) (pps_cons pe_str (pe_cl F.te (hr.mono (by omega)) rfl (pa_cons (pv 4) (pa_cons pe_int (pa_cons (pe_lst pa_nil) pa_nil)))) pps_nil)) (by rfl) (by rfl) (fun z => by cases z) (by decide))⟩
theorem lawB2 : ∃ t, PS (XL P w K mg base f c A outer s H E) (forB 2) t := ⟨_, ps_for PassesOwn.never rfl (pi_list (pe_lst (pa_cons pe_str (pa_cons pe_str pa_nil)))) (pg_name (i := 9) sc_law.nd rfl (Or.inl rfl)) (pss_cons (ps_if (PW.pt (pw_or (pt_val (pe_cl F.la (hr.mono (by omega)) rfl (pa_cons (pv 9) (pa_cons (pv 5) (pa_cons (pv 5) pa_nil))))) (pw_or1 (PW.pt (pw_and (pt_val (pe_cl F.la (hr.mono (by omega)) rfl (pa_cons (pv 9) (pa_cons (pv 5) (pa_cons (pv 6) pa_nil))))) (pw_and1 (pt_val (pe_cl F.la (hr.mono (by omega)) rfl (pa_cons (pv 9) (pa_cons (pv 6) (pa_cons (pv 5) pa_nil))))))))))) (pss_one (ps_ret pe_bl)) pss_nil) (pss_cons (ps_if (PW.pt (pw_and (pt_val (pe_cl F.la (hr.mono (by omega)) rfl (pa_cons (pv 9) (pa_cons (pv 5) (pa_cons (pv 6) pa_nil))))) (pw_and (pt_val (pe_cl F.la (hr.mono (by omega)) rfl (pa_cons (pv 9) (pa_cons (pv 6) (pa_cons (pv 7) pa_nil))))) (pw_and1 (pt_not (pt_val (pe_cl F.la (hr.mono (by omega)) rfl (pa_cons (pv 9) (pa_cons (pv 5) (pa_cons (pv 7) pa_nil)))))))))) (pss_one (ps_ret pe_bl)) pss_nil) (pss_cons (ps_if (pt_val (pe_cl F.la (hr.mono (by omega)) rfl (pa_cons (pv 9) (pa_cons (pv 5) (pa_cons (pv 6) pa_nil))))) (pss_cons (ps_if (pt_not (pt_val (pe_cl F.la (hr.mono (by omega)) rfl (pa_cons (pv 9) (pa_cons (pe_cl F.pu (hr.mono (by omega)) rfl (pa_cons (pv 5) (pa_cons (pv 8) pa_nil))) (pa_cons (pe_cl F.pu (hr.mono (by omega)) rfl (pa_cons (pv 6) (pa_cons (pv 8) pa_nil))) pa_nil)))))) (pss_one (ps_ret pe_bl)) pss_nil) (pss_cons (ps_if (pt_not (pt_val (pe_cl F.la (hr.mono (by omega)) rfl (pa_cons (pv 9) (pa_cons (pe_tup (pa_cons pe_str (pa_cons (pe_tup (pa_cons (pv 5) pa_nil)) pa_nil))) (pa_cons (pe_tup (pa_cons pe_str (pa_cons (pe_tup (pa_cons (pv 6) pa_nil)) pa_nil))) pa_nil)))))) (pss_one (ps_ret pe_bl)) pss_nil) (pss_one (ps_if (pt_not (pt_val (pe_cl F.la (hr.mono (by omega)) rfl (pa_cons (pv 9) (pa_cons (pe_tup (pa_cons pe_str (pa_cons (pe_tup (pa_cons (pv 7) (pa_cons (pv 5) pa_nil))) pa_nil))) (pa_cons (pe_tup (pa_cons pe_str (pa_cons (pe_tup (pa_cons (pv 7) (pa_cons (pv 6) pa_nil))) pa_nil))) pa_nil)))))) (pss_one (ps_ret pe_bl)) pss_nil)))) pss_nil) (pss_one (ps_if (PW.pt (pw_or (pt_not (pt_val (pe_cl F.la (hr.mono (by omega)) rfl (pa_cons (pv 9) (pa_cons (pe_tup (pa_cons pe_str (pa_cons (pe_tup (pa_cons (pv 5) (pa_cons (pv 6) pa_nil))) pa_nil))) (pa_cons (pv 5) pa_nil)))))) (pw_or1 (pt_not (pt_val (pe_cl F.la (hr.mono (by omega)) rfl (pa_cons (pv 9) (pa_cons (pe_tup (pa_cons pe_str (pa_cons (pe_tup (pa_cons (pv 5) pa_nil)) pa_nil))) (pa_cons (pv 5) pa_nil))))))))) (pss_one (ps_ret pe_bl)) pss_nil)))))⟩
theorem lawB3 : ∃ t, PS (XL P w K mg base f c A outer s H E) (forB 3) t := ⟨_, ps_if (pt_cmpR (op_neD hr.units) (pe_lc (own := [("place", 13)]) (g := gName 13) rfl sc_law.nd (pi_tup (pe_slice sl_tup (pe_cl F.pl (hr.mono (by omega)) rfl (pa_cons (pv 5) pa_nil)) (po_some pe_int) po_none)) (blkOk_by (N := NL) (sc := defScope s_law) (by decide +kernel)) (fun _ _ _ _ _ => pg_name (i := 13) sc_law.nd rfl (Or.inl rfl)) (tt := tNot (tB (tCall (spA G K (R_above 24)) [] (fun _ _ _ => False) (tCons (tVar 5) (tCons (tCall (spA G K R_at) [] (fun _ _ _ => False) (tCons (tVar 5) (tCons (tVar 13) tNil))) (tCons (tVar 1) tNil)))))) (fun _ _ _ _ _ => pts_one (pt_not (pt_val (pe_cl F.ia (hr.mono (by omega)) rfl (pa_cons (pv 5) (pa_cons (pe_cl F.at_ (hr.mono (by omega)) rfl (pa_cons (pv 5) (pa_cons (pv 13) pa_nil))) (pa_cons (pv 1) pa_nil))))))) (fun _ _ _ _ _ => pv 13)) (pe_lst pa_nil) (nomark _)) (pss_one (ps_ret pe_bl)) pss_nil⟩
theorem lawB4 : ∃ t, PS (XL P w K mg base f c A outer s H E) (forB 4) t := ⟨_, ps_par (i := 10) (j := 11) (by rfl) sc_law.nd rfl rfl (by decide) rfl rfl (pa_cons (pe_cl F.te (hr.mono (by omega)) rfl (pa_cons (pv 4) (pa_cons pe_int (pa_cons (pe_lst pa_nil) pa_nil)))) (pa_cons (pe_cl F.te (hr.mono (by omega)) rfl (pa_cons (pv 4) (pa_cons pe_int (pa_cons (pe_lst pa_nil) pa_nil)))) pa_nil)) (by rfl)⟩
theorem lawB5 : ∃ t, PS (XL P w K mg base f c A outer s H E) (forB 5) t := ⟨_, (ps_if (PW.pt (pw_and (pt_cmpR (op_neD hr.units) (pv 10) (pv 11) (nomark _)) (pw_and1 (pt_cmpR op_eq (pe_cl F.ia (hr.mono (by omega)) rfl (pa_cons (pv 10) (pa_cons (pv 11) (pa_cons (pv 1) pa_nil)))) (pe_cl F.ia (hr.mono (by omega)) rfl (pa_cons (pv 11) (pa_cons (pv 10) (pa_cons (pv 1) pa_nil)))) (nomark _))))) (pss_one (ps_ret pe_bl)) pss_nil)⟩
theorem lawB6 : ∃ t, PS (XL P w K mg base f c A outer s H E) (forB 6) t := ⟨_, (ps_if (PW.pt (pw_and (pt_cmpR (op_neD hr.units) (pv 10) (pv 11) (nomark _)) (pw_and1 (pt_cmpR op_eq (pe_cl F.ih (hr.mono (by omega)) rfl (pa_cons (pv 10) (pa_cons (pv 11) (pa_cons (pv 2) (pa_cons pe_int (pa_cons (pv 1) pa_nil)))))) (pe_cl F.ih (hr.mono (by omega)) rfl (pa_cons (pv 11) (pa_cons (pv 10) (pa_cons (pv 2) (pa_cons pe_int (pa_cons (pv 1) pa_nil)))))) (nomark _))))) (pss_one (ps_ret pe_bl)) pss_nil)⟩
theorem lawB7 : ∃ t, PS (XL P w K mg base f c A outer s H E) (forB 7) t := ⟨_, (ps_if (pt_cmpR op_ne (pe_cl F.we (hr.mono (by omega)) rfl (pa_cons (pv 10) (pa_cons (pe_callTy (call_dictP rfl) (by rfl) F.dict (by decide +kernel) (pa_cons (pe_lc (own := [("sign", 14), ("many", 15)]) (g := gTup K 2 (gCons (gName 14) (gCons (gName 15) gNil))) (tt := tYes) rfl sc_law.nd (pi_list (pv 3)) (blkOk_by (N := NL) (sc := defScope s_law) (by decide +kernel)) (fun _ _ _ _ _ => pg_tup rfl (pgs_cons (pg_name (i := 14) sc_law.nd rfl (Or.inl rfl)) (pgs_cons (pg_name (i := 15) sc_law.nd rfl (Or.inl rfl)) pgs_nil))) (fun _ _ _ _ _ => pts_nil) (fun _ _ _ _ _ => pe_tup (pa_cons (pv 14) (pa_cons pe_int pa_nil)))) pa_nil)) (pa_cons pe_int pa_nil)))) (pe_cl F.si (hr.mono (by omega)) rfl (pa_cons (pv 10) pa_nil)) (nomark _)) (pss_one (ps_ret pe_bl)) pss_nil)⟩
theorem lawB8 : ∃ t, PS (XL P w K mg base f c A outer s H E) (forB 8) t := ⟨_, (ps_if (PW.pt (pw_or (pt_not (pt_val (pe_cl F.tw (hr.mono (by omega)) rfl (pa_cons (pe_tup (pa_cons pe_str (pa_cons (pe_tup (pa_cons (pe_tup (pa_cons pe_str (pa_cons (pe_tup (pa_cons pe_str pa_nil)) pa_nil))) pa_nil)) pa_nil))) (pa_cons pe_str pa_nil))))) (pw_or1 (pt_val (pe_cl F.tw (hr.mono (by omega)) rfl (pa_cons (pe_tup (pa_cons pe_str (pa_cons (pe_tup (pa_cons pe_str (pa_cons pe_str pa_nil))) pa_nil))) (pa_cons pe_str pa_nil))))))) (pss_one (ps_ret pe_bl)) pss_nil)⟩
theorem lawB9 : ∃ t, PS (XL P w K mg base f c A outer s H E) (forB 9) t := ⟨_, (ps_if (PW.pt (pw_or (pt_not (pt_val (pe_cl F.fi (hr.mono (by omega)) rfl (pa_cons (pv 3) (pa_cons (pv 2) (pa_cons pe_int (pa_cons (pv 1) pa_nil))))))) (pw_or1 (pt_val (pe_cl F.fi (hr.mono (by omega)) rfl (pa_cons (pv 3) (pa_cons (pv 2) (pa_cons pe_int (pa_cons (pv 1) pa_nil))))))))) (pss_one (ps_ret pe_bl)) pss_nil)⟩
theorem lawB10 : ∃ t, PS (XL P w K mg base f c A outer s H E) (forB 10) t := ⟨_, (ps_if (pt_val (pe_cl F.fi (hr.mono (by omega)) rfl (pa_cons (pv 3) (pa_cons (pe_disp (pps_cons pe_str pe_int (pps_cons pe_str pe_int (pps_cons pe_str pe_int (pps_cons pe_str pe_int pps_nil)))) (by rfl) (by rfl) (fun z => by cases z) (by decide)) (pa_cons pe_int (pa_cons (pv 1) pa_nil)))))) (pss_one (ps_ret pe_bl)) pss_nil)⟩
theorem lawB11 : ∃ t, PS (XL P w K mg base f c A outer s H E) (forB 11) t := ⟨_, (ps_if (pt_val (pe_cl F.fi (hr.mono (by omega)) rfl (pa_cons (pv 3) (pa_cons (pv 2) (pa_cons pe_int (pa_cons (pe_disp (pps_cons pe_str pe_int (pps_cons pe_str pe_int (pps_cons pe_str pe_int (pps_cons pe_str pe_int pps_nil)))) (by rfl) (by rfl) (fun z => by cases z) (by decide)) pa_nil)))))) (pss_one (ps_ret pe_bl)) pss_nil)⟩
end
end
end Rh
set_option Elab.async false
set_option linter.all false
set_option maxRecDepth 100000
set_option maxHeartbeats 1000000
namespace Rh
open PySem PySem.Spec PyProof.Rows L2 GxR Gx Dl
section
variable {P : Program} {w : World} {K : PySem.W.Frag} {mg : Str → Option Value} {base : Heap} {G : List Addr} {f g : Addr} {fd gd : FuncData} {CT CB CN CL Pl : Addr}
section
variable {c : Addr} {A : Around} {outer : List Env} {s : Shared} {H : Hp} {E : XK} (hr : Room 90 (XL P w K mg base f c A outer s H E).A)
include hr
theorem lawB12 (TB : LamX.TabB base mg c Pl) (D : DefF K mg base G "_law_told" s_told ["what"] g gd) (cx : ClX P w K mg base 80 "is_above" (spE G K R_aboveE CB)) (mT : mg "BadTerm" = some (.ref CT)) (mB : mg "BadRule" = some (.ref CB)) (mN : mg "NoWay" = some (.ref CN)) (mL : mg "TooLarge" = some (.ref CL))
    (e1 : PySem.W.exmOne K (.ref CB) (.ref CT) = some false) (e2 : PySem.W.exmOne K (.ref CB) (.ref CB) = some true) : ∃ t, PS (XL P w K mg base f c A outer s H E) (forB 12) t ∧
    t = tIfS (tTest (tOp rNe (tLam1 Pl ((XL P w K mg base f c A outer s H E).env.qual ++ "<lambda>") (TTrule CB) fun E => tCall (spE G K R_aboveE CB) [] E (tCons (tTup (tCons (tC (.str (Str.ofString "k"))) (tCons (tTup tNil) tNil))) (tCons (tTup (tCons (tC (.str (Str.ofString "a"))) (tCons (tTup tNil) tNil))) (tCons (tVar 1) tNil)))) (tC (.str (Str.ofString "rule"))))) (tRet (tC (.bl false))) tNext := by
  obtain ⟨c0, Pt, F, _, _⟩ := D.cP
  obtain ⟨oc, od, kV, doc, pm, an, ct, osl, rfl, lk, hcd⟩ := F.ex
  refine ⟨_, ps_if (pt_cmpR op_ne (pe_lam1 (t := fun E => tCall (spE G K R_aboveE CB) [] E (tCons (tTup (tCons (tC (.str (Str.ofString "k"))) (tCons (tTup tNil) tNil))) (tCons (tTup (tCons (tC (.str (Str.ofString "a"))) (tCons (tTup tNil) tNil))) (tCons (tVar 1) tNil)))) (k := 80) (Ng := ["what"]) (a := "what") rfl D.m F.kp lk hcd D.b sc_told rfl (.inl rfl)
      (told_rule (X := XL P w K mg base f c A outer s H E) mT mB mN mL e1 e2) TB rfl (hr.mono (by omega)) (LamX.lamS_by (sc := defScope s_law) (by decide +kernel)) rfl (fun _ _ _ _ _ => rfl)
      (fun A outer s H E f c' r => pe_clX cx r rfl (passes_call (takes_of rfl rfl rfl rfl) (fun _ _ _ _ h => h)) (pa_cons (pe_tup (pa_cons pe_str (pa_cons (pe_tup pa_nil) pa_nil))) (pa_cons (pe_tup (pa_cons pe_str (pa_cons (pe_tup pa_nil) pa_nil))) (pa_cons (pv 1) pa_nil))))) pe_str (nomark _)) (pss_one (ps_ret pe_bl)) pss_nil, ?_⟩
  rfl
end
end
end Rh
set_option Elab.async false
set_option linter.all false
set_option maxRecDepth 100000
set_option maxHeartbeats 1000000
namespace Rh
open PySem PySem.Spec PyProof.Rows L2 GxR Gx Dl
def TB4 : Tb := [(st "a", 0), (st "b", 0), (st "f", 2), (st "g", 1)]
theorem fit1 : fitF TB4 WT RK 1 = true := by decide +kernel
theorem fit0 : fitF TB4 WT RK 0 = false := by decide +kernel
def W2 : Tb := [(st "a", 0), (st "b", 1), (st "f", 1), (st "g", 1)]
def R2' : Tb := [(st "a", 0), (st "b", 1), (st "g", 1), (st "f", 2)]
theorem fit2 : fitF TB4 W2 RK 1 = false := by decide +kernel
theorem fit3 : fitF TB4 WT R2' 1 = false := by decide +kernel
theorem mg_W2 : mergeK [] (mkD W2) = mkD W2 := by decide +kernel
theorem mg_R2 : mergeK [] (mkD R2') = mkD R2' := by decide +kernel
theorem in_tb (w m : Tb) (h : (TB4.all fun p => (getT w p.1).isSome && (getT m p.1).isSome) = true) : ∀ p ∈ TB4, (getT w p.1).isSome = true ∧ (getT m p.1).isSome = true := fun p hp => by
  have := List.all_eq_true.mp h p hp
  rwa [Bool.and_eq_true] at this
section
variable {P : Program} {w : World} {K : PySem.W.Frag} {mg : Str → Option Value} {base : Heap} {G : List Addr} {f : Addr} {fd : FuncData} {CB : Addr}
abbrev dW2 : TE := tDisp [(tC (.str (Str.ofString "a")), tC (.int 0)), (tC (.str (Str.ofString "b")), tC (.int 1)), (tC (.str (Str.ofString "f")), tC (.int 1)), (tC (.str (Str.ofString "g")), tC (.int 1))]
abbrev dR2 : TE := tDisp [(tC (.str (Str.ofString "a")), tC (.int 0)), (tC (.str (Str.ofString "b")), tC (.int 1)), (tC (.str (Str.ofString "g")), tC (.int 1)), (tC (.str (Str.ofString "f")), tC (.int 2))]
theorem edx_W2 {σ : L2.St} {H : Hp} : EdX G K dW2 σ H (.k (encT W2)) := edx_disp (m := W2) mg_W2 (by decide)
theorem edx_R2 {σ : L2.St} {H : Hp} : EdX G K dR2 σ H (.k (encT R2')) := edx_disp (m := R2') mg_R2 (by decide)
theorem rd_eqB {x y : Bool} {H : Hp} : Rd2 G K rEq (.bool x) (.bool y) (.bool (decide (x = y))) H := fun H1 _ v u rv ru Q q => by
  rw [dp_bl rv, dp_bl ru]
  refine ⟨rfl, q _ H1 (Ext.refl G H1) ?_⟩
  have e : decide ((V.bl x) = V.bl y) = decide (x = y) := by
    by_cases h : x = y
    · subst h; simp
    · rw [decide_eq_false h, decide_eq_false (fun z => h (by injection z))]
  rw [e]
  exact .bl _
/-- ranks, weights and table stand in their slots -/
structure Std (K : PySem.W.Frag) (G : List Addr) (σ : L2.St) (H : Hp) : Prop where
  tG : TabsG G H
  r : ∃ v, σ[1]? = some (some v) ∧ ArR K H v (.k (encT RK))
  w : ∃ v, σ[2]? = some (some v) ∧ ArR K H v (.k (encT WT))
  t : ∃ v, σ[3]? = some (some v) ∧ Dp K H v (encR TB4)
theorem Std.ext {σ : L2.St} {H H' : Hp} (z : Std K G σ H) (x : Ext G H H') : Std K G σ H' := by
  obtain ⟨tG, ⟨a, a1, a2⟩, ⟨b, b1, b2⟩, ⟨c, c1, c2⟩⟩ := z
  exact ⟨tG.ext x, ⟨a, a1, ar_ext x tG a2⟩, ⟨b, b1, ar_ext x tG b2⟩, ⟨c, c1, dp_ext x tG c2⟩⟩
theorem Std.er {σ : L2.St} {H : Hp} (z : Std K G σ H) : EdX G K (tVar 1) σ H (.k (encT RK)) := by
  obtain ⟨v, h1, h2⟩ := z.r
  exact edx_var z.tG h1 h2
theorem Std.ew {σ : L2.St} {H : Hp} (z : Std K G σ H) : EdX G K (tVar 2) σ H (.k (encT WT)) := by
  obtain ⟨v, h1, h2⟩ := z.w
  exact edx_var z.tG h1 h2
theorem Std.et {σ : L2.St} {H : Hp} (z : Std K G σ H) : EdX G K (tVar 3) σ H (.d (encR TB4)) := by
  obtain ⟨v, h1, h2⟩ := z.t
  exact edx_var z.tG h1 h2
/-- d and e, two closed terms -/
structure DE (K : PySem.W.Frag) (σ : L2.St) (H : Hp) (d e : T) : Prop where
  gd : d.good
  ge : e.good
  cd : d.closed
  ce : e.closed
  dd : d.drawn []
  de : e.drawn []
  vd : ∃ v, σ[10]? = some (some v) ∧ Dp K H v (enc d)
  ve : ∃ v, σ[11]? = some (some v) ∧ Dp K H v (enc e)
section
variable {c : Addr} {A : Around} {outer : List Env} {s : Shared} {H0 : Hp} {E : XK} (F : LF P w K mg base G) (hr : Room 90 (XL P w K mg base f c A outer s H0 E).A)
include F hr
theorem st8 : ∃ t, PS (XL P w K mg base f c A outer s H0 E) (forB 8) t ∧ ∀ (D : Ends) (σ : L2.St) (H : Hp), TabsG G H → (∀ H', Ext G H H' → D.nx σ H') → t D σ H := by
  refine ⟨_, (ps_if (PW.pt (pw_or (pt_not (pt_val (pe_cl F.tw (hr.mono (by omega)) rfl (pa_cons (pe_tup (pa_cons pe_str (pa_cons (pe_tup (pa_cons (pe_tup (pa_cons pe_str (pa_cons (pe_tup (pa_cons pe_str pa_nil)) pa_nil))) pa_nil)) pa_nil))) (pa_cons pe_str pa_nil)))))
      (pw_or1 (pt_val (pe_cl F.tw (hr.mono (by omega)) rfl (pa_cons (pe_tup (pa_cons pe_str (pa_cons (pe_tup (pa_cons pe_str (pa_cons pe_str pa_nil))) pa_nil))) (pa_cons pe_str pa_nil))))))) (pss_one (ps_ret pe_bl)) pss_nil), fun D σ H tG q => ?_⟩
  refine s_if (b := false) (edt_is (edt_or (edt_not (edt_val (ea_call tG (ea_cons tG (edx_of (ed_tup tG (ed_cons tG ed_str (ed_one (ed_tup tG (ed_one (ed_tup tG (ed_cons tG ed_str (ed_one (ed_tup tG (ed_one ed_str) (by show 1 ≤ sizeLine; decide)))) (by show 2 ≤ sizeLine; decide))) (by show 1 ≤ sizeLine; decide)))) (by show 2 ≤ sizeLine; decide))) (ea_one (edx_of ed_str)))
      (show R_tower _ (.bool true) from ⟨gg (gg (.v (st "x"))), st "x", rfl, ⟨by decide +kernel, by decide +kernel⟩, congrArg PyData.bool (show true = T.tower (st "x") (gg (gg (.v (st "x")))) by decide +kernel)⟩)))) fun _ => edt_val (ea_call tG (ea_cons tG (edx_of (ed_tup tG (ed_cons tG ed_str (ed_one (ed_tup tG (ed_cons tG ed_str (ed_one ed_str)) (by show 2 ≤ sizeLine; decide)))) (by show 2 ≤ sizeLine; decide))) (ea_one (edx_of ed_str)))
      (show R_tower _ (.bool false) from ⟨ff (.v (st "x")) (.v (st "a")), st "x", rfl, True.intro, congrArg PyData.bool (show false = T.tower (st "x") (ff (.v (st "x")) (.v (st "a"))) by decide +kernel)⟩))) rfl) (fun h => by cases h) fun _ H' y => q H' y
theorem st9 : ∃ t, PS (XL P w K mg base f c A outer s H0 E) (forB 9) t ∧ ∀ (D : Ends) (σ : L2.St) (H : Hp), Std K G σ H → (∀ H', Ext G H H' → D.nx σ H') → t D σ H := by
  refine ⟨_, (ps_if (PW.pt (pw_or (pt_not (pt_val (pe_cl F.fi (hr.mono (by omega)) rfl (pa_cons (pv 3) (pa_cons (pv 2) (pa_cons pe_int (pa_cons (pv 1) pa_nil))))))) (pw_or1 (pt_val (pe_cl F.fi (hr.mono (by omega)) rfl (pa_cons (pv 3) (pa_cons (pv 2) (pa_cons pe_int (pa_cons (pv 1) pa_nil))))))))) (pss_one (ps_ret pe_bl)) pss_nil), fun D σ H z q => ?_⟩
  have tG := z.tG
  refine s_if (b := false) (edt_is (edt_or (edt_not (edt_val (ea_call tG (ea_cons tG z.et (ea_cons tG z.ew (ea_cons tG (edx_of ed_int) (ea_one z.er)))) (show R_fit _ (.bool true) from ⟨TB4, WT, RK, 1, rfl, in_tb _ _ (by decide +kernel), by rw [fit1]⟩)))) fun _ =>
    edt_val (ea_call tG (ea_cons tG z.et (ea_cons tG z.ew (ea_cons tG (edx_of ed_int) (ea_one z.er)))) (show R_fit _ (.bool false) from ⟨TB4, WT, RK, 0, rfl, in_tb _ _ (by decide +kernel), by rw [fit0]⟩))) rfl) (fun h => by cases h) fun _ H' y => q H' y
theorem st10 : ∃ t, PS (XL P w K mg base f c A outer s H0 E) (forB 10) t ∧ ∀ (D : Ends) (σ : L2.St) (H : Hp), Std K G σ H → (∀ H', Ext G H H' → D.nx σ H') → t D σ H := by
  refine ⟨_, (ps_if (pt_val (pe_cl F.fi (hr.mono (by omega)) rfl (pa_cons (pv 3) (pa_cons (pe_disp (pps_cons pe_str pe_int (pps_cons pe_str pe_int (pps_cons pe_str pe_int (pps_cons pe_str pe_int pps_nil)))) (by rfl) (by rfl) (fun z => by cases z) (by decide)) (pa_cons pe_int (pa_cons (pv 1) pa_nil)))))) (pss_one (ps_ret pe_bl)) pss_nil), fun D σ H z q => ?_⟩
  have tG := z.tG
  exact s_if (b := false) (edt_val (ea_call tG (ea_cons tG z.et (ea_cons tG edx_W2 (ea_cons tG (edx_of ed_int) (ea_one z.er)))) (show R_fit _ (.bool false) from ⟨TB4, W2, RK, 1, rfl, in_tb _ _ (by decide +kernel), by rw [fit2]⟩))) (fun h => by cases h) fun _ H' y => q H' y
theorem st11 : ∃ t, PS (XL P w K mg base f c A outer s H0 E) (forB 11) t ∧ ∀ (D : Ends) (σ : L2.St) (H : Hp), Std K G σ H → (∀ H', Ext G H H' → D.nx σ H') → t D σ H := by
  refine ⟨_, (ps_if (pt_val (pe_cl F.fi (hr.mono (by omega)) rfl (pa_cons (pv 3) (pa_cons (pv 2) (pa_cons pe_int (pa_cons (pe_disp (pps_cons pe_str pe_int (pps_cons pe_str pe_int (pps_cons pe_str pe_int (pps_cons pe_str pe_int pps_nil)))) (by rfl) (by rfl) (fun z => by cases z) (by decide)) pa_nil)))))) (pss_one (ps_ret pe_bl)) pss_nil), fun D σ H z q => ?_⟩
  have tG := z.tG
  exact s_if (b := false) (edt_val (ea_call tG (ea_cons tG z.et (ea_cons tG z.ew (ea_cons tG (edx_of ed_int) (ea_one edx_R2)))) (show R_fit _ (.bool false) from ⟨TB4, WT, R2', 1, rfl, in_tb _ _ (by decide +kernel), by rw [fit3]⟩))) (fun h => by cases h) fun _ H' y => q H' y
theorem st5 : ∃ t, PS (XL P w K mg base f c A outer s H0 E) (forB 5) t ∧ ∀ (D : Ends) (σ : L2.St) (H : Hp) (d e : T), Std K G σ H → DE K σ H d e → (∀ H', Ext G H H' → D.nx σ H') → t D σ H := by
  refine ⟨_, (ps_if (PW.pt (pw_and (pt_cmpR (op_neD hr.units) (pv 10) (pv 11) (nomark _)) (pw_and1 (pt_cmpR op_eq (pe_cl F.ia (hr.mono (by omega)) rfl (pa_cons (pv 10) (pa_cons (pv 11) (pa_cons (pv 1) pa_nil)))) (pe_cl F.ia (hr.mono (by omega)) rfl (pa_cons (pv 11) (pa_cons (pv 10) (pa_cons (pv 1) pa_nil)))) (nomark _))))) (pss_one (ps_ret pe_bl)) pss_nil), fun D σ H d e z y q => ?_⟩
  have tG := z.tG
  obtain ⟨v, v1, v2⟩ := y.vd
  obtain ⟨u, u1, u2⟩ := y.ve
  have ed : Ed G K (tVar 10) σ H (enc d) := ed_var tG v1 v2
  have ee : Ed G K (tVar 11) σ H (enc e) := ed_var tG u1 u2
  have d1 := y.gd.f.d
  have d2 := y.ge.f.d
  refine s_if (b := false) (edt_is (edt_and (b := !decide (d = e)) (c := decide (ab RK 24 d e = ab RK 24 e d)) (edt_test (ed_op tG ed ee (rd_neT y.gd.f.o y.ge.f.o (by omega) (by omega)))) fun _ =>
    edt_test (ed_op tG (ea_call tG (ea_cons tG (edx_of ed) (ea_cons tG (edx_of ee) (ea_one z.er))) ⟨d, e, RK, AR, rfl, y.gd.f, y.ge.f, by omega, rfl⟩) (ea_call tG (ea_cons tG (edx_of ee) (ea_cons tG (edx_of ed) (ea_one z.er))) ⟨e, d, RK, AR, rfl, y.ge.f, y.gd.f, by omega, rfl⟩) rd_eqB)) ?_) (fun h => by cases h) fun _ H' x => q H' x
  by_cases hd : d = e
  · rw [decide_eq_true hd]; rfl
  · rw [decide_eq_false hd]
    refine decide_eq_false fun h => ?_
    have g1 : ab RK 24 d e = true ↔ Gt RK d e := gt_at RK (by omega)
    have g2 : ab RK 24 e d = true ↔ Gt RK e d := gt_at RK (by omega)
    rcases gt_total (m := RK) (ar := AR) rk_inj _ d e (Nat.le_refl _) y.cd y.ce y.gd.f.a y.ge.f.a y.gd.f.i y.ge.f.i hd with z | z
    · exact gt_ne (gt_trans z (g2.mp (by rw [← h]; exact g1.mpr z))) rfl
    · exact gt_ne (gt_trans z (g1.mp (by rw [h]; exact g2.mpr z))) rfl
theorem st6 : ∃ t, PS (XL P w K mg base f c A outer s H0 E) (forB 6) t ∧ ∀ (D : Ends) (σ : L2.St) (H : Hp) (d e : T), Std K G σ H → DE K σ H d e → (∀ H', Ext G H H' → D.nx σ H') → t D σ H := by
  refine ⟨_, (ps_if (PW.pt (pw_and (pt_cmpR (op_neD hr.units) (pv 10) (pv 11) (nomark _)) (pw_and1 (pt_cmpR op_eq (pe_cl F.ih (hr.mono (by omega)) rfl (pa_cons (pv 10) (pa_cons (pv 11) (pa_cons (pv 2) (pa_cons pe_int (pa_cons (pv 1) pa_nil)))))) (pe_cl F.ih (hr.mono (by omega)) rfl (pa_cons (pv 11) (pa_cons (pv 10) (pa_cons (pv 2) (pa_cons pe_int (pa_cons (pv 1) pa_nil)))))) (nomark _))))) (pss_one (ps_ret pe_bl)) pss_nil), fun D σ H d e z y q => ?_⟩
  have tG := z.tG
  obtain ⟨v, v1, v2⟩ := y.vd
  obtain ⟨u, u1, u2⟩ := y.ve
  have ed : Ed G K (tVar 10) σ H (enc d) := ed_var tG v1 v2
  have ee : Ed G K (tVar 11) σ H (enc e) := ed_var tG u1 u2
  have d1 := y.gd.f.d
  have d2 := y.ge.f.d
  refine s_if (b := false) (edt_is (edt_and (b := !decide (d = e)) (c := decide (hv RK WT 1 24 d e = hv RK WT 1 24 e d)) (edt_test (ed_op tG ed ee (rd_neT y.gd.f.o y.ge.f.o (by omega) (by omega)))) fun _ =>
    edt_test (ed_op tG (ea_call tG (ea_cons tG (edx_of ed) (ea_cons tG (edx_of ee) (ea_cons tG z.ew (ea_cons tG (edx_of ed_int) (ea_one z.er))))) ⟨d, e, RK, WT, 1, AR, rfl, y.gd.f, y.ge.f, y.gd.w, y.ge.w, by omega, rfl⟩) (ea_call tG (ea_cons tG (edx_of ee) (ea_cons tG (edx_of ed) (ea_cons tG z.ew (ea_cons tG (edx_of ed_int) (ea_one z.er))))) ⟨e, d, RK, WT, 1, AR, rfl, y.ge.f, y.gd.f, y.ge.w, y.gd.w, by omega, rfl⟩) rd_eqB)) ?_) (fun h => by cases h) fun _ H' x => q H' x
  by_cases hd : d = e
  · rw [decide_eq_true hd]; rfl
  · rw [decide_eq_false hd]
    refine decide_eq_false fun h => ?_
    have g1 : hv RK WT 1 24 d e = true ↔ Kw d e := kt_at RK WT 1 (by omega)
    have g2 : hv RK WT 1 24 e d = true ↔ Kw e d := kt_at RK WT 1 (by omega)
    rcases kw_total (ar := AR) _ d e (Nat.le_refl _) y.cd y.ce y.dd y.de y.gd.f.a y.ge.f.a y.gd.f.i y.ge.f.i hd with z | z
    · exact kw_irr _ (kw_trans y.dd y.de y.dd z (g2.mp (by rw [← h]; exact g1.mpr z)))
    · exact kw_irr _ (kw_trans y.de y.dd y.de z (g1.mp (by rw [h]; exact g2.mpr z)))
end
end
end Rh
set_option Elab.async false
set_option linter.all false
set_option maxRecDepth 100000
set_option maxHeartbeats 1000000
namespace Rh
open PySem PySem.Spec PyProof.Rows L2 GxR Gx Dl
def VarOk (xs : List Str) : Prop := ∀ x ∈ xs, isVarS x = true ∧ x.length ≤ 100000 ∧ PyData.strOk x = true
theorem varOk_XY : VarOk XY := fun x hx => by
  rcases List.mem_cons.mp hx with e | e
  · subst e; decide +kernel
  · rw [List.mem_singleton.mp e]; decide +kernel
theorem lv_le : ∀ t : T, t.lv ≤ 2 ^ t.dp
  | .v _ => by simp [T.lv, T.dp]
  | .c _ => by simp [T.lv, T.dp]
  | .u _ t => by
    have := lv_le t
    have e : 2 ^ (t.dp + 1) = 2 ^ t.dp * 2 := Nat.pow_succ ..
    simp only [T.lv, T.dp]
    omega
  | .b _ t r => by
    have h1 := lv_le t
    have h2 := lv_le r
    have p1 : 2 ^ t.dp ≤ 2 ^ (max t.dp r.dp) := Nat.pow_le_pow_right (by decide) (by omega)
    have p2 : 2 ^ r.dp ≤ 2 ^ (max t.dp r.dp) := Nat.pow_le_pow_right (by decide) (by omega)
    have e : 2 ^ (max t.dp r.dp + 1) = 2 ^ (max t.dp r.dp) * 2 := Nat.pow_succ ..
    simp only [T.lv, T.dp]
    omega
theorem drawn_facts {xs : List Str} (vo : VarOk xs) : ∀ {t : T}, t.drawn xs → t.ok ∧ t.inA AR ∧ t.inT RK ∧ t.inT WT
  | .v x, h => ⟨vo x h, True.intro, True.intro, True.intro⟩
  | .c s, h => by
    rcases h with h | h
    · subst h; exact ⟨show PyData.strOk _ = true by decide +kernel, show AR _ = 0 by decide +kernel, show (getT RK _).isSome = true by decide +kernel, show (getT WT _).isSome = true by decide +kernel⟩
    · subst h; exact ⟨show PyData.strOk _ = true by decide +kernel, show AR _ = 0 by decide +kernel, show (getT RK _).isSome = true by decide +kernel, show (getT WT _).isSome = true by decide +kernel⟩
  | .u s t, h => by
    obtain ⟨e, ht⟩ := h
    subst e
    obtain ⟨a, b, c, d⟩ := drawn_facts vo ht
    exact ⟨⟨by decide +kernel, a⟩, ⟨by decide +kernel, b⟩, ⟨by decide +kernel, c⟩, ⟨by decide +kernel, d⟩⟩
  | .b s t r, h => by
    obtain ⟨e, ht, hr⟩ := h
    subst e
    obtain ⟨a, b, c, d⟩ := drawn_facts vo ht
    obtain ⟨a2, b2, c2, d2⟩ := drawn_facts vo hr
    exact ⟨⟨by decide +kernel, a, a2⟩, ⟨by decide +kernel, b, b2⟩, ⟨by decide +kernel, c, c2⟩, ⟨by decide +kernel, d, d2⟩⟩
theorem drawn_good {xs : List Str} (vo : VarOk xs) {t : T} (h : t.drawn xs) (hd : t.dp ≤ 5) : t.good := by
  obtain ⟨a, b, c, d⟩ := drawn_facts vo h
  refine ⟨⟨a, b, c, by omega, ?_⟩, d⟩
  have h1 := lv_le t
  have h2 : 2 ^ t.dp ≤ 2 ^ 5 := Nat.pow_le_pow_right (by decide) hd
  have : (2 : Nat) ^ 5 = 32 := rfl
  omega
theorem dp_put {p q : T} : ∀ {t : T}, t.drawn XY → (t.put (sb p q)).dp ≤ t.dp + max p.dp q.dp
  | .v x, h => by
    rcases xy_or h with e | e
    · subst e; rw [put_x]; omega
    · subst e; rw [put_y]; omega
  | .c s, _ => by simp [T.put, T.dp]
  | .u s t, h => by
    have := dp_put (p := p) (q := q) h.2
    simp only [T.put, T.dp]
    omega
  | .b s t r, h => by
    have := dp_put (p := p) (q := q) h.2.1
    have := dp_put (p := p) (q := q) h.2.2
    simp only [T.put, T.dp]
    omega
theorem drawn_mono {xs ys : List Str} (hs : ∀ x ∈ xs, x ∈ ys) : ∀ {t : T}, t.drawn xs → t.drawn ys
  | .v x, h => hs x h
  | .c s, h => h
  | .u s t, h => ⟨h.1, drawn_mono hs h.2⟩
  | .b s t r, h => ⟨h.1, drawn_mono hs h.2.1, drawn_mono hs h.2.2⟩
/-- one of the two orders -/
structure HowOk (how : Str) (R : T → T → Prop) (p q : T) : Prop where
  is : ∀ {s t : T}, s.good → t.good → (lawAb how s t = true ↔ R s t)
  ord : OrdOk R XY
  put : ∀ {s t : T}, s.drawn XY → t.drawn XY → R s t → R (s.put (sb p q)) (t.put (sb p q))
theorem how_paths (p q : T) : HowOk (st "paths") (Gt RK) p q := ⟨fun h1 h2 => lawAb_paths h1 h2, ord_paths XY, fun _ _ h => gt_put _ _ _ (Nat.le_refl _) h⟩
theorem how_weights {p q : T} (hp : p.drawn XY) (hq : q.drawn XY) : HowOk (st "weights") Kw p q := ⟨fun h1 _ => lawAb_weights h1, ord_weights XY, fun h1 h2 h => kw_put hp hq _ _ _ (Nat.le_refl _) h1 h2 h⟩
section
variable {P : Program} {w : World} {K : PySem.W.Frag} {mg : Str → Option Value} {base : Heap} {G : List Addr} {f : Addr} {fd : FuncData} {CB : Addr}
/-- a, b, c and things -/
structure ABC (K : PySem.W.Frag) (G : List Addr) (σ : L2.St) (H : Hp) (a b c p q : T) : Prop where
  tG : TabsG G H
  len : σ.length = 16
  da : a.drawn XY
  db : b.drawn XY
  dc : c.drawn XY
  dp : p.drawn XY
  dq : q.drawn XY
  na : a.dp ≤ 3
  nb : b.dp ≤ 3
  nc : c.dp ≤ 3
  np : p.dp ≤ 2
  nq : q.dp ≤ 1
  va : ∃ v, σ[5]? = some (some v) ∧ Dp K H v (enc a)
  vb : ∃ v, σ[6]? = some (some v) ∧ Dp K H v (enc b)
  vc : ∃ v, σ[7]? = some (some v) ∧ Dp K H v (enc c)
  vt : ∃ v, σ[8]? = some (some v) ∧ ArR K H v (.k (encSub (sb p q)))
theorem ABC.ext {σ : L2.St} {H H' : Hp} {a b c p q : T} (z : ABC K G σ H a b c p q) (x : Ext G H H') : ABC K G σ H' a b c p q := by
  obtain ⟨tG, len, da, db, dc, dp, dq, na, nb, nc, np, nq, ⟨va, a1, a2⟩, ⟨vb, b1, b2⟩, ⟨vc, c1, c2⟩, ⟨vt, t1, t2⟩⟩ := z
  exact ⟨tG.ext x, len, da, db, dc, dp, dq, na, nb, nc, np, nq, ⟨va, a1, dp_ext x tG a2⟩, ⟨vb, b1, dp_ext x tG b2⟩, ⟨vc, c1, dp_ext x tG c2⟩, ⟨vt, t1, ar_ext x tG t2⟩⟩
theorem ABC.set9 {σ : L2.St} {H : Hp} {a b c p q : T} (z : ABC K G σ H a b c p q) (v : Option V) : ABC K G (σ.set 9 v) H a b c p q := by
  have ne : ∀ i, i ≠ 9 → (σ.set 9 v)[i]? = σ[i]? := fun i h => List.getElem?_set_ne (fun e => h e.symm)
  obtain ⟨tG, len, da, db, dc, dp, dq, na, nb, nc, np, nq, ⟨va, a1, a2⟩, ⟨vb, b1, b2⟩, ⟨vc, c1, c2⟩, ⟨vt, t1, t2⟩⟩ := z
  exact ⟨tG, by rw [List.length_set]; exact len, da, db, dc, dp, dq, na, nb, nc, np, nq, ⟨va, by rw [ne 5 (by decide)]; exact a1, a2⟩, ⟨vb, by rw [ne 6 (by decide)]; exact b1, b2⟩, ⟨vc, by rw [ne 7 (by decide)]; exact c1, c2⟩, ⟨vt, by rw [ne 8 (by decide)]; exact t1, t2⟩⟩
theorem ed_la {σ : L2.St} {H : Hp} {ta tb : TE} {how : Str} {s t : T} (tG : TabsG G H) (gs : s.good) (gt : t.good) (h9 : σ[9]? = some (some (.str how))) (h1 : Ed G K ta σ H (enc s)) (h2 : Ed G K tb σ H (enc t)) :
    Ed G K (tCall (spA G K R_lawabove) [] (fun _ _ _ => False) (tCons (tVar 9) (tCons ta (tCons tb tNil)))) σ H (.bool (lawAb how s t)) :=
  ea_call tG (ea_cons tG (edx_of (ed_var tG h9 (.str how))) (ea_cons tG (edx_of h1) (ea_one (edx_of h2)))) ⟨how, s, t, rfl, gs, gt, rfl⟩
end
end Rh
set_option Elab.async false
set_option linter.all false
set_option maxRecDepth 100000
set_option maxHeartbeats 1000000
namespace Dl
open PySem PySem.Spec PyProof.Rows L2 GxR Gx
/-- if ..: a block that ends; the rest behind it -/
theorem s_ifN {G : List Addr} {σ : L2.St} {H : Hp} {tt : TT} {t u : TS} {b : Bool} {D : Ends} (h : EdT G tt σ H b) (h1 : b = true → ∀ H', Ext G H H' → t { D with nx := u D } σ H') (h2 : b = false → ∀ H', Ext G H H' → u D σ H') : tSeq (tIfS tt t tNext) u D σ H := s_ifR h h1 h2
end Dl
namespace Rh
open PySem PySem.Spec PyProof.Rows L2 GxR Gx Dl
section
variable {P : Program} {w : World} {K : PySem.W.Frag} {mg : Str → Option Value} {base : Heap} {G : List Addr} {f : Addr} {fd : FuncData} {CB : Addr}
section
variable {c : Addr} {A : Around} {outer : List Env} {s : Shared} {H0 : Hp} {E : XK} (F : LF P w K mg base G) (hr : Room 90 (XL P w K mg base f c A outer s H0 E).A)
include F hr
theorem st2 : ∃ t, PS (XL P w K mg base f c A outer s H0 E) (forB 2) t ∧ ∀ (D : Ends) (σ : L2.St) (H : Hp) (a b c p q : T), ABC K G σ H a b c p q → (∀ σ' H' v, σ' = σ.set 9 v → Ext G H H' → D.nx σ' H') → t D σ H := by
  refine ⟨_, ps_for PassesOwn.never rfl (pi_list (pe_lst (pa_cons pe_str (pa_cons pe_str pa_nil)))) (pg_name (i := 9) sc_law.nd rfl (Or.inl rfl)) (pss_cons (ps_if (PW.pt (pw_or (pt_val (pe_cl F.la (hr.mono (by omega)) rfl (pa_cons (pv 9) (pa_cons (pv 5) (pa_cons (pv 5) pa_nil))))) (pw_or1 (PW.pt (pw_and (pt_val (pe_cl F.la (hr.mono (by omega)) rfl (pa_cons (pv 9) (pa_cons (pv 5) (pa_cons (pv 6) pa_nil))))) (pw_and1 (pt_val (pe_cl F.la (hr.mono (by omega)) rfl (pa_cons (pv 9) (pa_cons (pv 6) (pa_cons (pv 5) pa_nil))))))))))) (pss_one (ps_ret pe_bl)) pss_nil) (pss_cons (ps_if (PW.pt (pw_and (pt_val (pe_cl F.la (hr.mono (by omega)) rfl (pa_cons (pv 9) (pa_cons (pv 5) (pa_cons (pv 6) pa_nil))))) (pw_and (pt_val (pe_cl F.la (hr.mono (by omega)) rfl (pa_cons (pv 9) (pa_cons (pv 6) (pa_cons (pv 7) pa_nil))))) (pw_and1 (pt_not (pt_val (pe_cl F.la (hr.mono (by omega)) rfl (pa_cons (pv 9) (pa_cons (pv 5) (pa_cons (pv 7) pa_nil)))))))))) (pss_one (ps_ret pe_bl)) pss_nil) (pss_cons (ps_if (pt_val (pe_cl F.la (hr.mono (by omega)) rfl (pa_cons (pv 9) (pa_cons (pv 5) (pa_cons (pv 6) pa_nil))))) (pss_cons (ps_if (pt_not (pt_val (pe_cl F.la (hr.mono (by omega)) rfl (pa_cons (pv 9) (pa_cons (pe_cl F.pu (hr.mono (by omega)) rfl (pa_cons (pv 5) (pa_cons (pv 8) pa_nil))) (pa_cons (pe_cl F.pu (hr.mono (by omega)) rfl (pa_cons (pv 6) (pa_cons (pv 8) pa_nil))) pa_nil)))))) (pss_one (ps_ret pe_bl)) pss_nil) (pss_cons (ps_if (pt_not (pt_val (pe_cl F.la (hr.mono (by omega)) rfl (pa_cons (pv 9) (pa_cons (pe_tup (pa_cons pe_str (pa_cons (pe_tup (pa_cons (pv 5) pa_nil)) pa_nil))) (pa_cons (pe_tup (pa_cons pe_str (pa_cons (pe_tup (pa_cons (pv 6) pa_nil)) pa_nil))) pa_nil)))))) (pss_one (ps_ret pe_bl)) pss_nil) (pss_one (ps_if (pt_not (pt_val (pe_cl F.la (hr.mono (by omega)) rfl (pa_cons (pv 9) (pa_cons (pe_tup (pa_cons pe_str (pa_cons (pe_tup (pa_cons (pv 7) (pa_cons (pv 5) pa_nil))) pa_nil))) (pa_cons (pe_tup (pa_cons pe_str (pa_cons (pe_tup (pa_cons (pv 7) (pa_cons (pv 6) pa_nil))) pa_nil))) pa_nil)))))) (pss_one (ps_ret pe_bl)) pss_nil)))) pss_nil) (pss_one (ps_if (PW.pt (pw_or (pt_not (pt_val (pe_cl F.la (hr.mono (by omega)) rfl (pa_cons (pv 9) (pa_cons (pe_tup (pa_cons pe_str (pa_cons (pe_tup (pa_cons (pv 5) (pa_cons (pv 6) pa_nil))) pa_nil))) (pa_cons (pv 5) pa_nil)))))) (pw_or1 (pt_not (pt_val (pe_cl F.la (hr.mono (by omega)) rfl (pa_cons (pv 9) (pa_cons (pe_tup (pa_cons pe_str (pa_cons (pe_tup (pa_cons (pv 5) pa_nil)) pa_nil))) (pa_cons (pv 5) pa_nil))))))))) (pss_one (ps_ret pe_bl)) pss_nil))))), fun D σ H a b c p q z fin => ?_⟩
  have tG := z.tG
  have hows : ∀ (i : Nat) (d : PyData), [PyData.str (Str.ofString "paths"), PyData.str (Str.ofString "weights")][i]? = some d → ∃ how R, d = .str how ∧ HowOk how R p q := fun i d h => by
    match i, h with
    | 0, h => exact ⟨_, _, (Option.some.inj h).symm, how_paths p q⟩
    | 1, h => exact ⟨_, _, (Option.some.inj h).symm, how_weights z.dp z.dq⟩
    | i + 2, h => cases h
  refine s_forL (K := K) (ds := [.str (Str.ofString "paths"), .str (Str.ofString "weights")]) tG (ed_lst tG (ed_cons tG ed_str (ed_one ed_str)) (by show 2 ≤ sizeLine; decide)) (fun i σ' => (i = 0 ∧ σ' = σ) ∨ ∃ v, σ' = σ.set 9 v) (.inl ⟨rfl, rfl⟩) ?_ ?_
  · rintro i d v σ' H' N hd hσ x1 rv t1 hN
    obtain ⟨how, R, rfl, ho⟩ := hows i d hd
    rw [dp_str rv]
    have z1 : ABC K G (σ.set 9 (some (.str how))) H' a b c p q := (z.ext x1).set9 _
    have eσ : σ'.set 9 (some (.str how)) = σ.set 9 (some (.str how)) := by
      rcases hσ with ⟨_, e⟩ | ⟨v, e⟩
      · rw [e]
      · rw [e, List.set_set]
    have h9 : (σ.set 9 (some (V.str how)))[9]? = some (some (.str how)) := List.getElem?_set_self (by rw [z.len]; decide)
    have next : ∀ H2, Ext G H' H2 → N (σ.set 9 (some (.str how))) H2 := fun H2 x => hN _ H2 x (.inr ⟨_, rfl⟩)
    clear hN
    unfold gName
    rw [eσ]
    generalize σ.set 9 (some (V.str how)) = σ1 at *
    have da := z.da
    have db := z.db
    have dc := z.dc
    have na := z.na
    have nb := z.nb
    have nc := z.nc
    have np := z.np
    have nq := z.nq
    have good : ∀ {t : T}, t.drawn XY → t.dp ≤ 5 → t.good := fun h1 h2 => drawn_good varOk_XY h1 h2
    have ga := good da (by omega)
    have gb := good db (by omega)
    have gc := good dc (by omega)
    have gfab : (ff a b).good := good (t := ff a b) ⟨rfl, da, db⟩ (by show max a.dp b.dp + 1 ≤ 5; omega)
    have gga : (gg a).good := good (t := gg a) ⟨rfl, da⟩ (by show a.dp + 1 ≤ 5; omega)
    have ggb : (gg b).good := good (t := gg b) ⟨rfl, db⟩ (by show b.dp + 1 ≤ 5; omega)
    have gfca : (ff c a).good := good (t := ff c a) ⟨rfl, dc, da⟩ (by show max c.dp a.dp + 1 ≤ 5; omega)
    have gfcb : (ff c b).good := good (t := ff c b) ⟨rfl, dc, db⟩ (by show max c.dp b.dp + 1 ≤ 5; omega)
    have o := ho.ord
    have ea : ∀ {H2}, Ext G H' H2 → Ed G K (tVar 5) σ1 H2 (enc a) := fun x => by
      obtain ⟨v, h1, h2⟩ := (z1.ext x).va
      exact ed_var (t1.ext x) h1 h2
    have eb : ∀ {H2}, Ext G H' H2 → Ed G K (tVar 6) σ1 H2 (enc b) := fun x => by
      obtain ⟨v, h1, h2⟩ := (z1.ext x).vb
      exact ed_var (t1.ext x) h1 h2
    have ec : ∀ {H2}, Ext G H' H2 → Ed G K (tVar 7) σ1 H2 (enc c) := fun x => by
      obtain ⟨v, h1, h2⟩ := (z1.ext x).vc
      exact ed_var (t1.ext x) h1 h2
    have et : ∀ {H2}, Ext G H' H2 → EdX G K (tVar 8) σ1 H2 (.k (encSub (sb p q))) := fun x => by
      obtain ⟨v, h1, h2⟩ := (z1.ext x).vt
      exact edx_var (t1.ext x) h1 h2
    have no : ∀ {s t : T}, s.good → t.good → ¬ R s t → lawAb how s t = false := fun h1 h2 h => Bool.eq_false_iff.mpr fun z => h ((ho.is h1 h2).mp z)
    have yes : ∀ {s t : T}, s.good → t.good → R s t → lawAb how s t = true := fun h1 h2 h => (ho.is h1 h2).mpr h
    have r0 := Ext.refl G H'
    refine s_ifR (b := false) (edt_is (edt_or (edt_val (ed_la t1 ga ga h9 (ea r0) (ea r0))) fun _ => edt_and (edt_val (ed_la t1 ga gb h9 (ea r0) (eb r0))) fun _ => edt_val (ed_la t1 gb ga h9 (eb r0) (ea r0))) ?_) (fun h => by cases h) fun _ H2 x2 => ?_
    · rw [no ga ga (o.irr a), Bool.false_or]
      refine Bool.eq_false_iff.mpr fun h => ?_
      rw [Bool.and_eq_true] at h
      exact o.irr a (o.tr da db da ((ho.is ga gb).mp h.1) ((ho.is gb ga).mp h.2))
    have t2 := t1.ext x2
    refine s_ifR (b := false) (edt_is (edt_and (edt_val (ed_la t2 ga gb h9 (ea x2) (eb x2))) fun _ => edt_and (edt_val (ed_la t2 gb gc h9 (eb x2) (ec x2))) fun _ => edt_not (edt_val (ed_la t2 ga gc h9 (ea x2) (ec x2)))) ?_) (fun h => by cases h) fun _ H3 x3 => ?_
    · refine Bool.eq_false_iff.mpr fun h => ?_
      rw [Bool.and_eq_true, Bool.and_eq_true, Bool.not_eq_true'] at h
      obtain ⟨h1, h2, h3⟩ := h
      rw [yes ga gc (o.tr da db dc ((ho.is ga gb).mp h1) ((ho.is gb gc).mp h2))] at h3
      cases h3
    have y3 := x2.trans x3
    have t3 := t1.ext y3
    have last : ∀ H6, Ext G H' H6 → tIfS (tOr (tNot (tB (tCall (spA G K R_lawabove) [] (fun _ _ _ => False) (tCons (tVar 9) (tCons (tTup (tCons (tC (.str (Str.ofString "f"))) (tCons (tTup (tCons (tVar 5) (tCons (tVar 6) tNil))) tNil))) (tCons (tVar 5) tNil))))))
        (tNot (tB (tCall (spA G K R_lawabove) [] (fun _ _ _ => False) (tCons (tVar 9) (tCons (tTup (tCons (tC (.str (Str.ofString "g"))) (tCons (tTup (tCons (tVar 5) tNil)) tNil))) (tCons (tVar 5) tNil))))))) (tRet (tC (.bl false))) tNext { D with nx := N, ct := N, bk := D.nx } σ1 H6 := fun H6 x6 => by
      have t6 := t1.ext x6
      refine s_if (b := false) (edt_is (edt_or (edt_not (edt_val (ed_la (s := ff a b) (t := a) t6 gfab ga h9 (ed_tup t6 (ed_cons t6 ed_str (ed_one (ed_tup t6 (ed_cons t6 (ea x6) (ed_one (eb x6))) (by show 2 ≤ sizeLine; decide)))) (by show 2 ≤ sizeLine; decide)) (ea x6)))) fun _ =>
        edt_not (edt_val (ed_la (s := gg a) (t := a) t6 gga ga h9 (ed_tup t6 (ed_cons t6 ed_str (ed_one (ed_tup t6 (ed_one (ea x6)) (by show 1 ≤ sizeLine; decide)))) (by show 2 ≤ sizeLine; decide)) (ea x6)))) ?_) (fun h => by cases h) fun _ H7 x7 => next H7 (x6.trans x7)
      rw [yes gfab ga (o.fl da db), yes gga ga (o.gl da)]
      rfl
    refine s_ifN (edt_val (ed_la t3 ga gb h9 (ea y3) (eb y3))) (fun hab H4 x4 => ?_) fun _ H4 x4 => last H4 (y3.trans x4)
    have rab := (ho.is ga gb).mp hab
    have y4 := y3.trans x4
    have t4 := t1.ext y4
    have dpa := drawn_put z.dp z.dq da
    have dpb := drawn_put z.dp z.dq db
    have npa := dp_put (p := p) (q := q) da
    have npb := dp_put (p := p) (q := q) db
    have gpa := good dpa (by omega)
    have gpb := good dpb (by omega)
    refine s_ifR (b := false) (edt_is (edt_not (edt_val (ed_la (s := a.put (sb p q)) (t := b.put (sb p q)) t4 gpa gpb h9 (ea_call t4 (ea_cons t4 (edx_of (ea y4)) (ea_one (et y4))) ⟨a, sb p q, rfl, ga.f.o, by omega, rfl⟩) (ea_call t4 (ea_cons t4 (edx_of (eb y4)) (ea_one (et y4))) ⟨b, sb p q, rfl, gb.f.o, by omega, rfl⟩)))) ?_) (fun h => by cases h) fun _ H5 x5 => ?_
    · rw [yes gpa gpb (ho.put da db rab)]; rfl
    have y5 := y4.trans x5
    have t5 := t1.ext y5
    refine s_ifR (b := false) (edt_is (edt_not (edt_val (ed_la (s := gg a) (t := gg b) t5 gga ggb h9 (ed_tup t5 (ed_cons t5 ed_str (ed_one (ed_tup t5 (ed_one (ea y5)) (by show 1 ≤ sizeLine; decide)))) (by show 2 ≤ sizeLine; decide)) (ed_tup t5 (ed_cons t5 ed_str (ed_one (ed_tup t5 (ed_one (eb y5)) (by show 1 ≤ sizeLine; decide)))) (by show 2 ≤ sizeLine; decide))))) ?_) (fun h => by cases h) fun _ H6 x6 => ?_
    · rw [yes gga ggb (o.g1 da db rab)]; rfl
    have y6 := y5.trans x6
    have t6 := t1.ext y6
    refine s_if (b := false) (edt_is (edt_not (edt_val (ed_la (s := ff c a) (t := ff c b) t6 gfca gfcb h9 (ed_tup t6 (ed_cons t6 ed_str (ed_one (ed_tup t6 (ed_cons t6 (ec y6) (ed_one (ea y6))) (by show 2 ≤ sizeLine; decide)))) (by show 2 ≤ sizeLine; decide)) (ed_tup t6 (ed_cons t6 ed_str (ed_one (ed_tup t6 (ed_cons t6 (ec y6) (ed_one (eb y6))) (by show 2 ≤ sizeLine; decide)))) (by show 2 ≤ sizeLine; decide))))) ?_) (fun h => by cases h) fun _ H7 x7 => last H7 (y6.trans x7)
    rw [yes gfca gfcb (o.f1 da db dc rab)]
    rfl
  · rintro σ' H' x1 hσ
    rcases hσ with ⟨e, _⟩ | ⟨v, e⟩
    · cases e
    · exact fin σ' H' v e x1
end
end
end Rh
set_option Elab.async false
set_option linter.all false
set_option maxRecDepth 100000
set_option maxHeartbeats 1000000
namespace Dl
open PySem PySem.Spec PyProof.Rows L2 GxR Gx
section
variable {G : List Addr} {K : PySem.W.Frag} {σ : L2.St} {H H' : Hp} {ta tb tc te : TE} {tt : TT} {ds : List PyData}
/-- t[1:], t not empty -/
theorem ed_slT1 (h : Ed G K te σ H (.tuple ds)) (tG : TabsG G H) (hn : ds ≠ []) : Ed G K (tSl (rSlT K) te (tPart (tC (.int 1))) tNoPart) σ H (.tuple (ds.drop 1)) := fun H1 x Q q => h H1 x _ fun v H2 x2 rv => by
  obtain ⟨a, xs, rfl, hs, hr⟩ := dp_tup rv
  have len := dpA_len hr
  have pos : 0 < ds.length := List.length_pos_iff.mpr hn
  have e1 : HT.sIx xs.length 0 (some 1) = 1 := by
    have := HT.sIx_nat xs.length 0 1
    rw [show ((1 : Nat) : Int) = 1 from rfl] at this
    rw [this]
    omega
  refine ⟨1, rfl, a, xs, rfl, hs, fun z => by rw [e1] at z; omega, fun p hp => q _ _ (x2.trans (Ext.new hp)) ?_⟩
  have ec : cutV xs (some 1) none = xs.drop 1 := by
    unfold cutV
    rw [e1, HT.sIx_none, List.take_of_length_le (by rw [List.length_drop]; exact Nat.le_refl _)]
  rw [ec]
  exact dp_new hp ((tG.ext x).ext x2) (dpA_drop 1 hr)
/-- [.. for x in t if test], no item taken -/
theorem ed_lcNo {i : Nat} {vs : List Nat} (tG : TabsG G H) (h : Ed G K te σ H (.tuple ds)) (hi : i ∈ vs)
    (hb : ∀ d v H1, d ∈ ds → Ext G H H1 → TabsG G H1 → Dp K H1 v d → EdT G tt ((wipe σ vs).set i (some v)) H1 false) : Ed G K (tLc (iTup K te) (gName i) tt tc vs) σ H (.list []) := fun H1 x Q q =>
  h H1 x _ fun v H2 x2 rv => by
    obtain ⟨a, xs, rfl, hs, hr⟩ := dp_tup rv
    have t2 := (tG.ext x).ext x2
    refine ⟨a, rfl, ⟨xs, hs⟩, fun D hD => ?_⟩
    refine lc_tup (a := a) (xs := xs) (fun k Hk => Ext G H2 Hk ∧ Hk D = some (.lst [])) ⟨Ext.new hD, upd_same⟩ (fun k Hk _ p => p.1.sqT t2 hs) (fun k y Hk hk p => ?_) (fun Hk p => q _ Hk (x2.trans p.1) (.lst (.inl (.inl p.2)) .nil))
    obtain ⟨d, hd, rd⟩ := dpA_getV hr hk
    have tk := t2.ext p.1
    refine ⟨wipe_set σ vs i (some y) hi, hb d y Hk (List.mem_of_getElem? hd) ((x.trans x2).trans p.1) tk (dp_ext p.1 t2 rd) Hk (Ext.refl G Hk) _ fun H3 x3 => ?_⟩
    rw [if_neg Bool.false_ne_true]
    exact ⟨p.1.trans x3, x3.at tk p.2 (fun ps z => by cases z)⟩
end
end Dl
namespace Rh
open PySem PySem.Spec PyProof.Rows L2 GxR Gx Dl
theorem places_ne (t : T) : t.places ≠ [] := by cases t <;> simp [T.places]
theorem places_at : ∀ (t : T) (p : List Nat), p ∈ t.places → ∃ r, t.at p = some r
  | .v x, p, h => by rw [T.places, List.mem_singleton] at h; subst h; exact ⟨_, rfl⟩
  | .c s, p, h => by rw [T.places, List.mem_singleton] at h; subst h; exact ⟨_, rfl⟩
  | .u s t, p, h => by
    rw [T.places, List.mem_cons] at h
    rcases h with h | h
    · subst h; exact ⟨_, rfl⟩
    · obtain ⟨q, hq, rfl⟩ := List.mem_map.mp h
      obtain ⟨r, hr⟩ := places_at t q hq
      exact ⟨r, by rw [T.at, if_pos rfl]; exact hr⟩
  | .b s t u, p, h => by
    rw [T.places, List.mem_cons, List.mem_append] at h
    rcases h with h | h | h
    · subst h; exact ⟨_, rfl⟩
    · obtain ⟨q, hq, rfl⟩ := List.mem_map.mp h
      obtain ⟨r, hr⟩ := places_at t q hq
      exact ⟨r, by rw [T.at, if_pos rfl]; exact hr⟩
    · obtain ⟨q, hq, rfl⟩ := List.mem_map.mp h
      obtain ⟨r, hr⟩ := places_at u q hq
      exact ⟨r, by rw [T.at, if_neg (by decide), if_pos rfl]; exact hr⟩
theorem places_tail (t : T) (p : List Nat) (h : p ∈ t.places.drop 1) : p ∈ t.places ∧ p ≠ [] := by
  refine ⟨List.mem_of_mem_drop h, ?_⟩
  cases t with
  | v x => simp [T.places] at h
  | c s => simp [T.places] at h
  | u s t =>
    simp only [T.places, List.drop_succ_cons, List.drop_zero, List.mem_map] at h
    obtain ⟨q, _, rfl⟩ := h
    exact fun z => by cases z
  | b s t r =>
    simp only [T.places, List.drop_succ_cons, List.drop_zero, List.mem_append, List.mem_map] at h
    rcases h with ⟨q, _, rfl⟩ | ⟨q, _, rfl⟩ <;> exact fun z => by cases z
theorem at_drawn {xs : List Str} : ∀ (p : List Nat) (t r : T), t.drawn xs → t.at p = some r → r.drawn xs ∧ r.dp ≤ t.dp
  | [], t, r, d, h => by
    rw [T.at_nil] at h
    rw [← Option.some.inj h]
    exact ⟨d, Nat.le_refl _⟩
  | k :: p, t, r, d, h => by
    obtain ⟨q, hq, hr, _⟩ := T.at_cons h
    have hm := List.mem_of_getElem? hq
    have ih := at_drawn p q r (drawn_parts d hm) hr
    have := T.dp_parts hm
    exact ⟨ih.1, by omega⟩
section
variable {P : Program} {w : World} {K : PySem.W.Frag} {mg : Str → Option Value} {base : Heap} {G : List Addr} {f : Addr} {fd : FuncData} {CB : Addr}
section
variable {c : Addr} {A : Around} {outer : List Env} {s : Shared} {H0 : Hp} {E : XK} (F : LF P w K mg base G) (hr : Room 90 (XL P w K mg base f c A outer s H0 E).A)
include F hr
theorem st3 : ∃ t, PS (XL P w K mg base f c A outer s H0 E) (forB 3) t ∧ ∀ (D : Ends) (σ : L2.St) (H : Hp) (a b c p q : T), ABC K G σ H a b c p q → Std K G σ H → wipe σ [13] = σ → (∀ H', Ext G H H' → D.nx σ H') → t D σ H := by
  refine ⟨_, ps_if (pt_cmpR (op_neD hr.units) (pe_lc (own := [("place", 13)]) (g := gName 13) rfl sc_law.nd (pi_tup (pe_slice sl_tup (pe_cl F.pl (hr.mono (by omega)) rfl (pa_cons (pv 5) pa_nil)) (po_some pe_int) po_none)) (blkOk_by (N := NL) (sc := defScope s_law) (by decide +kernel)) (fun _ _ _ _ _ => pg_name (i := 13) sc_law.nd rfl (Or.inl rfl)) (tt := tNot (tB (tCall (spA G K (R_above 24)) [] (fun _ _ _ => False) (tCons (tVar 5) (tCons (tCall (spA G K R_at) [] (fun _ _ _ => False) (tCons (tVar 5) (tCons (tVar 13) tNil))) (tCons (tVar 1) tNil)))))) (fun _ _ _ _ _ => pts_one (pt_not (pt_val (pe_cl F.ia (hr.mono (by omega)) rfl (pa_cons (pv 5) (pa_cons (pe_cl F.at_ (hr.mono (by omega)) rfl (pa_cons (pv 5) (pa_cons (pv 13) pa_nil))) (pa_cons (pv 1) pa_nil))))))) (fun _ _ _ _ _ => pv 13)) (pe_lst pa_nil) (nomark _)) (pss_one (ps_ret pe_bl)) pss_nil, fun D σ H a b c p q z y hw fin => ?_⟩
  have tG := z.tG
  have ga : a.good := drawn_good varOk_XY z.da (by have := z.na; omega)
  obtain ⟨va, a1, a2⟩ := z.va
  obtain ⟨vr, r1, r2⟩ := y.r
  have na := z.na
  refine s_if (b := false) (edt_is (edt_test (ed_op tG (ed_lcNo tG (ed_slT1 (ea_call tG (ea_one (edx_of (ed_var tG a1 a2))) ⟨a, rfl, ga.f.o, ga.f.d, Nat.le_refl _, rfl⟩) tG (by
      intro e
      have := places_ne a
      exact this (List.map_eq_nil_iff.mp e))) (List.mem_singleton.mpr rfl) fun d v H1 hd x1 t1 rv => ?_) (ed_lst tG ed_nil (by show 0 ≤ sizeLine; decide)) (rd_neD (d := .list []) (e := .list []) rfl rfl))) rfl) (fun h => by cases h) fun _ H' x => fin H' x
  rw [← List.map_drop] at hd
  obtain ⟨pl, hpl, rfl⟩ := List.mem_map.mp hd
  obtain ⟨h1, h2⟩ := places_tail a pl hpl
  obtain ⟨r, hra⟩ := places_at a pl h1
  obtain ⟨dr, nr⟩ := at_drawn pl a r z.da hra
  have gr : r.good := drawn_good varOk_XY dr (by omega)
  have ne : ∀ i, i ≠ 13 → ((wipe σ [13]).set 13 (some v))[i]? = σ[i]? := fun i h => by
    rw [hw]
    exact List.getElem?_set_ne (fun e => h e.symm)
  have h13 : ((wipe σ [13]).set 13 (some v))[13]? = some (some v) := by
    rw [hw]
    exact List.getElem?_set_self (by rw [z.len]; decide)
  have ea : Ed G K (tVar 5) ((wipe σ [13]).set 13 (some v)) H1 (enc a) := ed_var t1 ((ne 5 (by decide)).trans a1) (dp_ext x1 tG a2)
  refine edt_is (edt_not (edt_val (ea_call t1 (ea_cons t1 (edx_of ea) (ea_cons t1 (edx_of (ea_call t1 (ea_cons t1 (edx_of ea) (ea_one (edx_of (ed_var t1 h13 rv)))) ⟨a, r, pl, rfl, ga.f.o, hra, rfl⟩)) (ea_one (edx_var t1 ((ne 1 (by decide)).trans r1) (ar_ext x1 tG r2))))) ⟨a, r, RK, AR, rfl, ga.f, gr.f, by omega, rfl⟩))) ?_
  rw [(gt_at RK (show a.dp + r.dp < 24 by omega)).mpr (gt_at_place pl a r h2 hra)]
  rfl
end
end
end Rh
set_option Elab.async false
set_option linter.all false
set_option maxRecDepth 100000
set_option maxHeartbeats 1000000
namespace Dl
open PySem PySem.Spec PyProof.Rows L2 GxR Gx
section
variable {G : List Addr} {K : PySem.W.Frag} {σ : L2.St} {H H' : Hp} {ta tb tc te : TE} {tt : TT} {ds : List PyData}
/-- [.. for a, b in l], l a list of pairs -/
theorem ed_lcLP {i j : Nat} {vs : List Nat} {ps : List (PyData × PyData)} {g : PyData × PyData → PyData} (tG : TabsG G H) (hl : ps.length ≤ sizeLine) (h : Ed G K te σ H (.list (ps.map fun q => PyData.tuple [q.1, q.2]))) (hi : i ∈ vs) (hj : j ∈ vs) (hp : ∀ q ∈ ps, Pu (g q) = true)
    (hb : ∀ q v u H1, q ∈ ps → Ext G H H1 → TabsG G H1 → Dp K H1 v q.1 → Dp K H1 u q.2 → Ed G K tb (((wipe σ vs).set i (some v)).set j (some u)) H1 (g q)) : Ed G K (tLc (iList K te) (gTup K 2 (gCons (gName i) (gCons (gName j) gNil))) tYes tb vs) σ H (.list (ps.map g)) := fun H1 x Q q => by
  refine h H1 x _ fun v H2 x2 rv => ?_
  obtain ⟨a, xs, rfl, hs, hr⟩ := dp_lst rv
  have len := dpA_len hr
  rw [List.length_map] at len
  have t2 := (tG.ext x).ext x2
  refine ⟨a, rfl, ⟨xs, hs⟩, fun D hD => ?_⟩
  refine lc_list (K := K) (a := a) (xs := xs) (fun k Hk => Ext G H2 Hk ∧ ∃ acc, Hk D = some (.lst acc) ∧ acc.length = k ∧ DpAll K Hk acc ((ps.take k).map g)) ⟨Ext.new hD, [], upd_same, rfl, .nil⟩ (fun k Hk _ p => p.1.sqL t2 hs) (fun k y Hk hk p => ?_) (fun Hk p => ?_)
  · obtain ⟨y1, acc, e1, e2, e3⟩ := p
    obtain ⟨d, hd, rd⟩ := dpA_getV hr hk
    rw [List.getElem?_map] at hd
    obtain ⟨q0, hq0, rfl⟩ := Option.map_eq_some_iff.mp hd
    obtain ⟨b, ys, rfl, hsb, hrb⟩ := dp_tup (dp_ext y1 t2 rd)
    obtain ⟨v1, v2, rfl, r1, r2⟩ := dpA_two hrb
    have hm := List.mem_of_getElem? hq0
    have tk := t2.ext y1
    refine ⟨b, [v1, v2], rfl, hsb, rfl, v1, [v2], rfl, v2, [], rfl, rfl, by rw [wipe_setG _ _ _ _ hj, wipe_setG _ _ _ _ hi, wipe_wipe], ?_⟩
    dsimp only [tYes]
    refine iteT ?_
    refine hb q0 v1 v2 Hk hm ((x.trans x2).trans y1) tk r1 r2 Hk (Ext.refl G Hk) _ fun w H4 y4 rw_ => ?_
    have e4 := y4.at tk e1 (fun ps z => by cases z)
    have hk' := (List.getElem?_eq_some_iff.mp hk).1
    refine ⟨acc, e4, by omega, (y1.trans y4).mut hD e4 (fun ps z => by cases z), acc ++ [w], upd_same, by rw [List.length_append, e2]; rfl, ?_⟩
    rw [take_snoc hq0, List.map_append]
    refine dpA_tups (fun a xs q => sqT_upd e4 q) (puA_all.mpr fun z hz => ?_) (dpA_app (dpA_ext y4 tk e3) (.cons rw_ .nil))
    rcases List.mem_append.mp hz with hz | hz
    · obtain ⟨d', hd', rfl⟩ := List.mem_map.mp hz
      exact hp d' (List.mem_of_mem_take hd')
    · rw [List.mem_singleton.mp hz]
      exact hp q0 hm
  · obtain ⟨y1, acc, e1, e2, e3⟩ := p
    refine q _ Hk (x2.trans y1) (.lst (.inl (.inl e1)) ?_)
    rw [len, List.take_length] at e3
    exact e3
end
end Dl
namespace Rh
open PySem PySem.Spec PyProof.Rows L2 GxR Gx Dl
theorem dpA_pairs {K : PySem.W.Frag} {H : Hp} : ∀ {m : Tb} {vs : List V}, DpAll K H vs (m.map fun p => PyData.tuple [.str p.1, .int p.2]) → ∃ ps : List Addr, vs = ps.map V.ref ∧ Paired (fun p (kv : Key × V) => SqT K H p [kV kv.1, kv.2]) ps (mkD m)
  | [], _, .nil => ⟨[], rfl, .nil⟩
  | q :: m, _, .cons a r => by
    obtain ⟨ps, rfl, z⟩ := dpA_pairs r
    obtain ⟨b, ys, rfl, hs, hr⟩ := dp_tup a
    obtain ⟨v1, v2, rfl, r1, r2⟩ := dpA_two hr
    rw [dp_str r1, dp_int r2] at hs
    exact ⟨b :: ps, rfl, .cons hs z⟩
def ONES : Tb := [(st "a", 1), (st "b", 1), (st "f", 1), (st "g", 1)]
theorem mg_ONES : mergeK [] (mkD ONES) = mkD ONES := by decide +kernel
theorem ones_a : getT ONES (st "a") = some 1 := by decide +kernel
theorem ones_b : getT ONES (st "b") = some 1 := by decide +kernel
theorem ones_f : getT ONES (st "f") = some 1 := by decide +kernel
theorem ones_g : getT ONES (st "g") = some 1 := by decide +kernel
theorem ones_size {xs : List Str} : ∀ {t : T}, t.drawn xs → t.weight ONES 1 = (t.size : Int) ∧ t.inT ONES
  | .v x, _ => ⟨rfl, True.intro⟩
  | .c s, h => by
    rcases h with h | h <;> subst h
    · exact ⟨by rw [T.weight, ones_a]; rfl, show (getT ONES _).isSome = true by rw [ones_a]; rfl⟩
    · exact ⟨by rw [T.weight, ones_b]; rfl, show (getT ONES _).isSome = true by rw [ones_b]; rfl⟩
  | .u s t, h => by
    obtain ⟨e, h⟩ := h
    subst e
    have ih := ones_size h
    refine ⟨?_, by rw [ones_g]; rfl, ih.2⟩
    rw [T.weight, ones_g, ih.1, T.size]
    show (1 : Int) + _ = _
    omega
  | .b s t r, h => by
    obtain ⟨e, h, h2⟩ := h
    subst e
    have ih := ones_size h
    have ih2 := ones_size h2
    refine ⟨?_, by rw [ones_f]; rfl, ih.2, ih2.2⟩
    rw [T.weight, ones_f, ih.1, ih2.1, T.size]
    show (1 : Int) + _ = _
    omega
end Rh
set_option Elab.async false
set_option linter.all false
set_option maxRecDepth 100000
set_option maxHeartbeats 1000000
namespace Rh
open PySem PySem.Spec PyProof.Rows L2 GxR Gx Dl
/-- dict(l), l a list of pairs of a text and a number -/
theorem edx_dictP {G : List Addr} {K : PySem.W.Frag} {σ : L2.St} {H : Hp} {te : TE} {m : Tb} (hm : mergeK [] (mkD m) = mkD m) (h : Ed G K te σ H (encR m)) :
    EdX G K (tCB (fun xs H Q => ∃ (a : Addr) (ps : List Addr) (kvs : List (Key × V)), xs = [.ref a] ∧ SqL K H a (ps.map V.ref) ∧ Paired (fun p kv => SqT K H p [kV kv.1, kv.2]) ps kvs ∧ ∀ p, H p = none → Q (.ref p) (upd H p (.dK (mergeK [] kvs)))) (tCons te tNil)) σ H (.k (encT m)) := fun H1 x Q q =>
  h H1 x _ fun v H2 x2 rv => by
    obtain ⟨a, vs, rfl, hs, hr⟩ := dp_lst rv
    obtain ⟨ps, rfl, pr⟩ := dpA_pairs hr
    refine ⟨a, ps, mkD m, rfl, hs, pr, fun p hp => ?_⟩
    rw [hm]
    exact q _ _ (x2.trans (Ext.new hp)) ⟨p, mkD m, rfl, upd_same, dkR_mkD m⟩
section
variable {P : Program} {w : World} {K : PySem.W.Frag} {mg : Str → Option Value} {base : Heap} {G : List Addr} {f : Addr} {fd : FuncData} {CB : Addr}
section
variable {c : Addr} {A : Around} {outer : List Env} {s : Shared} {H0 : Hp} {E : XK} (F : LF P w K mg base G) (hr : Room 90 (XL P w K mg base f c A outer s H0 E).A)
include F hr
theorem st7 : ∃ t, PS (XL P w K mg base f c A outer s H0 E) (forB 7) t ∧ ∀ (D : Ends) (σ : L2.St) (H : Hp) (d e : T), Std K G σ H → DE K σ H d e → σ.length = 16 → wipe σ [14, 15] = σ → (∀ H', Ext G H H' → D.nx σ H') → t D σ H := by
  refine ⟨_, ps_if (pt_cmpR op_ne (pe_cl F.we (hr.mono (by omega)) rfl (pa_cons (pv 10) (pa_cons (pe_callTy (call_dictP rfl) (by rfl) F.dict (by decide +kernel) (pa_cons (pe_lc (own := [("sign", 14), ("many", 15)]) (g := gTup K 2 (gCons (gName 14) (gCons (gName 15) gNil))) (tt := tYes) rfl sc_law.nd (pi_list (pv 3)) (blkOk_by (N := NL) (sc := defScope s_law) (by decide +kernel)) (fun _ _ _ _ _ => pg_tup rfl (pgs_cons (pg_name (i := 14) sc_law.nd rfl (Or.inl rfl)) (pgs_cons (pg_name (i := 15) sc_law.nd rfl (Or.inl rfl)) pgs_nil))) (fun _ _ _ _ _ => pts_nil) (fun _ _ _ _ _ => pe_tup (pa_cons (pv 14) (pa_cons pe_int pa_nil)))) pa_nil)) (pa_cons pe_int pa_nil)))) (pe_cl F.si (hr.mono (by omega)) rfl (pa_cons (pv 10) pa_nil)) (nomark _)) (pss_one (ps_ret pe_bl)) pss_nil, fun D σ H d e z y hl hw fin => ?_⟩
  have tG := z.tG
  obtain ⟨vt, t1, t2⟩ := z.t
  obtain ⟨v, v1, v2⟩ := y.vd
  obtain ⟨o1, o2⟩ := ones_size y.dd
  have ed : Ed G K (tVar 10) σ H (enc d) := ed_var tG v1 v2
  have lst : Ed G K (tLc (iList K (tVar 3)) (gTup K 2 (gCons (gName 14) (gCons (gName 15) gNil))) tYes (tTup (tCons (tVar 14) (tCons (tC (.int 1)) tNil))) [14, 15]) σ H (encR ONES) := by
    have h := ed_lcLP (K := K) (G := G) (σ := σ) (H := H) (te := tVar 3) (tb := tTup (tCons (tVar 14) (tCons (tC (.int 1)) tNil))) (i := 14) (j := 15) (vs := [14, 15]) (ps := TB4.map fun p => (PyData.str p.1, PyData.int p.2)) (g := fun q => PyData.tuple [q.1, .int 1]) tG (by decide)
      (ed_is (ed_var tG t1 t2) (by rw [List.map_map]; rfl)) (by decide) (by decide) (fun q hq => by
        obtain ⟨p, _, rfl⟩ := List.mem_map.mp hq
        rfl) (fun q v u H1 hq x1 tt r1 r2 => ed_tup tt (ed_cons tt (ed_var tt (by
          rw [hw, List.getElem?_set_ne (by decide), List.getElem?_set_self (by rw [hl]; decide)]) r1) (ed_one ed_int)) (by show 2 ≤ sizeLine; decide))
    exact ed_is h (by rw [List.map_map]; rfl)
  refine s_if (b := false) (edt_is (edt_test (ed_op tG (ea_call tG (ea_cons tG (edx_of ed) (ea_cons tG (edx_dictP mg_ONES lst) (ea_one (edx_of ed_int)))) ⟨d, ONES, 1, rfl, y.gd.f.o, o2, y.gd.f.d, rfl⟩) (ea_call tG (ea_one (edx_of ed)) ⟨d, rfl, y.gd.f.o, y.gd.f.d, rfl⟩) rd_neI)) ?_) (fun h => by cases h) fun _ H' x => fin H' x
  rw [o1]
  simp
end
end
end Rh
set_option Elab.async false
set_option linter.all false
set_option maxRecDepth 100000
set_option maxHeartbeats 1000000
namespace Rh
open PySem PySem.Spec PyProof.Rows L2 GxR Gx Dl
def tStrs : List Str → TA
  | [] => tNil
  | x :: r => tCons (tC (.str x)) (tStrs r)
theorem tStrs_run {σ : L2.St} {H : Hp} : ∀ (xs : List Str) {Q : List V → Hp → Prop}, Q (xs.map V.str) H → tStrs xs σ H Q
  | [], _, q => q
  | x :: r, Q, q => by
    show tStrs r σ H fun vs H2 => Q (V.str x :: vs) H2
    exact tStrs_run r q
theorem tcall3a {σ : L2.St} {H : Hp} {sp : Sp} {te tf tg : TE} {v u : V} {Q : VK} {E : XK} (h1 : ∀ Q : VK, Q v H → te σ H Q) (h2 : ∀ Q : VK, Q u H → tf σ H Q) (h : tg σ H fun w H' => sp ([v, u, w] ++ []) H' Q E) : tCall sp [] E (tCons te (tCons tf (tCons tg tNil))) σ H Q := h1 _ (h2 _ h)
/-- _law_term(dice, deep, [names]) -/
theorem rd_term {G : List Addr} {K : PySem.W.Frag} {σ : L2.St} {H : Hp} {D : Addr} {n d : Nat} {xs : List Str} {Q : VK} (tG : TabsG G H) (h4 : σ[4]? = some (some (.ref D))) (hD : DiceAt n H D) (hd : d < 9) (hn : n < 100000) (hx : xs.length ≤ 10)
    (q : ∀ v H' t, Ext (D :: G) H H' → DiceAt (n + cst d) H' D → Dp K H' v (enc t) → t.dp ≤ d → t.drawn xs → Q v H') :
    tCall (spTerm G K 9) [] (fun _ _ _ => False) (tCons (tVar 4) (tCons (tC (.int d)) (tCons (tLst (tStrs xs)) tNil))) σ H Q := by
  refine tcall3a (v := .ref D) (u := .int d) (fun Q q => ⟨_, h4, q⟩) (fun Q q => q) ?_
  refine tStrs_run xs ⟨by rw [List.length_map]; exact Nat.le_trans hx (by decide), fun Nm hN => ?_⟩
  obtain ⟨l, eD⟩ := hD.new
  have ne : Nm ≠ D := fun z => by rw [z, eD] at hN; cases hN
  have x1 : Ext G H (upd H Nm (.lst (xs.map V.str))) := Ext.new hN
  have small : ∀ k, k < 9 → cst k < 100000 := fun k hk => by
    have : k = 0 ∨ k = 1 ∨ k = 2 ∨ k = 3 ∨ k = 4 ∨ k = 5 ∨ k = 6 ∨ k = 7 ∨ k = 8 := by omega
    rcases this with h | h | h | h | h | h | h | h | h <;> subst h <;> decide
  have := small d hd
  rw [List.append_nil]
  exact ⟨tG.ext x1, D, Nm, d, n, xs, rfl, hd, by decide, by omega, hD.ext tG x1, ne, .lst (SqL.of upd_same) (dpA_strs xs), hx, fun v H' t x2 d2 rv h1 h2 => q v H' t (x1.wide.trans x2) d2 rv h1 h2⟩
end Rh
set_option Elab.async false
set_option linter.all false
set_option maxRecDepth 100000
set_option maxHeartbeats 1000000
namespace Rh
open PySem PySem.Spec PyProof.Rows L2 GxR Gx Dl
theorem cst3 : cst 3 = 30 := by decide
section
variable {P : Program} {w : World} {K : PySem.W.Frag} {mg : Str → Option Value} {base : Heap} {G : List Addr} {f : Addr} {fd : FuncData} {CB : Addr}
section
variable {c : Addr} {A : Around} {outer : List Env} {s : Shared} {H0 : Hp} {E : XK} (F : LF P w K mg base G) (hr : Room 90 (XL P w K mg base f c A outer s H0 E).A)
include F hr
theorem st4 : ∃ t, PS (XL P w K mg base f c A outer s H0 E) (forB 4) t ∧ ∀ (En : Ends) (σ : L2.St) (H : Hp) (D : Addr) (n : Nat), TabsG G H → σ[4]? = some (some (.ref D)) → DiceAt n H D → n < 90000 →
    (∀ v u H' d e, Ext (D :: G) H H' → DiceAt (n + 60) H' D → Dp K H' v (enc d) → Dp K H' u (enc e) → d.dp ≤ 3 → e.dp ≤ 3 → d.drawn [] → e.drawn [] → En.nx ((σ.set 10 (some v)).set 11 (some u)) H') → t En σ H := by
  refine ⟨_, ps_par (i := 10) (j := 11) (by rfl) sc_law.nd rfl rfl (by decide) rfl rfl (pa_cons (pe_cl F.te (hr.mono (by omega)) rfl (pa_cons (pv 4) (pa_cons pe_int (pa_cons (pe_lst pa_nil) pa_nil)))) (pa_cons (pe_cl F.te (hr.mono (by omega)) rfl (pa_cons (pv 4) (pa_cons pe_int (pa_cons (pe_lst pa_nil) pa_nil)))) pa_nil)) (by rfl), fun En σ H D n tG h4 hD hn q => ?_⟩
  refine rd_term (d := 3) (xs := []) tG h4 hD (by decide) (by omega) (by decide) fun v H1 d x1 d1 rv n1 dr1 => ?_
  have t1 := tG.wide x1
  obtain ⟨l, e1⟩ := d1.new
  refine rd_term (d := 3) (xs := []) t1 h4 d1 (by decide) (by rw [cst3]; omega) (by decide) fun u H2 e x2 d2 ru n2 dr2 => ?_
  refine ⟨v, u, rfl, q v u H2 d e (x1.trans x2) ?_ (dp_extD x2 t1 e1 (pu_enc d) rv) ru n1 n2 dr1 dr2⟩
  rw [cst3] at d2
  exact d2
end
end
end Rh
set_option Elab.async false
set_option linter.all false
set_option maxRecDepth 100000
set_option maxHeartbeats 1000000
namespace Rh
open PySem PySem.Spec PyProof.Rows L2 GxR Gx Dl
theorem merge_xy (v u : V) : mergeK [] [((.inr (st "x") : Key), v), (.inr (st "y"), u)] = [((.inr (st "x") : Key), v), (.inr (st "y"), u)] := by
  show putK (putK [] (Sum.inr (st "x") : Key) v) (Sum.inr (st "y") : Key) u = _
  rw [putK_new v (k := (.inr (st "x") : Key)) rfl]
  refine putK_new u ?_
  show valV [((.inr (st "x") : Key), v)] (.inr (st "y")) = none
  rw [valV_neg (fun z => xy_ne (by injection z))]
  rfl
theorem cst2 : cst 2 = 14 := by decide
theorem cst1 : cst 1 = 6 := by decide
section
variable {P : Program} {w : World} {K : PySem.W.Frag} {mg : Str → Option Value} {base : Heap} {G : List Addr} {f : Addr} {fd : FuncData} {CB : Addr}
section
variable {c : Addr} {A : Around} {outer : List Env} {s : Shared} {H0 : Hp} {E : XK} (F : LF P w K mg base G) (hr : Room 90 (XL P w K mg base f c A outer s H0 E).A)
include F hr
theorem st1 : ∃ t, PS (XL P w K mg base f c A outer s H0 E) (forB 1) t ∧ ∀ (En : Ends) (σ : L2.St) (H : Hp) (D : Addr) (n : Nat), TabsG G H → σ[4]? = some (some (.ref D)) → DiceAt n H D → n < 90000 →
    (∀ v H' p q, Ext (D :: G) H H' → DiceAt (n + 20) H' D → ArR K H' v (.k (encSub (sb p q))) → p.dp ≤ 2 → q.dp ≤ 1 → p.drawn [st "x"] → q.drawn [] → En.nx (σ.set 8 (some v)) H') → t En σ H := by
  refine ⟨_, ps_set (i := 8) sc_law.nd rfl (Or.inl rfl) (pe_disp (pps_cons pe_str (pe_cl F.te (hr.mono (by omega)) rfl (pa_cons (pv 4) (pa_cons pe_int (pa_cons (pe_lst (pa_cons pe_str pa_nil)) pa_nil)))) (pps_cons pe_str (pe_cl F.te (hr.mono (by omega)) rfl (pa_cons (pv 4) (pa_cons pe_int (pa_cons (pe_lst pa_nil) pa_nil)))) pps_nil)) (by rfl) (by rfl) (fun z => by cases z) (by decide)), fun En σ H D n tG h4 hD hn q => ?_⟩
  intro a ha
  have x0 : Ext G H (upd H a (.dK [])) := Ext.new ha
  have t0 := tG.ext x0
  have d0 := hD.ext tG x0
  obtain ⟨l0, e0⟩ := hD.new
  have na : a ≠ D := fun z => by rw [z, e0] at ha; cases ha
  have nG : ∀ {H1 : Hp} {o : HO}, TabsG G H1 → H1 a = some o → (∀ ps, o ≠ .tbl ps) → a ∉ D :: G := fun t e no z => by
    rcases List.mem_cons.mp z with z | z
    · exact na z
    · exact notTab t e no z
  refine rd_term (d := 2) (xs := [st "x"]) t0 h4 d0 (by decide) (by omega) (by decide) fun v H1 p x1 d1 rv n1 dr1 => ?_
  have t1 := t0.wide x1
  obtain ⟨l1, e1⟩ := d1.new
  have a1 : H1 a = some (.dK []) := x1.keep a (nG t0 upd_same (fun ps z => by cases z)) _ upd_same
  refine rd_term (d := 1) (xs := []) t1 h4 d1 (by decide) (by rw [cst2]; omega) (by decide) fun u H2 r x2 d2 ru n2 dr2 => ?_
  have t2 := t1.wide x2
  obtain ⟨l2, e2⟩ := d2.new
  have a2 : H2 a = some (.dK []) := x2.keep a (nG t1 a1 (fun ps z => by cases z)) _ a1
  have rv2 := dp_extD x2 t1 e1 (pu_enc p) rv
  refine ⟨a2, [((.inr (st "x") : Key), v), (.inr (st "y"), u)], rfl, (by show 2 ≤ 15; decide), ?_⟩
  rw [merge_xy]
  have k : ∀ {y : V} {t : T}, Dp K H2 y (enc t) → Dp K (upd H2 a (.dK [((.inr (st "x") : Key), v), (.inr (st "y"), u)])) y (enc t) := fun h => dp_tups (fun _ _ q => sqT_updD a2 q) (pu_enc _) h
  refine q _ _ p r ?_ ?_ ⟨a, _, rfl, upd_same, .cons (k rv2) (.cons (k ru) .nil)⟩ n1 n2 dr1 dr2
  · refine ⟨fun b nb o eb => ?_, fun P hP tb => ?_⟩
    · have ne : b ≠ a := ne_of_none eb ha
      rw [upd_ne ne]
      exact ((x0.wide).trans (x1.trans x2)).keep b nb o eb
    · have tb2 := ((x0.wide).trans (x1.trans x2)).tab P hP tb
      obtain ⟨ps, e, z⟩ := tb2
      have ne : P ≠ a := fun y => by rw [y, a2] at e; cases e
      exact ⟨ps, by rw [upd_ne ne]; exact e, z⟩
  · rw [cst2, cst1] at d2
    exact (DiceAt.upd d2 (fun z => na z.symm))
end
end
end Rh
set_option Elab.async false
set_option linter.all false
set_option maxRecDepth 100000
set_option maxHeartbeats 1000000
namespace Rh
open PySem PySem.Spec PyProof.Rows L2 GxR Gx Dl
section
variable {P : Program} {w : World} {K : PySem.W.Frag} {mg : Str → Option Value} {base : Heap} {G : List Addr} {f : Addr} {fd : FuncData} {CB : Addr}
section
variable {c : Addr} {A : Around} {outer : List Env} {s : Shared} {H0 : Hp} {E : XK} (F : LF P w K mg base G) (hr : Room 90 (XL P w K mg base f c A outer s H0 E).A)
include F hr
theorem st0 : ∃ t, PS (XL P w K mg base f c A outer s H0 E) (forB 0) t ∧ ∀ (En : Ends) (σ : L2.St) (H : Hp) (D : Addr) (n : Nat), TabsG G H → σ[4]? = some (some (.ref D)) → DiceAt n H D → n < 90000 →
    (∀ v1 v2 v3 H' a b c, Ext (D :: G) H H' → DiceAt (n + 90) H' D → Dp K H' v1 (enc a) → Dp K H' v2 (enc b) → Dp K H' v3 (enc c) → a.dp ≤ 3 → b.dp ≤ 3 → c.dp ≤ 3 → a.drawn XY → b.drawn XY → c.drawn XY → En.nx (((σ.set 5 (some v1)).set 6 (some v2)).set 7 (some v3)) H') → t En σ H := by
  refine ⟨_, ps_asg (pe_lc (own := [("k", 12)]) (g := gName 12) (tt := tYes) rfl sc_law.nd (pi_range1 rfl F.range (pa_cons pe_int pa_nil)) (blkOk_by (N := NL) (sc := defScope s_law) (by decide +kernel))
      (fun _ _ _ _ _ => pg_name (i := 12) sc_law.nd rfl (Or.inl rfl)) (fun _ _ _ _ _ => pts_nil) (fun _ _ _ _ _ => pe_cl F.te (hr.mono (by omega)) rfl (pa_cons (pv 4) (pa_cons pe_int (pa_cons (pe_lst (pa_cons pe_str (pa_cons pe_str pa_nil))) pa_nil)))))
    (pg_lst rfl (pgs_cons (pg_name (i := 5) sc_law.nd rfl (by first | exact Or.inl rfl | exact Or.inr rfl)) (pgs_cons (pg_name (i := 6) sc_law.nd rfl (by first | exact Or.inl rfl | exact Or.inr rfl)) (pgs_cons (pg_name (i := 7) sc_law.nd rfl (by first | exact Or.inl rfl | exact Or.inr rfl)) pgs_nil)))), fun En σ H D n tG h4 hD hn q => ?_⟩
  refine ⟨3, rfl, by decide, by decide, fun L hL => ?_⟩
  have x0 : Ext G H (upd H L (.lst [])) := Ext.new hL
  obtain ⟨l0, e0⟩ := hD.new
  have nL : L ≠ D := fun z => by rw [z, e0] at hL; cases hL
  refine lc_range (lo := 0) (n := 3) (fun i Hk => Ext (D :: G) H Hk ∧ DiceAt (n + 30 * i) Hk D ∧ ∃ (ts : List T) (vs : List V), Hk L = some (.lst vs) ∧ ts.length = i ∧ DpAll K Hk vs (ts.map enc) ∧ ∀ t ∈ ts, t.dp ≤ 3 ∧ t.drawn XY) ?_ ?_ ?_
  · exact ⟨x0.wide, (hD.ext tG x0).mono (by omega), [], [], upd_same, rfl, .nil, fun t h => by cases h⟩
  · rintro i Hk hi ⟨y1, dk, ts, vs, e1, e2, e3, e4⟩
    have tk := tG.wide y1
    refine ⟨wipe_set σ [12] 12 _ (List.mem_singleton.mpr rfl), ?_⟩
    dsimp only [tYes]
    refine iteT ?_
    have h4' : ((wipe σ [12]).set 12 (some (V.int (0 + (i : Int)))))[4]? = some (some (.ref D)) := by
      rw [List.getElem?_set_ne (by decide), wipe_at, if_neg (fun z => by simp at z)]
      exact h4
    refine rd_term (d := 3) (xs := XY) tk h4' dk (by decide) (by omega) (by decide) fun v H4 t x2 d2 rv n1 dr => ?_
    have nDG : L ∉ D :: G := fun z => by
      rcases List.mem_cons.mp z with z | z
      · exact nL z
      · exact notTab tk e1 (fun ps z => by cases z) z
    have eL : H4 L = some (.lst vs) := x2.keep L nDG _ e1
    obtain ⟨lk, ek⟩ := dk.new
    have len := dpA_len e3
    rw [List.length_map, e2] at len
    refine ⟨vs, eL, by rw [len]; exact Nat.lt_of_lt_of_le (show i < 10 by omega) (by decide), ⟨fun b nb o eb => ?_, fun P hP tb => ?_⟩, ?_, ts ++ [t], vs ++ [v], upd_same, by rw [List.length_append, e2]; rfl, ?_, fun t2 h2 => ?_⟩
    · rw [upd_ne (ne_of_none eb hL)]
      exact (y1.trans x2).keep b nb o eb
    · obtain ⟨ps, e, z⟩ := (y1.trans x2).tab P hP tb
      have ne : P ≠ L := fun y => by rw [y, eL] at e; cases e
      exact ⟨ps, by rw [upd_ne ne]; exact e, z⟩
    · rw [cst3] at d2
      exact (DiceAt.upd d2 (fun z => nL z.symm)).mono (by omega)
    · rw [List.map_append]
      refine dpA_tups (fun a xs q => sqT_upd eL q) (puA_all.mpr fun z hz => ?_) (dpA_app (dpA_tups (fun _ _ q => x2.sqTD tk ek q) (puA_all.mpr fun z hz => by
        obtain ⟨t', _, rfl⟩ := List.mem_map.mp hz
        exact pu_enc t') e3) (.cons rv .nil))
      rcases List.mem_append.mp hz with hz | hz
      · obtain ⟨t', _, rfl⟩ := List.mem_map.mp hz
        exact pu_enc t'
      · rw [List.mem_singleton.mp hz]
        exact pu_enc t
    · rcases List.mem_append.mp h2 with h | h
      · exact e4 t2 h
      · rw [List.mem_singleton.mp h]
        exact ⟨n1, dr⟩
  · rintro Hk ⟨y1, dk, ts, vs, e1, e2, e3, e4⟩
    match ts, e2, e3, e4 with
    | [a, b, c], _, e3, e4 =>
      obtain ⟨v1, v2, v3, rfl, r1, r2, r3⟩ := dpA_three e3
      have ha := e4 a (by simp)
      have hb := e4 b (by simp)
      have hc := e4 c (by simp)
      exact ⟨L, [v1, v2, v3], rfl, SqL.of e1, rfl, v1, [v2, v3], rfl, v2, [v3], rfl, v3, [], rfl, rfl, q v1 v2 v3 Hk a b c y1 dk r1 r2 r3 ha.1 hb.1 hc.1 ha.2 hb.2 hc.2⟩
end
end
end Rh
set_option Elab.async false
set_option linter.all false
set_option maxRecDepth 100000
set_option maxHeartbeats 1000000
namespace Rh
open PySem PySem.Spec PyProof.Rows L2 GxR Gx Dl
theorem lamExt {G : List Addr} {P : Addr} {q : Str} {H H1 : Hp} (m : LamMade P q H H1) : Ext (P :: G) H H1 := ⟨fun a n o e => m.keep a o (fun z => n (by rw [z]; exact List.mem_cons_self)) e, fun Q hQ t => by
  by_cases h : Q = P
  · obtain ⟨ps, e, tr, _⟩ := m.tab
    rw [h]
    exact ⟨ps, e, tr⟩
  · obtain ⟨ps, e, tr⟩ := t
    exact ⟨ps, m.keep Q _ h e, tr⟩⟩
theorem tcE {G : List Addr} {K : PySem.W.Frag} {σ : L2.St} {H : Hp} {tA : TA} {R : List Ar → Prop} {C : Addr} {E : XK} {Q : VK} {as : List Ar} (tG : TabsG G H) (h : EdXA G K tA σ H as) (hr : R as) (q : ∀ H', Ext G H H' → E (.ref C) none H') : tCall (spE G K R C) [] E tA σ H Q := h H (Ext.refl G H) _ fun vs H2 x2 rs => by
  show spE G K R C (vs ++ []) H2 Q E
  rw [List.append_nil]
  exact ⟨tG.ext x2, as, rs, hr, fun H3 x3 => q H3 (x2.trans x3)⟩
section
variable {P : Program} {w : World} {K : PySem.W.Frag} {mg : Str → Option Value} {base : Heap} {G : List Addr} {f g : Addr} {fd gd : FuncData} {CT CB CN CL Pl : Addr}
section
variable {c : Addr} {A : Around} {outer : List Env} {s : Shared} {H0 : Hp} {E : XK} (hr : Room 90 (XL P w K mg base f c A outer s H0 E).A)
include hr
theorem st12 (TB : LamX.TabB base mg c Pl) (hPl : Pl ∉ G) (D : DefF K mg base G "_law_told" s_told ["what"] g gd) (cx : ClX P w K mg base 80 "is_above" (spE G K R_aboveE CB)) (mT : mg "BadTerm" = some (.ref CT)) (mB : mg "BadRule" = some (.ref CB)) (mN : mg "NoWay" = some (.ref CN)) (mL : mg "TooLarge" = some (.ref CL))
    (e1 : PySem.W.exmOne K (.ref CB) (.ref CT) = some false) (e2 : PySem.W.exmOne K (.ref CB) (.ref CB) = some true) : ∃ t, PS (XL P w K mg base f c A outer s H0 E) (forB 12) t ∧
    ∀ (En : Ends) (σ : L2.St) (H : Hp), TabsG G H → LamX.TabS H Pl ((XL P w K mg base f c A outer s H0 E).env.qual ++ "<lambda>") → (∃ v, σ[1]? = some (some v) ∧ ArR K H v (.k (encT RK))) →
      (∀ H1 H2, LamMade Pl ((XL P w K mg base f c A outer s H0 E).env.qual ++ "<lambda>") H H1 → Ext G H1 H2 → En.nx σ H2) → t En σ H := by
  obtain ⟨t, h1, h2⟩ := lawB12 hr TB D cx mT mB mN mL e1 e2
  refine ⟨t, h1, fun En σ H tG tS ⟨v, hv, rv⟩ q => ?_⟩
  rw [h2]
  refine ⟨tS, fun H1 made => ?_⟩
  have t1 : TabsG G H1 := fun Q hQ => by
    obtain ⟨ps, e, tr⟩ := tG Q hQ
    exact ⟨ps, made.keep Q _ (fun z => hPl (z ▸ hQ)) e, tr⟩
  have tGP : TabsG (Pl :: G) H := fun Q hQ => by
    rcases List.mem_cons.mp hQ with z | z
    · obtain ⟨ps, e, tr, _⟩ := tS
      rw [z]
      exact ⟨ps, e, tr⟩
    · exact tG Q z
  have rv1 := ar_ext (lamExt (G := G) made) tGP rv
  have eA : EdXA G K (tCons (tTup (tCons (tC (.str (Str.ofString "k"))) (tCons (tTup tNil) tNil))) (tCons (tTup (tCons (tC (.str (Str.ofString "a"))) (tCons (tTup tNil) tNil))) (tCons (tVar 1) tNil))) σ H1 [.d (enc (.c (Str.ofString "k"))), .d (enc (.c (Str.ofString "a"))), .k (encT RK)] :=
    ea_cons t1 (edx_of (ed_tup t1 (ed_cons t1 ed_str (ed_one (ed_tup t1 ed_nil (by show 0 ≤ sizeLine; decide)))) (by show 2 ≤ sizeLine; decide))) (ea_cons t1 (edx_of (ed_tup t1 (ed_cons t1 ed_str (ed_one (ed_tup t1 ed_nil (by show 0 ≤ sizeLine; decide)))) (by show 2 ≤ sizeLine; decide))) (ea_one (edx_var t1 hv rv1)))
  refine tcE (R := R_aboveE) (C := CB) t1 eA rfl fun H3 x3 => ⟨rfl, ?_⟩
  refine ⟨rfl, ?_⟩
  refine ⟨false, by simp, ?_⟩
  exact q H1 H3 made x3
end
end
end Rh
set_option Elab.async false
set_option linter.all false
set_option maxRecDepth 100000
set_option maxHeartbeats 1000000
namespace Rh
open PySem PySem.Spec PyProof.Rows L2 GxR Gx Dl
/-- what stands through the loop: T is where the table's list stands -/
structure Lp (K : PySem.W.Frag) (G : List Addr) (Pl : Addr) (q : Str) (T : Addr) (σ : L2.St) (H : Hp) : Prop where
  tG : TabsG G H
  pl : Pl ∉ G
  tS : LamX.TabS H Pl q
  len : σ.length = 16
  no : wipe σ [12, 13, 14, 15] = σ
  r : ∃ v, σ[1]? = some (some v) ∧ ArR K H v (.k (encT RK))
  w : ∃ v, σ[2]? = some (some v) ∧ ArR K H v (.k (encT WT))
  t : σ[3]? = some (some (.ref T)) ∧ Dp K H (.ref T) (encR TB4)
theorem body_is : (match stL 1 with | .For _ _ body _ _ => body | _ => []) = [forB 0, forB 1, forB 2, forB 3, forB 4, forB 5, forB 6, forB 7, forB 8, forB 9, forB 10, forB 11, forB 12] := rfl
theorem wipe_sub {σ : L2.St} {i : Nat} (h : wipe σ [12, 13, 14, 15] = σ) (hi : i ∈ [12, 13, 14, 15]) : wipe σ [i] = σ := by
  apply List.ext_getElem?
  intro j
  rw [wipe_at]
  by_cases e : j ∈ [i] ∧ j < σ.length
  · rw [if_pos e]
    have ej := List.mem_singleton.mp e.1
    subst ej
    have := congrArg (fun s => s[j]?) h
    simp only [wipe_at, if_pos (And.intro hi e.2)] at this
    exact this
  · rw [if_neg e]
theorem wipe_none {σ : L2.St} {vs : List Nat} (h : ∀ i ∈ vs, i < σ.length → σ[i]? = some none) : wipe σ vs = σ := by
  apply List.ext_getElem?
  intro j
  rw [wipe_at]
  by_cases e : j ∈ vs ∧ j < σ.length
  · rw [if_pos e, h j e.1 e.2]
  · rw [if_neg e]
/-- the table of law under what a dice changes -/
theorem tabS_D {G : List Addr} {D Pl : Addr} {q : Str} {H H' : Hp} {l : List V} (x : Ext (D :: G) H H') (tG : TabsG G H) (hD : H D = some (.lst l)) (hp : Pl ∉ G) (t : LamX.TabS H Pl q) : LamX.TabS H' Pl q := by
  obtain ⟨ps, e, tr, k⟩ := t
  have nD : ∀ {b o}, H b = some o → o ≠ .lst l → b ≠ D := fun e n z => by
    rw [z, hD] at e
    exact n (Option.some.inj e).symm
  refine ⟨ps, x.keep Pl (fun z => ?_) _ e, tr, fun p cv h => ?_⟩
  · rcases List.mem_cons.mp z with z | z
    · exact nD e (fun y => by cases y) z
    · exact hp z
  · obtain ⟨c, ec, kc⟩ := k p cv h
    refine ⟨c, ec, x.keep c (fun z => ?_) _ kc⟩
    rcases List.mem_cons.mp z with z | z
    · refine nD kc (fun y => ?_) z
      unfold LamX.CodeO at y
      cases y
    · exact notTab tG kc LamX.codeO_ne z
end Rh
set_option Elab.async false
set_option linter.all false
set_option maxRecDepth 100000
set_option maxHeartbeats 1000000
namespace Rh
open PySem PySem.Spec PyProof.Rows L2 GxR Gx Dl
/-- but for the slots 5 to 11 -/
structure Same (σ σ' : L2.St) : Prop where
  len : σ'.length = σ.length
  at_ : ∀ i, (i < 5 ∨ 11 < i) → σ'[i]? = σ[i]?
theorem Same.refl (σ : L2.St) : Same σ σ := ⟨rfl, fun _ _ => rfl⟩
theorem Same.set {σ σ' : L2.St} (h : Same σ σ') {j : Nat} {x : Option V} (h1 : 5 ≤ j) (h2 : j ≤ 11) : Same σ (σ'.set j x) := ⟨by rw [List.length_set]; exact h.len, fun i hi => by
  rw [List.getElem?_set_ne (by omega)]
  exact h.at_ i hi⟩
theorem Same.wipe {σ σ' : L2.St} (h : Same σ σ') (hw : wipe σ [12, 13, 14, 15] = σ) : L2.wipe σ' [12, 13, 14, 15] = σ' := wipe_none fun i hi hl => by
  have big : 11 < i := by
    simp only [List.mem_cons, List.not_mem_nil, or_false] at hi
    omega
  rw [h.at_ i (.inr big)]
  have e := congrArg (fun s => s[i]?) hw
  simp only [wipe_at] at e
  rw [if_pos ⟨hi, by rw [← h.len]; exact hl⟩] at e
  exact e.symm
theorem Lp.move {K : PySem.W.Frag} {G : List Addr} {Pl T D : Addr} {q : Str} {σ σ' : L2.St} {H H' : Hp} {l : List V} (z : Lp K G Pl q T σ H) (s : Same σ σ') (x : Ext (D :: G) H H') (hD : H D = some (.lst l)) (hT : T ≠ D) : Lp K G Pl q T σ' H' := by
  obtain ⟨tG, pl, tS, len, no, ⟨r, r1, r2⟩, ⟨w, w1, w2⟩, t1, t2⟩ := z
  have pu : ∀ m : Tb, ∀ e ∈ encT m, Pu e.2 = true := fun m e he => by
    obtain ⟨p, _, rfl⟩ := List.mem_map.mp he
    rfl
  refine ⟨tG.wide x, pl, tabS_D x tG hD pl tS, s.len.trans len, s.wipe no, ⟨r, (s.at_ 1 (.inl (by decide))).trans r1, ar_extD x tG hD (pu RK) r2⟩, ⟨w, (s.at_ 2 (.inl (by decide))).trans w1, ar_extD x tG hD (pu WT) w2⟩, (s.at_ 3 (.inl (by decide))).trans t1, ?_⟩
  exact dp_lstD x tG hD hT (by decide +kernel) t2
theorem Lp.std {K : PySem.W.Frag} {G : List Addr} {Pl T : Addr} {q : Str} {σ : L2.St} {H : Hp} (z : Lp K G Pl q T σ H) : Std K G σ H := ⟨z.tG, z.r, z.w, ⟨_, z.t.1, z.t.2⟩⟩
end Rh
set_option Elab.async false
set_option linter.all false
set_option maxRecDepth 100000
set_option maxHeartbeats 1000000
namespace Rh
open PySem PySem.Spec PyProof.Rows L2 GxR Gx Dl
theorem drawn_closed {t : T} : t.drawn [] → t.closed := by
  induction t with
  | v x => exact fun h => by cases h
  | c s => exact fun _ => True.intro
  | u s t ih => exact fun h => ih h.2
  | b s t r i1 i2 => exact fun h => ⟨i1 h.2.1, i2 h.2.2⟩
section
variable {P : Program} {w : World} {K : PySem.W.Frag} {mg : Str → Option Value} {base : Heap} {G : List Addr} {f g : Addr} {fd gd : FuncData} {CT CB CN CL Pl : Addr}
section
variable {c : Addr} {A : Around} {outer : List Env} {s : Shared} {H0 : Hp} {E : XK} (F : LF P w K mg base G) (hr : Room 90 (XL P w K mg base f c A outer s H0 E).A)
include F hr
theorem round (TB : LamX.TabB base mg c Pl) (hPl : Pl ∉ G) (Dt : DefF K mg base G "_law_told" s_told ["what"] g gd) (cx : ClX P w K mg base 80 "is_above" (spE G K R_aboveE CB)) (mT : mg "BadTerm" = some (.ref CT)) (mB : mg "BadRule" = some (.ref CB)) (mN : mg "NoWay" = some (.ref CN)) (mL : mg "TooLarge" = some (.ref CL))
    (e1 : PySem.W.exmOne K (.ref CB) (.ref CT) = some false) (e2 : PySem.W.exmOne K (.ref CB) (.ref CB) = some true) :
    ∃ t, PSs (XL P w K mg base f c A outer s H0 E) [forB 0, forB 1, forB 2, forB 3, forB 4, forB 5, forB 6, forB 7, forB 8, forB 9, forB 10, forB 11, forB 12] t ∧
    ∀ (En : Ends) (σ : L2.St) (H : Hp) (D T : Addr), Lp K G Pl ((XL P w K mg base f c A outer s H0 E).env.qual ++ "<lambda>") T σ H → σ[4]? = some (some (.ref D)) → DiceAt 1100 H D → T ≠ D →
      (∀ σ' H1 H2 H3, Same σ σ' → Ext (D :: G) H H1 → LamMade Pl ((XL P w K mg base f c A outer s H0 E).env.qual ++ "<lambda>") H1 H2 → Ext G H2 H3 → En.nx σ' H3) → t En σ H := by
  obtain ⟨t0, h0, r0⟩ := st0 F hr
  obtain ⟨t1, h1, r1⟩ := st1 F hr
  obtain ⟨t2, h2, r2⟩ := st2 F hr
  obtain ⟨t3, h3, r3⟩ := st3 F hr
  obtain ⟨t4, h4, r4⟩ := st4 F hr
  obtain ⟨t5, h5, r5⟩ := st5 F hr
  obtain ⟨t6, h6, r6⟩ := st6 F hr
  obtain ⟨t7, h7, r7⟩ := st7 F hr
  obtain ⟨t8, h8, r8⟩ := st8 F hr
  obtain ⟨t9, h9, r9⟩ := st9 F hr
  obtain ⟨t10, h10, r10⟩ := st10 F hr
  obtain ⟨t11, h11, r11⟩ := st11 F hr
  obtain ⟨t12, h12, r12⟩ := st12 hr TB hPl Dt cx mT mB mN mL e1 e2
  refine ⟨_, pss_cons h0 (pss_cons h1 (pss_cons h2 (pss_cons h3 (pss_cons h4 (pss_cons h5 (pss_cons h6 (pss_cons h7 (pss_cons h8 (pss_cons h9 (pss_cons h10 (pss_cons h11 (pss_one h12)))))))))))), fun En σ H D T z s4 hD hT q => ?_⟩
  refine r0 _ σ H D 1100 z.tG s4 hD (by decide) fun v1 v2 v3 Ha a b c' xa da ra rb rc na nb nc dra drb drc => ?_
  have sa : Same σ (((σ.set 5 (some v1)).set 6 (some v2)).set 7 (some v3)) := (((Same.refl σ).set (by decide) (by decide)).set (by decide) (by decide)).set (by decide) (by decide)
  have ta := z.tG.wide xa
  obtain ⟨la, ea⟩ := da.new
  obtain ⟨l0, e0⟩ := hD.new
  refine r1 _ _ Ha D (1100 + 90) ta ((sa.at_ 4 (.inl (by decide))).trans s4) da (by decide) fun vth Hb p q' xb db rth np nq dp dq => ?_
  have sb' : Same σ ((((σ.set 5 (some v1)).set 6 (some v2)).set 7 (some v3)).set 8 (some vth)) := sa.set (by decide) (by decide)
  have xab := xa.trans xb
  have zb := z.move sb' xab e0 hT
  have lσ := z.len
  have abc : ABC K G ((((σ.set 5 (some v1)).set 6 (some v2)).set 7 (some v3)).set 8 (some vth)) Hb a b c' p q' := by
    refine ⟨zb.tG, zb.len, dra, drb, drc, drawn_mono (fun x hx => by rw [List.mem_singleton.mp hx]; exact List.mem_cons_self) dp, drawn_mono (fun x hx => by cases hx) dq, na, nb, nc, np, nq, ⟨v1, ?_, dp_extD xb ta ea (pu_enc a) ra⟩, ⟨v2, ?_, dp_extD xb ta ea (pu_enc b) rb⟩, ⟨v3, ?_, dp_extD xb ta ea (pu_enc c') rc⟩, ⟨vth, ?_, rth⟩⟩
    · simp [List.getElem?_set, lσ]
    · simp [List.getElem?_set, lσ]
    · simp [List.getElem?_set, lσ]
    · simp [List.getElem?_set, lσ]
  refine r2 _ _ Hb a b c' p q' abc fun σc Hc vh ec xc => ?_
  have sc : Same σ σc := by rw [ec]; exact sb'.set (by decide) (by decide)
  have xac := xab.trans xc.wide
  have zc := z.move sc xac e0 hT
  have abc2 : ABC K G σc Hc a b c' p q' := by rw [ec]; exact (abc.ext xc).set9 _
  have dc := db.ext zb.tG xc
  refine r3 _ _ Hc a b c' p q' abc2 zc.std (wipe_sub zc.no (by decide)) fun Hd xd => ?_
  have zd := z.move sc (xac.trans xd.wide) e0 hT
  have dd := dc.ext zc.tG xd
  refine r4 _ _ Hd D (1100 + 90 + 20) zd.tG ((sc.at_ 4 (.inl (by decide))).trans s4) dd (by decide) fun v u He d e xe de rd re nd ne drd dre => ?_
  have se : Same σ ((σc.set 10 (some v)).set 11 (some u)) := (sc.set (by decide) (by decide)).set (by decide) (by decide)
  have xae := (xac.trans xd.wide).trans xe
  have ze := z.move se xae e0 hT
  have vo : VarOk [] := fun x hx => by cases hx
  have lc := zc.len
  have DEe : ∀ {H'}, Ext G He H' → DE K ((σc.set 10 (some v)).set 11 (some u)) H' d e := fun x => ⟨drawn_good vo drd (by omega), drawn_good vo dre (by omega), drawn_closed drd, drawn_closed dre, drd, dre, ⟨v, by simp [List.getElem?_set, lc], dp_ext x ze.tG rd⟩, ⟨u, by simp [List.getElem?_set, lc], dp_ext x ze.tG re⟩⟩
  have std : ∀ {H'}, Ext G He H' → Std K G ((σc.set 10 (some v)).set 11 (some u)) H' := fun x => ze.std.ext x
  refine r5 _ _ He d e (std (Ext.refl G He)) (DEe (Ext.refl G He)) fun Hf xf => ?_
  refine r6 _ _ Hf d e (std xf) (DEe xf) fun Hg xg => ?_
  have y1 := xf.trans xg
  refine r7 _ _ Hg d e (std y1) (DEe y1) ze.len (wipe_none fun i hi hl => by
    have := congrArg (fun s => s[i]?) ze.no
    simp only [wipe_at] at this
    rw [if_pos ⟨by simp only [List.mem_cons, List.not_mem_nil, or_false] at hi ⊢; omega, hl⟩] at this
    exact this.symm) fun Hh xh => ?_
  have y2 := y1.trans xh
  refine r8 _ _ Hh (ze.tG.ext y2) fun Hi xi => ?_
  have y3 := y2.trans xi
  refine r9 _ _ Hi (std y3) fun Hj xj => ?_
  have y4 := y3.trans xj
  refine r10 _ _ Hj (std y4) fun Hk xk => ?_
  have y5 := y4.trans xk
  refine r11 _ _ Hk (std y5) fun Hl xl => ?_
  have y6 := y5.trans xl
  have zl := z.move se (xae.trans y6.wide) e0 hT
  exact r12 _ _ Hl zl.tG zl.tS zl.r fun H1 H2 made x => q _ Hl H1 H2 se (xae.trans y6.wide) made x
end
end
end Rh
set_option Elab.async false
set_option linter.all false
set_option maxRecDepth 100000
set_option maxHeartbeats 1000000
namespace Rh
open PySem PySem.Spec PyProof.Rows L2 GxR Gx Dl
/-- what law promises -/
def spLaw (G : List Addr) (K : PySem.W.Frag) (Pl : Addr) : Sp := fun vs H Q _ => ∃ (a : Addr) (ns : List Int), vs = [.ref a] ∧ SqL K H a (ns.map V.int) ∧ ns.length ≤ 63 ∧ (∀ z ∈ ns, z.natAbs.log2 < 2000000) ∧ TabsG G H ∧ H Pl = some (.tbl #[]) ∧ ∀ H', Q (.bl true) H'
theorem s_asgT {ta : TA} {g : TG} {u : TS} {D : Ends} {σ : L2.St} {H : Hp} (h : ta σ H fun vs H1 => vs.length ≤ sizeLine ∧ ∀ p, H1 p = none → g (.ref p) σ (upd H1 p (.tup vs)) (u D)) : tSeq (tAsg (tTup ta) g) u D σ H := h
theorem s_c1 {te : TE} {ta : TA} {σ : L2.St} {H : Hp} {Q : List V → Hp → Prop} (h : te σ H fun v H1 => ta σ H1 fun vs H2 => Q (v :: vs) H2) : tCons te ta σ H Q := h
theorem drop_get {α : Type} {l : List α} {i : Nat} {x : α} (h : l[i]? = some x) : l.drop i = x :: l.drop (i + 1) := by
  obtain ⟨h1, h2⟩ := List.getElem?_eq_some_iff.mp h
  rw [List.drop_eq_getElem_cons h1, h2]
section
variable {P : Program} {w : World} {K : PySem.W.Frag} {mg : Str → Option Value} {base : Heap} {G : List Addr} {f g : Addr} {fd gd : FuncData} {CT CB CN CL Pl c : Addr}
theorem Lp.made {T : Addr} {q : Str} {σ : L2.St} {H H' : Hp} (z : Lp K G Pl q T σ H) (m : LamX.TabS H Pl q → LamMade Pl q H H') : Lp K G Pl q T σ H' := by
  obtain ⟨tG, pl, tS, len, no, ⟨r, r1, r2⟩, ⟨w, w1, w2⟩, t1, t2⟩ := z
  have made := m tS
  have tGP : TabsG (Pl :: G) H := fun Q hQ => by
    rcases List.mem_cons.mp hQ with z | z
    · obtain ⟨ps, e, tr, _⟩ := tS
      rw [z]
      exact ⟨ps, e, tr⟩
    · exact tG Q z
  have x := lamExt (G := G) made
  exact ⟨fun Q hQ => by
    obtain ⟨ps, e, tr⟩ := tG Q hQ
    exact ⟨ps, made.keep Q _ (fun z => pl (z ▸ hQ)) e, tr⟩, pl, made.tab, len, no, ⟨r, r1, ar_ext x tGP r2⟩, ⟨w, w1, ar_ext x tGP w2⟩, t1, dp_ext x tGP t2⟩
theorem Lp.ext {T : Addr} {q : Str} {σ : L2.St} {H H' : Hp} (z : Lp K G Pl q T σ H) (x : Ext G H H') : Lp K G Pl q T σ H' := by
  obtain ⟨tG, pl, tS, len, no, ⟨r, r1, r2⟩, ⟨w, w1, w2⟩, t1, t2⟩ := z
  refine ⟨tG.ext x, pl, ?_, len, no, ⟨r, r1, ar_ext x tG r2⟩, ⟨w, w1, ar_ext x tG w2⟩, t1, dp_ext x tG t2⟩
  obtain ⟨ps, e, tr, k⟩ := tS
  refine ⟨ps, x.keep Pl pl _ e, tr, fun p cv h => ?_⟩
  obtain ⟨c, ec, kc⟩ := k p cv h
  exact ⟨c, ec, x.keep c (notTab tG kc LamX.codeO_ne) _ kc⟩
theorem Lp.set4 {T : Addr} {q : Str} {σ : L2.St} {H : Hp} (z : Lp K G Pl q T σ H) (v : Option V) : Lp K G Pl q T (σ.set 4 v) H := by
  obtain ⟨tG, pl, tS, len, no, ⟨r, r1, r2⟩, ⟨w, w1, w2⟩, t1, t2⟩ := z
  refine ⟨tG, pl, tS, by rw [List.length_set]; exact len, wipe_none fun i hi hl => ?_, ⟨r, by rw [List.getElem?_set_ne (by decide)]; exact r1, r2⟩, ⟨w, by rw [List.getElem?_set_ne (by decide)]; exact w1, w2⟩, by rw [List.getElem?_set_ne (by decide)]; exact t1, t2⟩
  have n4 : 4 ≠ i := fun e => by subst e; revert hi; decide
  rw [List.getElem?_set_ne n4]
  have e := congrArg (fun s => s[i]?) no
  simp only [wipe_at] at e
  rw [if_pos ⟨hi, by rw [List.length_set] at hl; exact hl⟩] at e
  exact e.symm
theorem ok_law (FL : FunC K "law" "law" s_law f fd c) (F : LF P w K mg base G) (TB : LamX.TabB base mg c Pl) (hPl : Pl ∉ G) (Dt : DefF K mg base G "_law_told" s_told ["what"] g gd) (cx : ClX P w K mg base 80 "is_above" (spE G K R_aboveE CB)) (mT : mg "BadTerm" = some (.ref CT)) (mB : mg "BadRule" = some (.ref CB)) (mN : mg "NoWay" = some (.ref CN)) (mL : mg "TooLarge" = some (.ref CL))
    (e1 : PySem.W.exmOne K (.ref CB) (.ref CT) = some false) (e2 : PySem.W.exmOne K (.ref CB) (.ref CB) = some true) : FnOk P w K mg base CX0 91 f fd ["script"] (spLaw G K Pl) := by
  obtain ⟨oc, od, kV, doc, pm, an, ct, osl, rfl, lk, hcd⟩ := FL.ex
  refine fn_of (k := 90) lk hcd sc_law (fun vs H Q E ⟨_, _, h, _⟩ => by rw [h]; rfl) fun A outer s H vs Q E hr hsp => ?_
  obtain ⟨a, ns, rfl, hS, h63, hb, tG, hP, q⟩ := hsp
  obtain ⟨t, ht, rt⟩ := round (A := A) (outer := outer) (s := s) (H0 := H) (E := E) (f := f) (c := c) F hr TB hPl Dt cx mT mB mN mL e1 e2
  refine ⟨_, PSs.nox (pss_cons (law0 hr) (pss_cons (ps_for PassesOwn.never rfl (pi_list (pe_cl F.ro (hr.mono (by omega)) rfl (pa_cons (pv 0) (pa_cons pe_int pa_nil)))) (pg_name (i := 4) sc_law.nd rfl (Or.inr rfl)) ht) (pss_one (ps_ret pe_bl)))), ?_⟩
  generalize eq : ((XL P w K mg base f c A outer s H E).env.qual ++ "<lambda>") = qn at *
  have tu : ∀ {H'} (s : Str) (i : Int), TabsG G H' → Ed G K (tTup (tCons (tC (.str s)) (tCons (tC (.int i)) tNil))) (start NL [.ref a]) H' (.tuple [.str s, .int i]) := fun s i t => ed_tup t (ed_cons t ed_str (ed_one ed_int)) (by show 2 ≤ sizeLine; decide)
  refine s_asgT (s_c1 ?_)
  refine edx_RK (G := G) (K := K) H (Ext.refl G H) _ fun v1 Ha xa r1 => ?_
  have ta := tG.ext xa
  refine s_c1 ?_
  refine edx_WT (G := G) (K := K) Ha (Ext.refl G Ha) _ fun v2 Hb xb r2 => ?_
  have tb := ta.ext xb
  have eA : EdA G K (tCons (tTup (tCons (tC (.str (Str.ofString "a"))) (tCons (tC (.int 0)) tNil))) (tCons (tTup (tCons (tC (.str (Str.ofString "b"))) (tCons (tC (.int 0)) tNil))) (tCons (tTup (tCons (tC (.str (Str.ofString "f"))) (tCons (tC (.int 2)) tNil))) (tCons (tTup (tCons (tC (.str (Str.ofString "g"))) (tCons (tC (.int 1)) tNil))) tNil)))) (start NL [.ref a]) Hb [.tuple [.str (st "a"), .int 0], .tuple [.str (st "b"), .int 0], .tuple [.str (st "f"), .int 2], .tuple [.str (st "g"), .int 1]] :=
    ed_cons tb (tu (st "a") 0 tb) (ed_cons tb (tu (st "b") 0 tb) (ed_cons tb (tu (st "f") 2 tb) (ed_one (tu (st "g") 1 tb))))
  refine s_c1 ?_
  refine eA Hb (Ext.refl G Hb) _ fun tvs Hc xc rs => ?_
  have lT : tvs.length = 4 := dpA_len rs
  refine ⟨by rw [lT]; decide, fun T nT => ?_⟩
  have tc := tb.ext xc
  have xd : Ext G Hc (upd Hc T (.lst tvs)) := Ext.new nT
  have r3 : Dp K (upd Hc T (.lst tvs)) (.ref T) (encR TB4) := dp_newL nT tc rs
  have eT : (upd Hc T (.lst tvs)) T = some (.lst tvs) := upd_same
  generalize upd Hc T (.lst tvs) = H1 at *
  have x1 := ((xa.trans xb).trans xc).trans xd
  have t1 := tG.ext x1
  have r1' := ar_ext ((xb.trans xc).trans xd) ta r1
  have r2' := ar_ext (xc.trans xd) tb r2
  refine ⟨by show 3 ≤ sizeLine; decide, fun p hp => ⟨p, [v1, v2, .ref T], rfl, .inl (.inl upd_same), rfl, v1, [v2, .ref T], rfl, v2, [.ref T], rfl, .ref T, [], rfl, rfl, ?_⟩⟩
  have x2 : Ext G H1 (upd H1 p (.tup [v1, v2, .ref T])) := Ext.new hp
  have t2 := t1.ext x2
  refine tcall2 (v := .ref a) (u := .int 4) (fun Q q => ⟨_, rfl, q⟩) (fun Q q => q) ?_
  refine ⟨t2, a, ns, rfl, (x1.trans x2).sqL tG hS, h63, hb, fun L ps H3 x3 eL nd hd => ?_⟩
  have x23 := x2.trans x3
  have x13 := x1.trans x23
  have t3 := tG.ext x13
  have e3 : H3 Pl = some (.tbl #[]) := x13.keep Pl hPl _ hP
  have eT3 := x23.at t1 eT (fun ps z => by cases z)
  refine ⟨L, rfl, ⟨_, SqL.of eL⟩, for_list (a := L) (xs := ps.map V.ref) (fun i σ' H' => Lp K G Pl qn T σ' H' ∧ H' L = some (.lst (ps.map V.ref)) ∧ H' T = some (.lst tvs) ∧ ∀ p ∈ ps.drop i, DiceAt 1100 H' p) ?_ (fun i σ' H' _ z => SqL.of z.2.1) ?_ ?_⟩
  · refine ⟨⟨t3, hPl, ⟨#[], e3, ?_, fun p cv h => ?_⟩, rfl, rfl, ⟨v1, rfl, ar_ext x23 t1 r1'⟩, ⟨v2, rfl, ar_ext x23 t1 r2'⟩, rfl, dp_ext x23 t1 r3⟩, eL, eT3, fun p hp => hd p hp⟩
    · trivial
    · cases h
  · rintro i v σ' H' hv ⟨z, eL', eT', hd'⟩
    rw [List.getElem?_map] at hv
    obtain ⟨D, hD, rfl⟩ := Option.map_eq_some_iff.mp hv
    have dr := drop_get hD
    have dD : DiceAt 1100 H' D := hd' D (by rw [dr]; exact List.mem_cons_self)
    have nD : D ∉ ps.drop (i + 1) := by
      have := nd.sublist (List.drop_sublist i ps)
      rw [dr] at this
      exact (List.nodup_cons.mp this).1
    obtain ⟨xa, xb, xc, eD, bD⟩ := id dD
    have hTD : T ≠ D := fun e => by
      rw [e, eD] at eT'
      cases eT'
      cases lT
    have hLD : L ≠ D := fun e => by
      rw [e, eD] at eL'
      match ps, hD, eL' with
      | [], hD, _ => cases hD
      | p :: r, _, eL' => cases eL'
    refine rt _ _ H' D T (z.set4 _) (List.getElem?_set_self (by rw [z.len]; decide)) dD hTD fun σ2 H4 H5 H6 sm y1 mk y2 => ?_
    have z1 := (z.set4 (some (.ref D))).move sm y1 eD hTD
    have z2 := z1.made (fun _ => mk)
    have z3 := z2.ext y2
    have kp : ∀ b l, H' b = some (.lst l) → b ≠ D → H6 b = some (.lst l) := fun b l e n => by
      have nG : b ∉ G := notTab z.tG e (fun ps z => by cases z)
      refine y2.keep b nG _ (mk.keep b _ (fun y => ?_) (y1.keep b (fun y => ?_) _ e))
      · obtain ⟨ps, eP, _⟩ := z.tS
        rw [y, eP] at e
        cases e
      · rcases List.mem_cons.mp y with y | y
        · exact n y
        · exact nG y
    refine ⟨z3, kp L _ eL' hLD, kp T _ eT' hTD, fun p hp => ?_⟩
    obtain ⟨x, y, u, e, b⟩ := hd' p (by rw [dr]; exact List.mem_cons_of_mem _ hp)
    exact ⟨x, y, u, kp p _ e (fun e => nD (e ▸ hp)), b⟩
  · rintro σ' H' ⟨z, _, _⟩
    exact q H'
end
end Rh
set_option Elab.async false
set_option linter.all false
set_option maxRecDepth 100000
set_option maxHeartbeats 2000000
/-! the end of a law whose defs hold tables of code objects -/
namespace Dl
open PySem PySem.Spec PyProof.Rows L2 GxR Gx LamX
abbrev tab0 : Obj := { cls := .none, data := .fields #[] }
def TabsOf (q : Program) (mg : Str → Option Value) (h : Heap) : Prop := ∀ d ∈ recsOf q, ∃ a o fd c P, mg d.name = some (.ref a) ∧ h.get? a = some o ∧ o.data = .func fd ∧ fd.code = .ref c ∧ h.IsCode c P #[] ∧ h.TableAt c P #[]
theorem walk_tabs {l : PySem.W.OpenLaw} {n k : Nat} {q : Program} {loose : List Str} {XP : (Str → Option Value) → Heap → Prop} {YP : World → Heap → Prop} {d : DefRec} {K : Params → PySem.W.Frag} {CX : World → CXT} {x : Str}
    (hn : l.most = some n) (hn2 : n ≤ sizeLine) (hdf : d.params.defaults = []) (hr : Room k callerA) (hY : ∀ (w : World) (h : Heap), YP w h → (K w.params).In h)
    (F : ∀ (w : World) (mg : Str → Option Value) (fa : Addr) (h : Heap), (K w.params).In h → h.Ns mainGlobals mg → mg d.name = some (.ref fa) → TabsOf q mg h → LawAtS l w (K w.params) (CX w) k n x mg fa h)
    (hCX : ∀ (w : World) (H : Hp) (s : Shared) (e : Value) (s' : Shared), CX w [] H s (fun _ _ _ => False) e s' → False) :
    PySem.W.WalkO q loose XP YP l.row.toRowW d [] (fun f vs => PySem.call f vs) := by
  refine Att.attach_callB hn hdf fun w s₀ s₁ mg mb fa o pm cd doc a vs ns G Y ho hd hcd hmg hobj hints hlen hbits hg => ?_
  have KX := hY w _ Y
  obtain ⟨fd, cs, sp, hT, nT, C, hb, hsp, hF⟩ := F w mg fa _ KX G.T.g hmg G.T.tab
  exact law_callTs KX G.T.g G.T.b G.T.builtins G.T.nolimit hg hT nT C G.T.bmain hobj hints (Nat.le_trans hlen hn2) hr hF hb (fun H hH hS => hsp H a ns hlen hbits hH hS) fun H e s' => hCX w H s₁ e s'
/-- no table is among what is written out -/
def noTabs (K : PySem.W.Frag) : Bool := K.all fun p => match p.2.data with
  | .fields vs => vs.size != 0
  | _ => true
theorem noTab {K : PySem.W.Frag} {h : Heap} {P : Addr} (X : K.In h) (n : noTabs K = true) (t : h.get? P = some tab0) : K.lookup P = none := by
  cases e : K.lookup P with
  | none => rfl
  | some o =>
    have e2 := X P o e
    rw [t] at e2
    cases e2
    have mem : ∀ (l : List (Addr × Obj)) {o : Obj}, l.lookup P = some o → (P, o) ∈ l := fun l => by
      induction l with
      | nil => intro o z; cases z
      | cons p r ih =>
        intro o z
        rw [List.lookup_cons] at z
        cases h : (P == p.1) with
        | true =>
          rw [h] at z
          cases z
          rw [beq_iff_eq.mp h]
          exact List.mem_cons_self
        | false =>
          rw [h] at z
          exact List.mem_cons_of_mem _ (ih z)
    have m : (P, tab0) ∈ K := mem K e
    have z := List.all_eq_true.mp n _ m
    simp at z
structure DefT (K : PySem.W.Frag) (mg : Str → Option Value) (h : Heap) (x : Str) (st : Stmt) (ps : List Str) (f : Addr) (fd : FuncData) (c P : Addr) : Prop where
  F : FunC K x x st f fd c
  b : Binds K fd ps []
  m : mg x = some (.ref f)
  C : PySem.W.CodeHd h c P
  T : h.get? P = some tab0
theorem defT_mk {q : Program} {K : PySem.W.Frag} {mg : Str → Option Value} {h : Heap} {x : Str} {st : Stmt} {ps : List Str} {f c P : Addr} {oc kV dc pm ct e : Value} {od an dd : Option Addr} {sl sl2 : Array (Option Value)} {vs : Array Value}
    (X : K.In h) (G : h.Ns mainGlobals mg) (T : TabsOf q mg h) (hr : ((recsOf q).any fun e => e.name == x) = true)
    (a : PySem.W.nsIn K mainGlobals x = some (some (.ref f))) (l : K.lookup f = some ⟨oc, od, .func (PySem.W.fnOf x x (defArgs st) (defBody st) (defScope st) .none kV dc pm an (.ref c) ct), sl⟩)
    (cc : PySem.W.codeIn K (.ref c) x = true) (k : PySem.W.keepIn K (.ref f) = true) (t : K.lookup c = some ⟨e, dd, .fields vs, sl2⟩) (p : vs[11]? = some (.ref P))
    (hb : ∀ us : List Value, us.length = ps.length → bindArgs (PySem.W.fnOf x x (defArgs st) (defBody st) (defScope st) .none kV dc pm an (.ref c) ct) ⟨us, []⟩ = pure (ps.zip us)) :
    DefT K mg h x st ps f (PySem.W.fnOf x x (defArgs st) (defBody st) (defScope st) .none kV dc pm an (.ref c) ct) c P := by
  have m := PySem.W.mg_of X G a
  obtain ⟨dL, hm, hn1⟩ := List.any_eq_true.mp hr
  have hn2 : dL.name = x := beq_iff_eq.mp hn1
  obtain ⟨a', o', fd', c', P', h1, h2, h3, h4, h5, h6⟩ := T dL hm
  rw [hn2, m] at h1
  cases h1
  have g1 := X _ _ l
  rw [g1] at h2
  cases h2
  cases h3
  cases h4
  have hd := PySem.W.CodeHd.of h5 h6
  obtain ⟨⟨oc', vc, e1, _, e3, e4⟩, hP⟩ := h6
  have g2 := X _ _ t
  rw [g2] at e1
  cases e1
  cases e3
  rw [p] at e4
  cases e4
  exact ⟨⟨⟨_, _, _, _, _, _, _, _, rfl, l, cc⟩, k⟩, .all hb, m, hd, hP⟩
theorem DefT.f {K : PySem.W.Frag} {mg : Str → Option Value} {h base : Heap} {x : Str} {st : Stmt} {ps : List Str} {f : Addr} {fd : FuncData} {c P : Addr} {G : List Addr} (D : DefT K mg h x st ps f fd c P) {cs : List (Addr × Addr)} (TB : ∀ p ∈ cs, LamX.TabB base mg p.1 p.2) (hc : (c, P) ∈ cs) (hG : P ∈ G) : DefF K mg base G x st ps f fd := by
  have t := TB _ hc
  exact ⟨⟨c, P, D.F, ⟨t.code, t.bm, t.gP⟩, hG⟩, D.b, D.m⟩
/-- is an error of the class at S what «except C» names -/
theorem exm_mk {K : PySem.W.Frag} {S C : Addr} {b : Bool} (h1 : PySem.W.subIn K (.ref C) (.type "BaseException") = some true) (h2 : PySem.W.isClsIn K C = true) (h3 : PySem.W.typeIn K (.ref C) = some (.type "type")) (h4 : PySem.W.subIn K (.ref S) (.ref C) = some b) :
    PySem.W.exmOne K (.ref S) (.ref C) = some b := by
  have e1 : (PySem.W.subIn K (.ref C) (.type "BaseException") == some true) = true := by rw [h1] <;> rfl
  have e2 : ((PySem.W.clsIn K C).isSome && PySem.W.typeIn K (.ref C) == some (.type "type")) = true := by
    have h2' : (PySem.W.clsIn K C).isSome = true := h2
    rw [h2', h3] <;> rfl
  show (if (PySem.W.subIn K (.ref C) (.type "BaseException") == some true) = true then (if ((PySem.W.clsIn K C).isSome && PySem.W.typeIn K (.ref C) == some (.type "type")) = true then PySem.W.subIn K (.ref S) (.ref C) else none) else none) = some b
  rw [if_pos e1, if_pos e2]
  exact h4
theorem log2_bits {z : Int} (h : Builtin.Int.intBits z ≤ 1048576) : z.natAbs.log2 < 2000000 := by
  unfold Builtin.Int.intBits at h
  split at h
  · rename_i e
    have e' : z = 0 := by simpa using e
    subst e'
    decide
  · omega
end Dl
set_option Elab.async false
set_option linter.all false
set_option maxRecDepth 100000
set_option maxHeartbeats 2000000
namespace Rh
open PySem PySem.Spec PyProof.Rows L2 GxR Gx Dl
theorem law_at {l : PySem.W.OpenLaw} {w : World} {K : PySem.W.Frag} {h : Heap} {mg : Str → Option Value} {fa CT CB CN CL : Addr} {f0 c0 P0 f1 c1 P1 f2 c2 P2 f3 c3 P3 f4 c4 P4 f5 c5 P5 f6 c6 P6 f7 c7 P7 f8 c8 P8 f9 c9 P9 f10 c10 P10 f11 c11 P11 f12 c12 P12 f13 c13 P13 f14 c14 P14 f15 c15 P15 f16 c16 P16 f17 c17 P17 f18 c18 P18 f19 c19 P19 : Addr} {d0 d1 d2 d3 d4 d5 d6 d7 d8 d9 d10 d11 d12 d13 d14 d15 d16 d17 d18 d19 : FuncData} (KX : K.In h) (hG : h.Ns mainGlobals mg) (hfa : mg "law" = some (.ref fa)) (nt : noTabs K = true)
    (D0 : DefT K mg h "is_variable" s_is_variable ["thing"] f0 d0 c0 P0)
    (D1 : DefT K mg h "variables" s_variables ["term"] f1 d1 c1 P1)
    (D2 : DefT K mg h "size" s_size ["term"] f2 d2 c2 P2)
    (D3 : DefT K mg h "uses" s_uses ["term", "name"] f3 d3 c3 P3)
    (D4 : DefT K mg h "places" s_places ["term"] f4 d4 c4 P4)
    (D5 : DefT K mg h "at" s_at ["term", "place"] f5 d5 c5 P5)
    (D6 : DefT K mg h "put" s_put ["term", "table"] f6 d6 c6 P6)
    (D7 : DefT K mg h "is_above" s_is_above ["one", "other", "ranks"] f7 d7 c7 P7)
    (D8 : DefT K mg h "rank_of" s_rank_of ["sign", "ranks"] f8 d8 c8 P8)
    (D9 : DefT K mg h "weight" s_weight ["term", "weights", "least"] f9 d9 c9 P9)
    (D10 : DefT K mg h "is_heavier" s_is_heavier ["one", "other", "weights", "least", "ranks"] f10 d10 c10 P10)
    (D11 : DefT K mg h "is_tower" s_is_tower ["one", "name"] f11 d11 c11 P11)
    (D12 : DefT K mg h "are_fit" s_are_fit ["table", "weights", "least", "ranks"] f12 d12 c12 P12)
    (D13 : DefT K mg h "_law_dice" s_dice ["cell"] f13 d13 c13 P13)
    (D14 : DefT K mg h "_law_roll" s_roll ["dice", "many"] f14 d14 c14 P14)
    (D15 : DefT K mg h "_law_rounds" s_rounds ["script", "most"] f15 d15 c15 P15)
    (D16 : DefT K mg h "_law_told" s_told ["what"] f16 d16 c16 P16)
    (D17 : DefT K mg h "_law_term" s_term ["dice", "deep", "names"] f17 d17 c17 P17)
    (D18 : DefT K mg h "_law_above" s_lawabove ["how", "one", "two"] f18 d18 c18 P18)
    (D19 : DefT K mg h "law" s_law ["script"] f19 d19 c19 P19)
    (n0 : P19 ≠ P0)
    (n1 : P19 ≠ P1)
    (n2 : P19 ≠ P2)
    (n3 : P19 ≠ P3)
    (n4 : P19 ≠ P4)
    (n5 : P19 ≠ P5)
    (n6 : P19 ≠ P6)
    (n7 : P19 ≠ P7)
    (n8 : P19 ≠ P8)
    (n9 : P19 ≠ P9)
    (n10 : P19 ≠ P10)
    (n11 : P19 ≠ P11)
    (n12 : P19 ≠ P12)
    (n13 : P19 ≠ P13)
    (n14 : P19 ≠ P14)
    (n15 : P19 ≠ P15)
    (n16 : P19 ≠ P16)
    (n17 : P19 ≠ P17)
    (n18 : P19 ≠ P18)
    (m_isinstance : mg "isinstance" = none)
    (m_str : mg "str" = none)
    (m_all : mg "all" = none)
    (m_sum : mg "sum" = none)
    (m_int : mg "int" = none)
    (m_tuple : mg "tuple" = none)
    (m_len : mg "len" = none)
    (m_any : mg "any" = none)
    (m_zip : mg "zip" = none)
    (m_sorted : mg "sorted" = none)
    (m_enumerate : mg "enumerate" = none)
    (m_abs : mg "abs" = none)
    (m_list : mg "list" = none)
    (m_range : mg "range" = none)
    (m_dict : mg "dict" = none)
    (gCT : mg "BadTerm" = some (.ref CT))
    (gCB : mg "BadRule" = some (.ref CB))
    (gCN : mg "NoWay" = some (.ref CN))
    (gCL : mg "TooLarge" = some (.ref CL))
    (kB : PySem.W.keepIn K (.ref CB) = true) (qB : PySem.W.excIn K CB [.type "ValueError", .type "Exception", .type "BaseException", .type "object"] "ValueError.__new__" = true) (s1 : PySem.W.subIn K (.ref CB) (.type "BaseException") = some true) (t1 : PySem.W.typeIn K (.ref CB) = some (.type "type"))
    (e1 : PySem.W.exmOne K (.ref CB) (.ref CT) = some false) (e2 : PySem.W.exmOne K (.ref CB) (.ref CB) = some true) (bl : ∀ (s : Shared) (u : Value), BindsTo s d19 ⟨[u], []⟩ [("script", u)]) :
    LamX.LawAtS l w K CX0 91 63 "script" mg fa h := by
  have ef := hfa.symm.trans D19.m
  cases ef
  have TC : ∀ p ∈ ([(c0, P0), (c1, P1), (c2, P2), (c3, P3), (c4, P4), (c5, P5), (c6, P6), (c7, P7), (c8, P8), (c9, P9), (c10, P10), (c11, P11), (c12, P12), (c13, P13), (c14, P14), (c15, P15), (c16, P16), (c17, P17), (c18, P18), (c19, P19)] : List (Addr × Addr)), PySem.W.CodeHd h p.1 p.2 ∧ h.get? p.2 = some tab0 := by
    intro p hp
    simp only [List.mem_cons, List.not_mem_nil, or_false] at hp
    rcases hp with e | e | e | e | e | e | e | e | e | e | e | e | e | e | e | e | e | e | e | e
    · rw [e]; exact ⟨D0.C, D0.T⟩
    · rw [e]; exact ⟨D1.C, D1.T⟩
    · rw [e]; exact ⟨D2.C, D2.T⟩
    · rw [e]; exact ⟨D3.C, D3.T⟩
    · rw [e]; exact ⟨D4.C, D4.T⟩
    · rw [e]; exact ⟨D5.C, D5.T⟩
    · rw [e]; exact ⟨D6.C, D6.T⟩
    · rw [e]; exact ⟨D7.C, D7.T⟩
    · rw [e]; exact ⟨D8.C, D8.T⟩
    · rw [e]; exact ⟨D9.C, D9.T⟩
    · rw [e]; exact ⟨D10.C, D10.T⟩
    · rw [e]; exact ⟨D11.C, D11.T⟩
    · rw [e]; exact ⟨D12.C, D12.T⟩
    · rw [e]; exact ⟨D13.C, D13.T⟩
    · rw [e]; exact ⟨D14.C, D14.T⟩
    · rw [e]; exact ⟨D15.C, D15.T⟩
    · rw [e]; exact ⟨D16.C, D16.T⟩
    · rw [e]; exact ⟨D17.C, D17.T⟩
    · rw [e]; exact ⟨D18.C, D18.T⟩
    · rw [e]; exact ⟨D19.C, D19.T⟩
  refine ⟨d19, [(c0, P0), (c1, P1), (c2, P2), (c3, P3), (c4, P4), (c5, P5), (c6, P6), (c7, P7), (c8, P8), (c9, P9), (c10, P10), (c11, P11), (c12, P12), (c13, P13), (c14, P14), (c15, P15), (c16, P16), (c17, P17), (c18, P18), (c19, P19)], spLaw [P0, P1, P2, P3, P4, P5, P6, P7, P8, P9, P10, P11, P12, P13, P14, P15, P16, P17, P18] K P19, fun p hp => (TC p hp).2, fun p hp => noTab KX nt (TC p hp).2, fun p hp => (TC p hp).1, bl, fun H a ns hl hb hT hS => ?_, fun base KB BN TB => ?_⟩
  · refine ⟨a, ns, rfl, hS, hl, fun z hz => log2_bits (hb z hz), fun P hP => ?_, hT (c19, P19) (by simp), fun _ => rfl⟩
    simp only [List.mem_cons, List.not_mem_nil, or_false] at hP
    rcases hP with e | e | e | e | e | e | e | e | e | e | e | e | e | e | e | e | e | e | e
    · exact ⟨#[], e ▸ hT (c0, P0) (by simp), trivial⟩
    · exact ⟨#[], e ▸ hT (c1, P1) (by simp), trivial⟩
    · exact ⟨#[], e ▸ hT (c2, P2) (by simp), trivial⟩
    · exact ⟨#[], e ▸ hT (c3, P3) (by simp), trivial⟩
    · exact ⟨#[], e ▸ hT (c4, P4) (by simp), trivial⟩
    · exact ⟨#[], e ▸ hT (c5, P5) (by simp), trivial⟩
    · exact ⟨#[], e ▸ hT (c6, P6) (by simp), trivial⟩
    · exact ⟨#[], e ▸ hT (c7, P7) (by simp), trivial⟩
    · exact ⟨#[], e ▸ hT (c8, P8) (by simp), trivial⟩
    · exact ⟨#[], e ▸ hT (c9, P9) (by simp), trivial⟩
    · exact ⟨#[], e ▸ hT (c10, P10) (by simp), trivial⟩
    · exact ⟨#[], e ▸ hT (c11, P11) (by simp), trivial⟩
    · exact ⟨#[], e ▸ hT (c12, P12) (by simp), trivial⟩
    · exact ⟨#[], e ▸ hT (c13, P13) (by simp), trivial⟩
    · exact ⟨#[], e ▸ hT (c14, P14) (by simp), trivial⟩
    · exact ⟨#[], e ▸ hT (c15, P15) (by simp), trivial⟩
    · exact ⟨#[], e ▸ hT (c16, P16) (by simp), trivial⟩
    · exact ⟨#[], e ▸ hT (c17, P17) (by simp), trivial⟩
    · exact ⟨#[], e ▸ hT (c18, P18) (by simp), trivial⟩
  have E0 := D0.f (G := [P0, P1, P2, P3, P4, P5, P6, P7, P8, P9, P10, P11, P12, P13, P14, P15, P16, P17, P18]) TB (by simp) (by simp)
  have E1 := D1.f (G := [P0, P1, P2, P3, P4, P5, P6, P7, P8, P9, P10, P11, P12, P13, P14, P15, P16, P17, P18]) TB (by simp) (by simp)
  have E2 := D2.f (G := [P0, P1, P2, P3, P4, P5, P6, P7, P8, P9, P10, P11, P12, P13, P14, P15, P16, P17, P18]) TB (by simp) (by simp)
  have E3 := D3.f (G := [P0, P1, P2, P3, P4, P5, P6, P7, P8, P9, P10, P11, P12, P13, P14, P15, P16, P17, P18]) TB (by simp) (by simp)
  have E4 := D4.f (G := [P0, P1, P2, P3, P4, P5, P6, P7, P8, P9, P10, P11, P12, P13, P14, P15, P16, P17, P18]) TB (by simp) (by simp)
  have E5 := D5.f (G := [P0, P1, P2, P3, P4, P5, P6, P7, P8, P9, P10, P11, P12, P13, P14, P15, P16, P17, P18]) TB (by simp) (by simp)
  have E6 := D6.f (G := [P0, P1, P2, P3, P4, P5, P6, P7, P8, P9, P10, P11, P12, P13, P14, P15, P16, P17, P18]) TB (by simp) (by simp)
  have E7 := D7.f (G := [P0, P1, P2, P3, P4, P5, P6, P7, P8, P9, P10, P11, P12, P13, P14, P15, P16, P17, P18]) TB (by simp) (by simp)
  have E8 := D8.f (G := [P0, P1, P2, P3, P4, P5, P6, P7, P8, P9, P10, P11, P12, P13, P14, P15, P16, P17, P18]) TB (by simp) (by simp)
  have E9 := D9.f (G := [P0, P1, P2, P3, P4, P5, P6, P7, P8, P9, P10, P11, P12, P13, P14, P15, P16, P17, P18]) TB (by simp) (by simp)
  have E10 := D10.f (G := [P0, P1, P2, P3, P4, P5, P6, P7, P8, P9, P10, P11, P12, P13, P14, P15, P16, P17, P18]) TB (by simp) (by simp)
  have E11 := D11.f (G := [P0, P1, P2, P3, P4, P5, P6, P7, P8, P9, P10, P11, P12, P13, P14, P15, P16, P17, P18]) TB (by simp) (by simp)
  have E12 := D12.f (G := [P0, P1, P2, P3, P4, P5, P6, P7, P8, P9, P10, P11, P12, P13, P14, P15, P16, P17, P18]) TB (by simp) (by simp)
  have E13 := D13.f (G := [P0, P1, P2, P3, P4, P5, P6, P7, P8, P9, P10, P11, P12, P13, P14, P15, P16, P17, P18]) TB (by simp) (by simp)
  have E14 := D14.f (G := [P0, P1, P2, P3, P4, P5, P6, P7, P8, P9, P10, P11, P12, P13, P14, P15, P16, P17, P18]) TB (by simp) (by simp)
  have E15 := D15.f (G := [P0, P1, P2, P3, P4, P5, P6, P7, P8, P9, P10, P11, P12, P13, P14, P15, P16, P17, P18]) TB (by simp) (by simp)
  have E16 := D16.f (G := [P0, P1, P2, P3, P4, P5, P6, P7, P8, P9, P10, P11, P12, P13, P14, P15, P16, P17, P18]) TB (by simp) (by simp)
  have E17 := D17.f (G := [P0, P1, P2, P3, P4, P5, P6, P7, P8, P9, P10, P11, P12, P13, P14, P15, P16, P17, P18]) TB (by simp) (by simp)
  have E18 := D18.f (G := [P0, P1, P2, P3, P4, P5, P6, P7, P8, P9, P10, P11, P12, P13, P14, P15, P16, P17, P18]) TB (by simp) (by simp)
  have iv := cl_iv (P := l.prog) (w := w) E0 m_isinstance m_str m_all
  have si := cl_size E2 iv m_sum 12
  have us := cl_uses E3 iv m_sum m_int 12
  have va := cl_variables E1 iv m_tuple m_sorted 12
  have rk := cl_rank (P := l.prog) (w := w) E8
  have we := cl_weight E9 iv m_sum 12
  have pu := cl_put E6 iv m_tuple 12
  have tw := cl_tower E11 iv m_len
  have at_ := cl_at E5 iv m_len
  have pl := cl_places E4 iv m_tuple m_enumerate 12
  have ia := cl_above E7 iv va rk m_any m_all m_zip m_len 24
  have ih := cl_heavier E10 iv va us we tw rk m_any m_zip 24
  have fi := cl_fit (P := l.prog) (w := w) E12 m_any
  have di := cl_dice (P := l.prog) (w := w) E13 m_abs m_int
  have rl := cl_roll (P := l.prog) (w := w) E14 m_int
  have ro := cl_rounds (K := K) E15 di
  have te := cl_term (K := K) E17 rl m_list m_len 9
  have la := cl_lawabove E18 ia ih
  have rx := clx_rank (P := l.prog) (w := w) E8 gCB kB fun {X m j p p2 pos} eK em hg => pmk_own PySem.F.excBase_ValueError (by rw [eK]; exact qB) (by rw [em]; exact gCB) (by rw [eK]; exact kB) (raises_own (by rw [eK]; exact s1) (by rw [eK]; exact t1)) hg
  have cx := clx_above E7 iv ia rk rx m_any m_all
  exact ok_law D19.F ⟨ro, te, la, pu, pl, ia, at_, ih, we, si, tw, fi, m_range, m_dict⟩ (TB (c19, P19) (by simp)) (by simp [n0, n1, n2, n3, n4, n5, n6, n7, n8, n9, n10, n11, n12, n13, n14, n15, n16, n17, n18]) E16 cx gCT gCB gCN gCL e1 e2
end Rh
open PySem PySem.W PyProof.Rows
set_option Elab.async false
set_option maxRecDepth 100000 in
set_option maxHeartbeats 0 in
theorem PySem.Challenge.cw_rewritehall_k08_orders_that_end_holds : PySem.Challenge.rw_rewritehall_k08_orders_that_end.Holds := by
  w_on; o_law; k_head; (case hw => w_witness2)
  k_fill
  refine Dl.walk_tabs (l := PySem.Challenge.rw_rewritehall_k08_orders_that_end) (n := 63) (k := 91) (x := "script") (CX := fun _ => L2.CX0) rfl (by decide) rfl ⟨rfl, by decide, by decide⟩ (fun w h Y => PySem.W.km_in_of Y) ?F fun _ _ _ _ _ z => z
  case F =>
    intro w mg fa h KX G hmg T
    have D0 := Dl.defT_mk (x := "is_variable") (st := Rh.s_is_variable) (ps := ["thing"]) KX G T (by kernel_rfl) (by k_is) (by k_is) (by k_is) (by k_is) (by k_is) (by rfl) fun us hl => match us, hl with | [_], _ => rfl
    have D1 := Dl.defT_mk (x := "variables") (st := Rh.s_variables) (ps := ["term"]) KX G T (by kernel_rfl) (by k_is) (by k_is) (by k_is) (by k_is) (by k_is) (by rfl) fun us hl => match us, hl with | [_], _ => rfl
    have D2 := Dl.defT_mk (x := "size") (st := Rh.s_size) (ps := ["term"]) KX G T (by kernel_rfl) (by k_is) (by k_is) (by k_is) (by k_is) (by k_is) (by rfl) fun us hl => match us, hl with | [_], _ => rfl
    have D3 := Dl.defT_mk (x := "uses") (st := Rh.s_uses) (ps := ["term", "name"]) KX G T (by kernel_rfl) (by k_is) (by k_is) (by k_is) (by k_is) (by k_is) (by rfl) fun us hl => match us, hl with | [_, _], _ => rfl
    have D4 := Dl.defT_mk (x := "places") (st := Rh.s_places) (ps := ["term"]) KX G T (by kernel_rfl) (by k_is) (by k_is) (by k_is) (by k_is) (by k_is) (by rfl) fun us hl => match us, hl with | [_], _ => rfl
    have D5 := Dl.defT_mk (x := "at") (st := Rh.s_at) (ps := ["term", "place"]) KX G T (by kernel_rfl) (by k_is) (by k_is) (by k_is) (by k_is) (by k_is) (by rfl) fun us hl => match us, hl with | [_, _], _ => rfl
    have D6 := Dl.defT_mk (x := "put") (st := Rh.s_put) (ps := ["term", "table"]) KX G T (by kernel_rfl) (by k_is) (by k_is) (by k_is) (by k_is) (by k_is) (by rfl) fun us hl => match us, hl with | [_, _], _ => rfl
    have D7 := Dl.defT_mk (x := "is_above") (st := Rh.s_is_above) (ps := ["one", "other", "ranks"]) KX G T (by kernel_rfl) (by k_is) (by k_is) (by k_is) (by k_is) (by k_is) (by rfl) fun us hl => match us, hl with | [_, _, _], _ => rfl
    have D8 := Dl.defT_mk (x := "rank_of") (st := Rh.s_rank_of) (ps := ["sign", "ranks"]) KX G T (by kernel_rfl) (by k_is) (by k_is) (by k_is) (by k_is) (by k_is) (by rfl) fun us hl => match us, hl with | [_, _], _ => rfl
    have D9 := Dl.defT_mk (x := "weight") (st := Rh.s_weight) (ps := ["term", "weights", "least"]) KX G T (by kernel_rfl) (by k_is) (by k_is) (by k_is) (by k_is) (by k_is) (by rfl) fun us hl => match us, hl with | [_, _, _], _ => rfl
    have D10 := Dl.defT_mk (x := "is_heavier") (st := Rh.s_is_heavier) (ps := ["one", "other", "weights", "least", "ranks"]) KX G T (by kernel_rfl) (by k_is) (by k_is) (by k_is) (by k_is) (by k_is) (by rfl) fun us hl => match us, hl with | [_, _, _, _, _], _ => rfl
    have D11 := Dl.defT_mk (x := "is_tower") (st := Rh.s_is_tower) (ps := ["one", "name"]) KX G T (by kernel_rfl) (by k_is) (by k_is) (by k_is) (by k_is) (by k_is) (by rfl) fun us hl => match us, hl with | [_, _], _ => rfl
    have D12 := Dl.defT_mk (x := "are_fit") (st := Rh.s_are_fit) (ps := ["table", "weights", "least", "ranks"]) KX G T (by kernel_rfl) (by k_is) (by k_is) (by k_is) (by k_is) (by k_is) (by rfl) fun us hl => match us, hl with | [_, _, _, _], _ => rfl
    have D13 := Dl.defT_mk (x := "_law_dice") (st := Rh.s_dice) (ps := ["cell"]) KX G T (by kernel_rfl) (by k_is) (by k_is) (by k_is) (by k_is) (by k_is) (by rfl) fun us hl => match us, hl with | [_], _ => rfl
    have D14 := Dl.defT_mk (x := "_law_roll") (st := Rh.s_roll) (ps := ["dice", "many"]) KX G T (by kernel_rfl) (by k_is) (by k_is) (by k_is) (by k_is) (by k_is) (by rfl) fun us hl => match us, hl with | [_, _], _ => rfl
    have D15 := Dl.defT_mk (x := "_law_rounds") (st := Rh.s_rounds) (ps := ["script", "most"]) KX G T (by kernel_rfl) (by k_is) (by k_is) (by k_is) (by k_is) (by k_is) (by rfl) fun us hl => match us, hl with | [_, _], _ => rfl
    have D16 := Dl.defT_mk (x := "_law_told") (st := Rh.s_told) (ps := ["what"]) KX G T (by kernel_rfl) (by k_is) (by k_is) (by k_is) (by k_is) (by k_is) (by rfl) fun us hl => match us, hl with | [_], _ => rfl
    have D17 := Dl.defT_mk (x := "_law_term") (st := Rh.s_term) (ps := ["dice", "deep", "names"]) KX G T (by kernel_rfl) (by k_is) (by k_is) (by k_is) (by k_is) (by k_is) (by rfl) fun us hl => match us, hl with | [_, _, _], _ => rfl
    have D18 := Dl.defT_mk (x := "_law_above") (st := Rh.s_lawabove) (ps := ["how", "one", "two"]) KX G T (by kernel_rfl) (by k_is) (by k_is) (by k_is) (by k_is) (by k_is) (by rfl) fun us hl => match us, hl with | [_, _, _], _ => rfl
    have D19 := Dl.defT_mk (x := "law") (st := Rh.s_law) (ps := ["script"]) KX G T (by kernel_rfl) (by k_is) (by k_is) (by k_is) (by k_is) (by k_is) (by rfl) fun us hl => match us, hl with | [_], _ => rfl
    refine' Rh.law_at (l := PySem.Challenge.rw_rewritehall_k08_orders_that_end) KX G hmg (by kernel_rfl) D0 D1 D2 D3 D4 D5 D6 D7 D8 D9 D10 D11 D12 D13 D14 D15 D16 D17 D18 D19 (by decide) (by decide) (by decide) (by decide) (by decide) (by decide) (by decide) (by decide) (by decide) (by decide) (by decide) (by decide) (by decide) (by decide) (by decide) (by decide) (by decide) (by decide) (by decide) ?m0 ?m1 ?m2 ?m3 ?m4 ?m5 ?m6 ?m7 ?m8 ?m9 ?m10 ?m11 ?m12 ?m13 ?m14 ?gT ?gB ?gN ?gL ?kB ?qB ?s1 ?t1 (Dl.exm_mk ?x1 ?x2 ?x3 ?x4) (Dl.exm_mk ?s1 ?x5 ?t1 ?x6) (fun s u => .of_eq rfl)
    (case m0 => exact mg_none_of KX G (by k_is))
    (case m1 => exact mg_none_of KX G (by k_is))
    (case m2 => exact mg_none_of KX G (by k_is))
    (case m3 => exact mg_none_of KX G (by k_is))
    (case m4 => exact mg_none_of KX G (by k_is))
    (case m5 => exact mg_none_of KX G (by k_is))
    (case m6 => exact mg_none_of KX G (by k_is))
    (case m7 => exact mg_none_of KX G (by k_is))
    (case m8 => exact mg_none_of KX G (by k_is))
    (case m9 => exact mg_none_of KX G (by k_is))
    (case m10 => exact mg_none_of KX G (by k_is))
    (case m11 => exact mg_none_of KX G (by k_is))
    (case m12 => exact mg_none_of KX G (by k_is))
    (case m13 => exact mg_none_of KX G (by k_is))
    (case m14 => exact mg_none_of KX G (by k_is))
    (case gT => exact mg_of KX G (by k_is))
    (case gB => exact mg_of KX G (by k_is))
    (case gN => exact mg_of KX G (by k_is))
    (case gL => exact mg_of KX G (by k_is))
    (case kB => k_is); (case qB => kernel_rfl); (case s1 => k_is); (case t1 => k_is); (case x1 => k_is); (case x2 => k_is); (case x3 => k_is); (case x4 => k_is); (case x5 => k_is); (case x6 => k_is)
