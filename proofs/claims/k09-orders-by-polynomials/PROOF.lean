import PyProof.Rows.All
import Wide.All
import OpenK.AllK
import Wide.FinOn
import HandS.ForMost
import HandS.AnyAll
import HandS.GenOver
import HandS.DictComp
import HandS.TupAny
import HandS.Zip
import HandS.IsInst
import HandS.EndTab
import HandS.WordsExc
import HandS.TryMany
import HandS.ExcOwn
import KE.GoesMore
import KE.GoesEnum
import HandS.ListItems
import HandS.WordsDict
import KE.SortData
import KE.KDictSum
import KE.KDictCopyH
import HandS.Conv
import KE.KDictDisplayH
import HandS.DictTup
import HandS.DictSubView
import HandS.Text
import HandS.More
import HandS.Wide
import HandS.SetKeys
import HandS.Lambda
import PyProof.ExcBaseAll.ValueError
import PySem.Challenge.RW_rewritehall_k09_orders_by_polynomials
set_option Elab.async false
set_option linter.all false
set_option maxRecDepth 100000
set_option maxHeartbeats 2000000
/-! any, all, sum of a generator expression whose element may call further. -/
namespace Gx
open PySem PySem.Spec PyProof.Rows L2 GxR GenW

/-- the context of a generator expression's frame -/
abbrev gexCx (X : Cx) (s : Shared) (H : Hp) (cenv : Env) (fp : List Addr) (A : Around) : Cx :=
  { X with A := A, s_0 := s, H_0 := H, env := cenv, outer := X.stack, stack := cenv :: X.stack, ex := fp, fn := fun _ => false, calm := true, pn := [], xe := fun _ _ => False }

section
variable {X : Cx} {α : Type}
/-- between a yield and the next wake the consumer may change its own objects xp -/
structure Rsm (xp : α → List (Addr × Obj)) (gsz : Nat) (al al' : α) (s s' : Shared) : Prop where
  os : s'.os = s.os
  bare : AllBare s'.gens
  size : gsz ≤ s'.gens.size
  keep : ∀ b o, b ∉ (xp al).map (·.1) → s.heap.get? b = some o → s'.heap.get? b = some o
  here : ∀ p ∈ xp al', s'.heap.get? p.1 = some p.2
  same : (xp al').map (·.1) = (xp al).map (·.1)
  nocell : ∀ p ∈ xp al', ∀ v, p.2.data ≠ .cell v

theorem Rsm.inv {pp : List (Addr × Obj)} {σ : L2.St} {H : Hp} {s s' : Shared} {xp : α → List (Addr × Obj)} {gsz : Nat} {al al' : α} (I : Inv X (pp ++ xp al) σ H s) (z : Rsm xp gsz al al' s s')
    (hxs : ∀ p ∈ xp al, X.s_0.heap.objs.size ≤ p.1) (hpx : ∀ p ∈ X.pn ++ pp, p.1 ∉ (xp al).map (·.1)) : Inv X (pp ++ xp al') σ H s' := by
  have I0 : Inv X pp σ H s := I.pins_of fun p hp => I.pin p (List.mem_append_right _ (List.mem_append_left _ hp))
  have px : ∀ b ∈ (xp al).map (·.1), H b = none ∧ b ≠ X.env.locals ∧ b ∉ X.fs ∧ X.s_0.heap.objs.size ≤ b ∧ ∀ x c, X.env.cells.lookup x = some c → c ≠ b := fun b hb => by
    obtain ⟨p, hp, e⟩ := List.mem_map.mp hb
    obtain ⟨h1, h2, h3, h4, h5⟩ := I.pin p (List.mem_append_right _ (List.mem_append_right _ hp))
    subst e
    refine ⟨h2, h3, h4, hxs p hp, fun x c hc e => ?_⟩
    obtain ⟨v, o, ho, hd⟩ := I.cell x c hc
    rw [e, h1] at ho
    cases ho
    exact h5 v hd
  have nt : ∀ b u, H b = some u → b ∉ (xp al).map (·.1) := fun b u q hb => by
    rw [(px b hb).1] at q
    cases q
  obtain ⟨z1, z2, z3, z4, z5, z6, z7⟩ := z
  obtain ⟨hh, g, d, t, o⟩ := s'
  have ho : o = s.os := z1
  subst ho
  have J : Inv X pp σ H { s with heap := hh, gens := g, drawn := d, toks := t } := by
    refine I0.step (g' := g) (t' := t) (d' := d) (ch := (xp al).map (·.1)) (fun b hb => ?_)
      (fun b ob _ _ hc q _ => z4 b ob hc q) (fun b ob _ _ hc q _ => ⟨ob.slots, z4 b ob hc q⟩) (fun _ _ _ _ n => n) (fun b ob hc q => ⟨ob, z4 b ob hc q⟩)
      (fun _ _ q => q) (fun _ _ _ q => q) (fun b ps q => ⟨#[], by rw [q]; simp⟩) (fun m hm => ?_) (fun b u q => ?_) z2
    · obtain ⟨h1, h2, h3, h4, h5⟩ := px b hb
      exact ⟨.inr h4, h2, h5, fun p hp e => hpx p hp (by rw [e]; exact hb)⟩
    · obtain ⟨ob, es, ep, ho, r⟩ := hm
      exact ⟨ob, es, ep, z4 _ ob (fun hb => (px _ hb).2.1 rfl) ho, r⟩
    · refine (I0.hok b u q).stay (fun c v hc y => z4 c v ?_ y) (fun _ y => y) fun _ _ y => y
      rcases hc with y | y
      · rw [y]
        exact nt b u q
      · exact nt c _ y
  refine J.pins_of fun p hp => ?_
  rcases List.mem_append.mp hp with hp | hp
  · exact J.pin p (List.mem_append_right _ hp)
  · have hb : p.1 ∈ (xp al).map (·.1) := by
      rw [← z6]
      exact List.mem_map.mpr ⟨p, hp, rfl⟩
    obtain ⟨h1, h2, h3, _⟩ := px _ hb
    exact ⟨z5 p hp, h1, h2, h3, z7 p hp⟩

/-- what the generator's end and its yields say -/
def GxR (X : Cx) (pp : List (Addr × Obj)) (xp : α → List (Addr × Obj)) (gsz : Nat) (Fn : α → Hp → Prop) (_ : Nat) (s₀ : Shared) (s : Shared) : Prop :=
  ∃ al σ H, Inv X (pp ++ xp al) σ H s ∧ Fn al H ∧ gsz ≤ s.gens.size ∧ ∀ p ∈ xp al, s₀.heap.get? p.1 = some p.2
def GxY (X : Cx) (pp : List (Addr × Obj)) (xp : α → List (Addr × Obj)) (gsz : Nat) (Cs : α → V → Hp → (α → Hp → Prop) → Prop) : Protocol := fun _ s₀ v s kap =>
  ∃ al y σ H Nx, RelV y v ∧ Inv X (pp ++ xp al) σ H s ∧ gsz ≤ s.gens.size ∧ (∀ p ∈ xp al, s₀.heap.get? p.1 = some p.2) ∧ Cs al y H Nx ∧ ∀ al' s', Nx al' H → Rsm xp gsz al al' s s' → kap (.send .none) s'

theorem seg_gexLoop {A : Around} {elt tg iter : Expr} {ifs : List Expr} {scope : Scope} {pos : Pos} {it : Addr} {fp : List Addr} {tn : Nat → Heap → Prop} {J : It} {g : TG} {tt : TT} {te : TE} {pp : List (Addr × Obj)} {xp : α → List (Addr × Obj)} {gsz : Nat}
    {Cs : α → V → Hp → (α → Hp → Prop) → Prop} {Fn : α → Hp → Prop} {W : Nat → Nat → α → Hp → Prop} {σ0 : L2.St} {vs : List Nat}
    (T : Turn X.prog X.w X.K tg J fp it tn) (hA : A.over (.compLoop (.GeneratorExp elt [⟨tg, iter, ifs, 0⟩] scope pos) 0 (.ref it) .none X.env) [] = X.A) (hcalm : X.calm = true) (hco : X.env.scope.isCoroutine = false) (hxe : X.xe = fun _ _ => False)
    (hfx : X.ex = fp) (hpn : X.pn = [])
    (pg : PG X tg g) (pt : PTs X ifs tt) (pe : PE X elt te)
    (hxs : ∀ al, ∀ p ∈ xp al, X.s_0.heap.objs.size ≤ p.1) (hpx : ∀ al, ∀ p ∈ pp, p.1 ∉ (xp al).map (·.1)) (hpf : ∀ p ∈ pp, p.1 ∉ fp) (hxf : ∀ al, ∀ p ∈ xp al, p.1 ∉ fp)
    (hw0 : wipe σ0 vs = σ0)
    (turn : ∀ i m al H, W i m al H → (J.stop i H ∧ Fn al H) ∨ (J.go i H ∧ ∃ Nx : α → Hp → Prop, (∀ al' H', Nx al' H' → ∃ m', m' < m ∧ W (i + 1) m' al' H') ∧
      ∀ x H', J.yld i H x H' → g x σ0 H' fun σ2 H2 => wipe σ2 vs = σ0 ∧ tt σ2 H2 fun b H3 => if b = true then te σ2 H3 fun y H4 => Cs al y H4 Nx else Nx al H3)) :
    ∀ (m n i : Nat) (al : α) (H : Hp) (s₀ s : Shared), m + 1 ≤ n → W i m al H → Inv X (pp ++ xp al) σ0 H s → tn i s.heap → (∀ b ∈ fp, H b = none) → gsz ≤ s.gens.size → (∀ p ∈ xp al, s₀.heap.get? p.1 = some p.2) →
      Seg (model X.prog X.w) A (fun n s₀ r s₁ => r = .ok .next ∧ GxR X pp xp gsz Fn n s₀ s₁) (GxY X pp xp gsz Cs) n s₀
        (.compLoop (.GeneratorExp elt [⟨tg, iter, ifs, 0⟩] scope pos) 0 (.ref it) .none X.env) ((model X.prog X.w).den (.compLoop (.GeneratorExp elt [⟨tg, iter, ifs, 0⟩] scope pos) 0 (.ref it) .none X.env)) [] s := by
  have stat : ∀ {al : α} {σ' : L2.St} {H' : Hp} {s' : Shared}, Inv X (pp ++ xp al) σ' H' s' → (∀ b ∈ fp, H' b = none) → ∀ b ∈ fp, FpOk X (pp ++ xp al) H' b := fun {al σ' H' s'} I' hn b hb => by
    have hb' : b ∈ X.ex := by rw [hfx]; exact hb
    refine ⟨hn b hb, (I'.ok.exf b hb').1, I'.ok.exfs b hb', .inl hb', fun x c e => (I'.ok.exf b hb').2 x c e, fun p hp => ?_⟩
    rw [hpn, List.nil_append] at hp
    rcases List.mem_append.mp hp with hp | hp
    · exact fun e => hpf p hp (by rw [e]; exact hb)
    · exact fun e => hxf al p hp (by rw [e]; exact hb)
  intro m
  induction m using Nat.strongRecOn with
  | ind m ih =>
    intro n i al H s₀ s hmn w I st hn0 hgs hs0
    show Seg _ A _ _ _ s₀ _ ((compTurn (.GeneratorExp elt [⟨tg, iter, ifs, 0⟩] scope pos) 0 (.ref it) .none X.env).onRaise (leaving X.env)) [] s
    rw [compTurn_gen, Sem.onRaise_eq_wrap]
    refine seg_bind_wrap (wpAny_standAt ?_)
    rcases turn i m al H w with ⟨stop, qq⟩ | ⟨go, Nx, hNx, step⟩
    · refine seg_bind_wrap ?_
      rw [hA]
      refine wpAny_gsz hgs ?_
      refine thnF (T.done X rfl rfl rfl hcalm i _ s _ H (fun _ _ => False) I (stat I hn0) st stop) fun r s6 ⟨hr, I6⟩ hg6 => ?_
      subst hr
      exact seg_end (.ok .next) ⟨rfl, al, _, H, I6, qq, hg6, hs0⟩
    · obtain ⟨n, rfl⟩ : ∃ k, n = k + 1 := ⟨n - 1, by omega⟩
      refine seg_bind_wrap ?_
      rw [hA]
      refine wpAny_gsz hgs ?_
      refine thnF (T.item X rfl rfl rfl hcalm i _ s _ H (fun _ _ => False) I (stat I hn0) st go) fun r s6 ⟨u, hr, h6⟩ hg6 => ?_
      subst hr
      refine seg_bind_wrap ?_
      rw [hA]
      refine wpAny_gsz hg6 ?_
      refine thnF h6 fun _ s7 ⟨x, H7, I7, r7, y7, st7, n7⟩ hg7 => ?_
      have I7' := I7.pinned (stat I7 n7) (T.obj _ _ st7)
      refine seg_bind_wrap ?_
      rw [hA]
      refine wpAny_gsz hg7 ?_
      have pgr := pg.run _ s7 _ H7 x u _ I7' r7 (step x H7 y7)
      rw [hxe] at pgr
      refine thnF pgr fun _ s8 ⟨σ8, H8, I8, hw8, q8⟩ hg8 => ?_
      refine seg_bind_wrap ?_
      rw [hA]
      refine wpAny_gsz hg8 ?_
      have ptr := pt.run _ s8 σ8 H8 _ I8 q8
      rw [hxe] at ptr
      refine thnF ptr fun b s9 ⟨H9, I9, q9⟩ hg9 => ?_
      -- the pins of the iterator come back
      have back : ∀ {s' : Shared} {H' : Hp}, Inv X ((pp ++ xp al) ++ pinsAt fp s7.heap) σ8 H' s' → Inv X (pp ++ xp al) σ8 H' s' ∧ tn (i + 1) s'.heap ∧ ∀ b ∈ fp, H' b = none := fun {s' H'} I' => by
        have pin' : ∀ b ∈ fp, ∀ o, s7.heap.get? b = some o → s'.heap.get? b = some o ∧ H' b = none := fun b hb o e =>
          let z := I'.pin (b, o) (List.mem_append_right _ (List.mem_append_right _ (mem_pinsAt hb e)))
          ⟨z.1, z.2.1⟩
        refine ⟨I'.pins_of fun p hp => I'.pin p (List.mem_append_right _ (List.mem_append_left _ hp)), T.keep _ _ _ st7 fun b hb o e => (pin' b hb o e).1, fun b hb => ?_⟩
        obtain ⟨o, e, _⟩ := T.obj _ _ st7 b hb
        exact (pin' b hb o e).2
      have forget : ∀ {al' : α} {s' : Shared} {H' : Hp}, Inv X (pp ++ xp al') σ8 H' s' → Inv X (pp ++ xp al') σ0 H' s' := fun {al' s' H'} I' => by
        have hl : σ0.length = σ8.length := by rw [← hw8, wipe_length]
        refine I'.weak hl fun j v e => ?_
        rw [← hw8] at e
        exact (wipe_some e).1
      cases b with
      | false =>
        simp only [Bool.false_eq_true, if_false] at q9 ⊢
        obtain ⟨m', hm, w'⟩ := hNx al H9 q9
        obtain ⟨I9', st9, n9⟩ := back I9
        exact seg_again rfl (ih m' hm (n + 1) (i + 1) al H9 s₀ s9 (by omega) w' (forget I9') st9 n9 hg9 hs0)
      | true =>
        simp only [if_true] at q9 ⊢
        have hy : ∀ v, yieldOut X.env v = yieldValue v := fun v => by simp only [yieldOut, hco, Bool.false_eq_true, if_false]
        simp only [hy]
        rw [Sem.bind_eq_wrap', Sem.bind_eq_wrap', Sem.wrap_wrap, Sem.wrap_wrap]
        refine seg_wrap ?_
        rw [hA]
        refine wpAny_gsz hg9 ?_
        have per := pe.run _ s9 σ8 H9 _ I9 q9
        rw [hxe] at per
        refine thnF per fun z s10 ⟨yv, H10, I10, r10, cs⟩ hg10 => ?_
        obtain ⟨I10', st10, n10⟩ := back I10
        refine seg_at (seg_yield rfl rfl rfl ⟨al, yv, σ8, H10, Nx, r10, I10', hg10, hs0, cs, fun al' s' nx z => ?_⟩)
        obtain ⟨m', hm, w'⟩ := hNx al' H10 nx
        have I11 := forget (Rsm.inv I10' z (hxs al) (fun p hp => hpx al p (by rw [hpn, List.nil_append] at hp; exact hp)))
        refine seg_again rfl (ih m' hm n (i + 1) al' H10 s' s' (by omega) w' I11 (T.keep _ _ _ st10 fun b hb o e => z.keep b o (fun hm => ?_) e) n10 z.size z.here)
        obtain ⟨p, hp, e⟩ := List.mem_map.mp hm
        exact hxf al p hp (by rw [e]; exact hb)

theorem seg_gexStart {A : Around} {elt tg iter : Expr} {ifs : List Expr} {scope : Scope} {pos : Pos} {it : Addr} {R : GenEnd} {Y : Protocol} {n : Nat} {fp : List Addr} {tn : Nat → Heap → Prop} {J : It} (T : Turn X.prog X.w X.K tg J fp it tn) {s₀ s : Shared} (st : tn 0 s.heap)
    (loop : Seg (model X.prog X.w) A R Y n s₀ (.compLoop (.GeneratorExp elt [⟨tg, iter, ifs, 0⟩] scope pos) 0 (.ref it) .none X.env) ((model X.prog X.w).den (.compLoop (.GeneratorExp elt [⟨tg, iter, ifs, 0⟩] scope pos) 0 (.ref it) .none X.env)) [] s) :
    Seg (model X.prog X.w) A R Y n s₀ (.compStart (.GeneratorExp elt [⟨tg, iter, ifs, 0⟩] scope pos) 0 (.ref it) .none X.env) ((model X.prog X.w).den (.compStart (.GeneratorExp elt [⟨tg, iter, ifs, 0⟩] scope pos) 0 (.ref it) .none X.env)) [] s := by
  show Seg _ A _ _ _ s₀ _ ((compStart (.GeneratorExp elt [⟨tg, iter, ifs, 0⟩] scope pos) 0 (.ref it) .none X.env).onRaise (leaving X.env)) [] s
  unfold compStart
  rw [Sem.onRaise_eq_wrap]
  show Seg _ A _ _ _ s₀ _ ((ask >>= _).wrap _ _ _ _) [] s
  refine seg_bind_wrap (wpAny_askSetting ?_)
  split
  · exact seg_again rfl loop
  · first
      | exact seg_bind_wrap (wpAny_rule (seg_bind_wrap (wpAny_standAt (seg_bind_wrap (T.self _ 0 s _ _ st (seg_again rfl loop))))))
      | (refine seg_bind_wrap (wpAny_rule ?_); show Seg _ A _ _ _ s₀ _ ((standAt iter.pos >>= _).wrap _ _ _ _) [] s; exact seg_bind_wrap (wpAny_standAt (seg_bind_wrap (T.self _ 0 s _ _ st (seg_again rfl loop)))))
end
end Gx
set_option Elab.async false
set_option linter.all false
set_option maxRecDepth 100000
set_option maxHeartbeats 2000000
namespace Gx
open PySem PySem.Spec PyProof.Rows L2 GxR GenW

theorem allBare_set {s : Shared} {g : Nat} {x : GenState} (h : AllBare s.gens) (hx : x.bare = true) : AllBare (s.setGen g x).gens := by
  intro y hy
  obtain ⟨i, hi, rfl⟩ := Array.mem_iff_getElem.mp hy
  have e : (s.setGen g x).gens = s.gens.setIfInBounds g x := rfl
  simp only [e] at hi ⊢
  have hi2 : i < s.gens.size := by simpa using hi
  rw [Array.getElem_setIfInBounds hi2]
  split
  · exact hx
  · exact h _ (Array.getElem_mem hi2)

section
variable {prog : Program} {w : World} {α : Type}
/-- the generator at a, its table's number g, ready for its next wake: up to n yields; T: what is wanted at its end, Yp: at a yield -/
structure Rdy (prog : Program) (w : World) (A : Around) (a : Addr) (g : Nat) (T : Shared → Shared → Prop) (Y : Protocol) (n : Nat) (s : Shared) : Prop where
  gen : s.heap.IsGen a g
  lim : s.heap.NoLimit
  go : ∃ gs, s.gens[g]? = some gs ∧ ∀ t, gs.Goes (model prog w) A.in1 (fun _ s₀ r s₁ => r = .ok .next ∧ T s₀ s₁) Y n (.send .none) (({ s with toks := t } : Shared).setGen g .running)

theorem Rdy.next {A : Around} {E : Value → Shared → Prop} {a : Addr} {g : Nat} {T : Shared → Shared → Prop} {Y : Protocol} {n : Nat} {s : Shared} {Q : Option Value → Shared → Prop} (hh : A.handled = none) (hroom : A.depth < recursionLimit) (h : Rdy prog w A a g T Y n s)
    (hY : ∀ v s₁ gs', gs'.bare = true → Y (n - 1) (s.setGen g .running) v s₁ (fun r' s'' => match n with
        | 0 => False
        | m + 1 => gs'.Goes (model prog w) A.in1 (fun _ s₀ r s₁ => r = .ok .next ∧ T s₀ s₁) Y m r' s'') → Q (some v) (s₁.setGen g gs'))
    (hP : ∀ s₁, T (s.setGen g .running) s₁ → ∀ h', (∀ b o, s₁.heap.get? b = some o → h'.get? b = some o) → Q none { s₁.setGen g .finished with heap := h' }) :
    wpAny (model prog w) A (pyNext (.ref a)) Q E s := by
  obtain ⟨hg, hl, gs, hgs, hgo⟩ := h
  exact wpAny_pyNext_genexpQ (P := fun _ s₀ s₁ => T s₀ s₁) hh hl hroom hg hgs (hgo s.toks) hY hP

/-- all(gen): the generator's protocol tells bools -/
theorem codeAny_all_gen {A : Around} {R : Result → Shared → Prop} {a : Addr} {g : Nat} {T : Shared → Shared → Prop} {S : Shared → Prop} {Y : Protocol} (hh : A.handled = none) (hroom : A.depth < recursionLimit)
    (hY : ∀ n s₀ v s kap, Y n s₀ v s kap → ∃ b, v = .bool b ∧ g < s.gens.size ∧ s.heap.IsGen a g ∧ s.heap.NoLimit ∧ AllBare s.gens ∧ if b = true then ∀ s' : Shared, s'.heap = s.heap → s'.os = s.os → s.gens.size = s'.gens.size → AllBare s'.gens → kap (.send .none) s' else S s)
    (hS : ∀ s s' : Shared, S s → s'.heap = s.heap → s'.os = s.os → AllBare s'.gens → R (.ok (.ret (.bool false))) s')
    (hT : ∀ s₀ s s' : Shared, T s₀ s → (∀ b o, s.heap.get? b = some o → s'.heap.get? b = some o) → s'.os = s.os → AllBare s'.gens → R (.ok (.ret (.bool true))) s')
    (hTb : ∀ s₀ s, T s₀ s → AllBare s.gens) :
    ∀ (n : Nat) (s : Shared), Rdy prog w A.in1 a g T Y n s → codeAny (model prog w) A (.builtin "all.loop" ⟨[.ref a], []⟩) R s := by
  intro n
  induction n with
  | zero =>
    intro s h
    refine codeAny_builtin F.entry_all_loop ?_
    rw [Around.under_plainId F.plain_all_loop _]
    show wpAny _ A.in1 (pyNext (.ref a) >>= _) _ _ s
    refine wpAny_bind (h.next hh hroom (fun v s₁ gs' hb hy => ?_) fun s₁ ht h' hk => ?_)
    · obtain ⟨b, rfl, hgs, hig, hlm, hbare, hc⟩ := hY _ _ _ _ _ hy
      refine wpAny_bind (wpAny_holding (wpAny_truthy_bool ?_))
      refine wpAny_bind (wpAny_letGo ?_)
      cases b with
      | true =>
        rw [if_pos rfl] at hc
        exact (hc s₁ rfl rfl rfl hbare).elim
      | false =>
        rw [if_neg Bool.false_ne_true] at hc
        simp only [Bool.false_eq_true, if_false]
        refine wpAny_bind (wpAny_rule (wpAny_pure ?_))
        exact hS s₁ _ hc rfl rfl (allBare_set hbare hb)
    · refine wpAny_bind (wpAny_rule (wpAny_pure ?_))
      exact hT _ s₁ _ ht hk rfl (allBare_set (hTb _ _ ht) rfl)
  | succ n ih =>
    intro s h
    refine codeAny_builtin F.entry_all_loop ?_
    rw [Around.under_plainId F.plain_all_loop _]
    show wpAny _ A.in1 (pyNext (.ref a) >>= _) _ _ s
    refine wpAny_bind (h.next hh hroom (fun v s₁ gs' hb hy => ?_) fun s₁ ht h' hk => ?_)
    · obtain ⟨b, rfl, hgs, hig, hlm, hbare, hc⟩ := hY _ _ _ _ _ hy
      refine wpAny_bind (wpAny_holding (wpAny_truthy_bool ?_))
      refine wpAny_bind (wpAny_letGo ?_)
      cases b with
      | true =>
        rw [if_pos rfl] at hc
        simp only [if_true]
        refine wpAny_pure ⟨plainId_quiet F.plain_all_loop _, ih _ ⟨hig, hlm, gs', setGen_self (gs := s₁.gens[g]) (by exact Array.getElem?_eq_getElem hgs), fun t => ?_⟩⟩
        exact hc _ rfl rfl (by rw [setGen_size]; show _ = (s₁.setGen g gs').gens.size; rw [setGen_size]) (allBare_set (s := { s₁.setGen g gs' with toks := t }) (allBare_set hbare hb) rfl)
      | false =>
        rw [if_neg Bool.false_ne_true] at hc
        simp only [Bool.false_eq_true, if_false]
        refine wpAny_bind (wpAny_rule (wpAny_pure ?_))
        exact hS s₁ _ hc rfl rfl (allBare_set hbare hb)
    · refine wpAny_bind (wpAny_rule (wpAny_pure ?_))
      exact hT _ s₁ _ ht hk rfl (allBare_set (hTb _ _ ht) rfl)

theorem codeAny_any_gen {A : Around} {R : Result → Shared → Prop} {a : Addr} {g : Nat} {T : Shared → Shared → Prop} {S : Shared → Prop} {Y : Protocol} (hh : A.handled = none) (hroom : A.depth < recursionLimit)
    (hY : ∀ n s₀ v s kap, Y n s₀ v s kap → ∃ b, v = .bool b ∧ g < s.gens.size ∧ s.heap.IsGen a g ∧ s.heap.NoLimit ∧ AllBare s.gens ∧ if b = true then S s else ∀ s' : Shared, s'.heap = s.heap → s'.os = s.os → s.gens.size = s'.gens.size → AllBare s'.gens → kap (.send .none) s')
    (hS : ∀ s s' : Shared, S s → s'.heap = s.heap → s'.os = s.os → AllBare s'.gens → R (.ok (.ret (.bool true))) s')
    (hT : ∀ s₀ s s' : Shared, T s₀ s → (∀ b o, s.heap.get? b = some o → s'.heap.get? b = some o) → s'.os = s.os → AllBare s'.gens → R (.ok (.ret (.bool false))) s')
    (hTb : ∀ s₀ s, T s₀ s → AllBare s.gens) :
    ∀ (n : Nat) (s : Shared), Rdy prog w A.in1 a g T Y n s → codeAny (model prog w) A (.builtin "any.loop" ⟨[.ref a], []⟩) R s := by
  intro n
  induction n with
  | zero =>
    intro s h
    refine codeAny_builtin F.entry_any_loop ?_
    rw [Around.under_plainId F.plain_any_loop _]
    show wpAny _ A.in1 (pyNext (.ref a) >>= _) _ _ s
    refine wpAny_bind (h.next hh hroom (fun v s₁ gs' hb hy => ?_) fun s₁ ht h' hk => ?_)
    · obtain ⟨b, rfl, hgs, hig, hlm, hbare, hc⟩ := hY _ _ _ _ _ hy
      refine wpAny_bind (wpAny_holding (wpAny_truthy_bool ?_))
      refine wpAny_bind (wpAny_letGo ?_)
      cases b with
      | false =>
        rw [if_neg Bool.false_ne_true] at hc
        exact (hc s₁ rfl rfl rfl hbare).elim
      | true =>
        rw [if_pos rfl] at hc
        simp only [if_true]
        refine wpAny_bind (wpAny_rule (wpAny_pure ?_))
        exact hS s₁ _ hc rfl rfl (allBare_set hbare hb)
    · refine wpAny_bind (wpAny_rule (wpAny_pure ?_))
      exact hT _ s₁ _ ht hk rfl (allBare_set (hTb _ _ ht) rfl)
  | succ n ih =>
    intro s h
    refine codeAny_builtin F.entry_any_loop ?_
    rw [Around.under_plainId F.plain_any_loop _]
    show wpAny _ A.in1 (pyNext (.ref a) >>= _) _ _ s
    refine wpAny_bind (h.next hh hroom (fun v s₁ gs' hb hy => ?_) fun s₁ ht h' hk => ?_)
    · obtain ⟨b, rfl, hgs, hig, hlm, hbare, hc⟩ := hY _ _ _ _ _ hy
      refine wpAny_bind (wpAny_holding (wpAny_truthy_bool ?_))
      refine wpAny_bind (wpAny_letGo ?_)
      cases b with
      | false =>
        rw [if_neg Bool.false_ne_true] at hc
        simp only [Bool.false_eq_true, if_false]
        refine wpAny_pure ⟨plainId_quiet F.plain_any_loop _, ih _ ⟨hig, hlm, gs', setGen_self (gs := s₁.gens[g]) (by exact Array.getElem?_eq_getElem hgs), fun t => ?_⟩⟩
        exact hc _ rfl rfl (by rw [setGen_size]; show _ = (s₁.setGen g gs').gens.size; rw [setGen_size]) (allBare_set (s := { s₁.setGen g gs' with toks := t }) (allBare_set hbare hb) rfl)
      | true =>
        rw [if_pos rfl] at hc
        simp only [if_true]
        refine wpAny_bind (wpAny_rule (wpAny_pure ?_))
        exact hS s₁ _ hc rfl rfl (allBare_set hbare hb)
    · refine wpAny_bind (wpAny_rule (wpAny_pure ?_))
      exact hT _ s₁ _ ht hk rfl (allBare_set (hTb _ _ ht) rfl)

/-- sum(gen): its state stands in a list at S -/
abbrev sumObj (i : Int) (t : Tok) (c : Nat) : Obj := { cls := .type "list", dict := none, data := .seq #[.int i t] c, slots := #[] }
theorem codeAny_sum_gen {A : Around} {R : Result → Shared → Prop} {a S : Addr} {g : Nat} {T : Shared → Shared → Prop} {Y : Protocol} (hh : A.handled = none) (hroom : A.depth < recursionLimit)
    (hY : ∀ n s₀ v s kap, Y n s₀ v s kap → ∃ b t i tk c, v = .int b t ∧ s₀.heap.get? S = some (sumObj i tk c) ∧ s.heap.get? S = some (sumObj i tk c) ∧ g < s.gens.size ∧ (∀ h' : Heap, (∀ x o, x ≠ S → s.heap.get? x = some o → h'.get? x = some o) → h'.IsGen a g ∧ h'.NoLimit) ∧ AllBare s.gens ∧
      ∀ s' : Shared, (∀ x o, x ≠ S → s.heap.get? x = some o → s'.heap.get? x = some o) → (∃ tk c, s'.heap.get? S = some (sumObj (i + b) tk c)) → s'.os = s.os → s.gens.size = s'.gens.size → AllBare s'.gens → kap (.send .none) s')
    (hT : ∀ s₀ s s' i t, T s₀ s → (∃ tk c, s₀.heap.get? S = some (sumObj i tk c)) → (∀ b o, s.heap.get? b = some o → s'.heap.get? b = some o) → s'.os = s.os → AllBare s'.gens → R (.ok (.ret (.int i t))) s')
    (hTb : ∀ s₀ s, T s₀ s → AllBare s.gens) :
    ∀ (n : Nat) (s : Shared) (i : Int) (tA : Tok) (c : Nat) (st : Int), (st = 0 ∨ st = 2) → s.heap.get? S = some (sumObj i tA c) → Rdy prog w A.in1 a g T Y n s →
      codeAny (model prog w) A (.builtin "sum.loop" ⟨[.ref a, .ref S, rawInt st, rawInt 0], []⟩) R s := by
  intro n
  induction n with
  | zero =>
    intro s i tA c st hst2 hS h
    refine codeAny_builtin F.entry_sum_loop ?_
    rw [Around.under_plainId F.plain_sum_loop _]
    show wpAny _ A.in1 (seqItems? (.ref S) >>= _) _ _ s
    refine wpAny_bind (wpAny_seqItems hS rfl ?_)
    show wpAny _ A.in1 (tryCatch (pyNext (.ref a)) _ >>= _) _ _ s
    refine wpAny_bind (wpAny_tryCatch (h.next hh hroom (fun v s₁ gs' hb hy => ?_) fun s₁ ht h' hk => ?_))
    · obtain ⟨b, t, i', tk, c', rfl, h0, h1, hgs, hig, hbare, hc⟩ := hY _ _ _ _ _ hy
      refine (hc { s₁ with heap := s₁.heap.update S (Obj.mapSeq fun _ => #[.int (i' + b) 0]) } (fun x o hx e => (Heap.get?_update_other _ _ (Ne.symm hx)).trans e) ⟨0, _, Heap.get?_update_self _ h1 rfl⟩ rfl rfl hbare).elim
    · exact wpAny_pure (hT _ s₁ _ i tA ht ⟨tA, c, hS⟩ hk rfl (allBare_set (hTb _ _ ht) rfl))
  | succ n ih =>
    intro s i tA c st hst2 hS h
    refine codeAny_builtin F.entry_sum_loop ?_
    rw [Around.under_plainId F.plain_sum_loop _]
    show wpAny _ A.in1 (seqItems? (.ref S) >>= _) _ _ s
    refine wpAny_bind (wpAny_seqItems hS rfl ?_)
    show wpAny _ A.in1 (tryCatch (pyNext (.ref a)) _ >>= _) _ _ s
    refine wpAny_bind (wpAny_tryCatch (h.next hh hroom (fun v s₁ gs' hb hy => ?_) fun s₁ ht h' hk => ?_))
    · obtain ⟨b, t, i', tk, c', rfl, h0, h1, hgs, hig, hbare, hc⟩ := hY _ _ _ _ _ hy
      have h0' : s.heap.get? S = some (sumObj i' tk c') := h0
      rw [hS] at h0'
      have ei : i = i' := by
        have z := congrArg Obj.data (Option.some.inj h0')
        have z2 : (Data.seq #[Value.int i tA] c) = Data.seq #[Value.int i' tk] c' := z
        injection z2 with z3 _
        have z4 := congrArg Array.toList z3
        simp at z4
        exact z4.1
      subst ei
      have hS' : (s₁.setGen g gs').heap.get? S = some (sumObj i tk c') := h1
      -- the state behind the turn
      have fin : ∀ (st' : Int) (s' : Shared) (tk' : Tok) (c2 : Nat), (st' = 0 ∨ st' = 2) → (∀ x o, x ≠ S → s₁.heap.get? x = some o → s'.heap.get? x = some o) → s'.heap.get? S = some (sumObj (i + b) tk' c2) → s'.os = s₁.os → s'.gens = (s₁.setGen g gs').gens →
          codeAny (model prog w) A (.builtin "sum.loop" ⟨[.ref a, .ref S, rawInt st', rawInt 0], []⟩) R s' := fun st' s' tk' c2 hst' hk hS2 ho hg => by
        obtain ⟨q1, q2⟩ := hig s'.heap hk
        refine ih s' (i + b) tk' c2 st' hst' hS2 ⟨q1, q2, gs', ?_, fun t' => ?_⟩
        · rw [hg]
          exact setGen_self (gs := s₁.gens[g]) (by exact Array.getElem?_eq_getElem hgs)
        · refine hc _ hk ⟨tk', c2, hS2⟩ ho ?_ ?_
          · rw [setGen_size]
            show _ = s'.gens.size
            rw [hg, setGen_size]
          · refine allBare_set (s := { s' with toks := t' }) ?_ rfl
            show AllBare s'.gens
            rw [hg]
            exact allBare_set hbare hb
      rcases hst2 with rfl | rfl
      · show wpAny _ A.in1 (if (_ : Bool) = true then (mkInt (i + b) >>= _) else _) _ _ _
        split
        · refine wpAny_bind (wpAny_mkInt ?_)
          show wpAny _ A.in1 (updateSeq S (fun _ => #[.int (i + b) _]) >>= _) _ _ _
          refine wpAny_bind ?_
          refine wpAny_updateSeq hS' rfl (wpAny_pure ⟨plainId_quiet F.plain_sum_loop _, fin 0 _ _ _ (.inl rfl) (fun x o hx e => (Heap.get?_update_other _ _ (Ne.symm hx)).trans e) (Heap.get?_update_self _ hS' rfl) rfl rfl⟩)
        · refine wpAny_bind (wpAny_rule ?_)
          refine wpAny_bind (wpAny_attempt (wpAny_holding (wpAny_add_int ?_)))
          show wpAny _ A.in1 (updateSeq S (fun _ => #[.int (i + b) _]) >>= _) _ _ _
          refine wpAny_bind (wpAny_updateSeq hS' rfl ?_)
          have hS₂ := Heap.get?_update_self (Obj.mapSeq fun _ => #[Value.int (i + b) (s₁.setGen g gs').toks]) hS' rfl
          refine wpAny_bind (wpAny_letGo ?_)
          refine wpAny_bind (wpAny_updateSeq hS₂ rfl (wpAny_pure ⟨plainId_quiet F.plain_sum_loop _, fin 2 _ _ _ (.inr rfl) (fun x o hx e => (Heap.get?_update_other _ _ (Ne.symm hx)).trans ((Heap.get?_update_other _ _ (Ne.symm hx)).trans e)) (Heap.get?_update_self _ hS₂ rfl) rfl rfl⟩))
      · show wpAny _ A.in1 ((holding [Value.int b t] (binaryOp .Add (.int i tA) (.int b t))).attempt >>= _) _ _ _
        refine wpAny_bind (wpAny_attempt (wpAny_holding (wpAny_add_int ?_)))
        show wpAny _ A.in1 (updateSeq S (fun _ => #[.int (i + b) _]) >>= _) _ _ _
        refine wpAny_bind (wpAny_updateSeq hS' rfl ?_)
        have hS₂ := Heap.get?_update_self (Obj.mapSeq fun _ => #[Value.int (i + b) (s₁.setGen g gs').toks]) hS' rfl
        refine wpAny_bind (wpAny_letGo ?_)
        refine wpAny_bind (wpAny_updateSeq hS₂ rfl (wpAny_pure ⟨plainId_quiet F.plain_sum_loop _, fin 2 _ _ _ (.inr rfl) (fun x o hx e => (Heap.get?_update_other _ _ (Ne.symm hx)).trans ((Heap.get?_update_other _ _ (Ne.symm hx)).trans e)) (Heap.get?_update_self _ hS₂ rfl) rfl rfl⟩))
    · exact wpAny_pure (hT _ s₁ _ i tA ht ⟨tA, c, hS⟩ hk rfl (allBare_set (hTb _ _ ht) rfl))
end
end Gx
set_option Elab.async false
set_option linter.all false
set_option maxRecDepth 100000
set_option maxHeartbeats 2000000
namespace Gx
open PySem PySem.Spec PyProof.Rows L2 GxR GenW

section
variable {X : Cx} {pins : List (Addr × Obj)} {σ : L2.St} {H : Hp} {s : Shared}
theorem gex_start {scope : Scope} {own : List (Str × Nat)} {fp : List Addr} {code : Value} {h' : Heap} {m0 : Str → Option Value} {go : Obj} {A : Around} {G : Array GenState} {tk : Nat}
    (I : Inv X pins σ H s) (ok : BlkOk X.N X.env.scope scope own) (hN : X.N.Nodup) (hcell : ∀ y ∈ scope.names, y.2 ≠ .cell) (hfp : ∀ b ∈ fp, FpOk X pins H b ∧ b < s.heap.objs.size)
    (hA : A.frames = some (genEnv scope (cloFrom X.env.cells scope.names []) s.heap.objs.size code builtinsNs X.env :: X.stack)) (hAh : A.handled = none)
    (hn : h'.Ns s.heap.objs.size m0) (hs : Heap.SameBut s.heap.objs.size (s.heap.push { cls := .type "frame", data := .dict #[] }) h') (hgo : ∀ v, go.data ≠ .cell v) (hgof : go.isFreed = false) (hG : AllBare G) :
    Inv (gexCx X s H (genEnv scope (cloFrom X.env.cells scope.names []) s.heap.objs.size code builtinsNs X.env) fp A) [(h'.objs.size, go)] (wipe σ (own.map (·.2))) H { s with heap := h'.push go, gens := G, toks := tk } := by
  have hfree : ∀ y ∈ scope.names, y.2 = .free → ∃ c, X.env.cells.lookup y.1 = some c := fun y hy e => by
    rcases ok.free y hy e with k | k
    · exact I.ok.has _ (.inl k)
    · exact I.ok.has _ (.inr k)
  generalize hcenv : genEnv scope (cloFrom X.env.cells scope.names []) s.heap.objs.size code builtinsNs X.env = cenv at hA ⊢
  have kp0 : ∀ b o, s.heap.get? b = some o → h'.get? b = some o := fun b o e => hs.extBut b o (Nat.ne_of_lt (Heap.lt_size e)) (Heap.get?_push_of_some _ e)
  have kp : ∀ b o, s.heap.get? b = some o → (h'.push go).get? b = some o := fun b o e => Heap.get?_push_of_some _ (kp0 b o e)
  have hsz : h'.objs.size = s.heap.objs.size + 1 := by rw [hs.1, Heap.size_push]
  have hL : cenv.locals = s.heap.objs.size := by rw [← hcenv]; rfl
  have hcl : cenv.cells = cloFrom X.env.cells scope.names [] := by rw [← hcenv]; rfl
  have hsc : cenv.scope = scope := by rw [← hcenv]; rfl
  have cm : ∀ {y c}, cenv.cells.lookup y = some c → X.env.cells.lookup y = some c ∧ c < s.heap.objs.size := fun {y c} e => by
    rw [hcl] at e
    rcases cloFrom_mem (PySem.mem_of_lookup e) with hm | ⟨h1, rfl⟩
    · cases hm
    · obtain ⟨c, hc⟩ := hfree _ h1 rfl
      rw [hc]
      obtain ⟨w, z⟩ := I.cell _ _ hc
      exact ⟨rfl, z.lt⟩
  have look : ∀ {y}, scope.names.lookup y = some .free → ∃ c, cenv.cells.lookup y = some c ∧ X.env.cells.lookup y = some c := fun {y} hl => by
    have hy : (y, NameKind.free) ∈ scope.names := PySem.mem_of_lookup hl
    obtain ⟨c', e'⟩ := mem_lookup (cloFrom_has (cells := X.env.cells) (acc := []) hy)
    rw [← hcl] at e'
    exact ⟨c', e', (cm e').1⟩
  have okB : (gexCx X s H cenv fp A).Ok := by
    refine ⟨I.ok.mod, by show cenv.scope.kind = _; rw [hsc]; exact ok.kind, by show cenv.globals = _; rw [← hcenv]; exact I.ok.glob, by show cenv.builtins = _; rw [← hcenv]; rfl, by show s.heap.objs.size ≤ cenv.locals; rw [hL]; exact Nat.le_refl _,
      fun y z c e1 e2 => I.ok.inj y z c (cm e1).1 (cm e2).1, fun y hy => ?_, fun y c z e => (by cases z), fun _ => hAh, hA, .inr ⟨rfl, by show cenv.frame = some cenv.locals; rw [← hcenv]; rfl⟩, fun b hb => ⟨?_, fun y c e z => ?_⟩, I.bs, Nat.le_trans I.ok.bsz I.sz, fun b o e hb => ?_, fun b hb z => ?_, I.stack, I.stkFree⟩
    · show ∃ c, cenv.cells.lookup y = some c
      have key : ∀ k, cenv.kindOf y = some k → (k = .cell ∨ k = .free) → ∃ c, cenv.cells.lookup y = some c := fun k hk hk' => by
        unfold Env.kindOf at hk
        rw [hsc] at hk
        rcases hk' with rfl | rfl
        · exact absurd rfl (hcell _ (PySem.mem_of_lookup hk))
        · obtain ⟨c, h1, _⟩ := look hk
          exact ⟨c, h1⟩
      rcases hy with hy | hy
      · exact key _ hy (.inl rfl)
      · exact key _ hy (.inr rfl)
    · show b ≠ cenv.locals
      rw [hL]; exact Nat.ne_of_lt (hfp b hb).2
    · exact (hfp b hb).1.2.2.2.2.1 y c (cm e).1 z
    · rcases (hfp b hb).1.2.2.2.1 with z | z
      · exact I.ok.noex b o e z
      · exact absurd (Nat.lt_of_lt_of_le (Heap.lt_size e) (Nat.le_trans I.ok.bsz z)) (Nat.lt_irrefl _)
    · rcases List.mem_cons.mp (I.stkSub b z) with z | z
      · exact (hfp b hb).1.2.1 z
      · exact (hfp b hb).1.2.2.1 z
  refine ⟨okB, rfl, hG, Un.kept kp, ⟨m0, ?_, fun i y av e1 e2 e3 => ?_⟩, fun y c e => ?_, ?_, fun y c e => ?_, fun p hp => ?_, I.hok.kept kp, by rw [wipe_length]; exact I.len⟩
  · show Heap.Ns _ cenv.locals _
    rw [hL]
    exact hn.push _
  · obtain ⟨e2, hne⟩ := wipe_some e2
    have hfr : scope.names.lookup y = some .free := by
      have no : ∀ k', scope.names.lookup y = some k' → ¬ (k' = .local ∨ k' = .cell) := fun k' e hh => by
        rcases ok.own _ (PySem.mem_of_lookup e) hh with e' | e'
        · obtain ⟨p, hp, hpy⟩ := List.mem_map.mp e'
          have e3 := ok.ix p hp
          have : p.1 = y := hpy
          rw [this] at e3
          exact hne (List.mem_map.mpr ⟨p, hp, nodup_ix hN e3 e1⟩)
        · exact e' (List.mem_of_getElem? e1)
      have e3 : Vis cenv.scope y := e3
      rw [hsc] at e3
      rcases e3 with e3 | e3 | e3
      · exact absurd (.inl rfl) (no _ e3)
      · exact absurd (.inr rfl) (no _ e3)
      · exact e3
    obtain ⟨m, hn, hl⟩ := I.loc
    have hvis : Vis X.env.scope y := (ok.free _ (PySem.mem_of_lookup hfr) rfl).elim (fun k => .inr (.inl k)) (fun k => .inr (.inr k))
    obtain ⟨w, r, q⟩ := hl i y av e1 e2 hvis
    refine ⟨w, r, .inr ⟨.inr (by show cenv.kindOf y = _; unfold Env.kindOf; rw [hsc]; exact hfr), ?_⟩⟩
    obtain ⟨c, h1, h2⟩ := look hfr
    rcases q with ⟨k, _⟩ | ⟨_, c', e', z⟩
    · have k : X.env.scope.names.lookup y = some .local := k
      rcases ok.free _ (PySem.mem_of_lookup hfr) rfl with k' | k' <;> rw [show X.env.scope.names.lookup y = _ from k'] at k <;> cases k
    · rw [h2] at e'; cases e'
      exact ⟨c, h1, z.keeps kp⟩
  · obtain ⟨w, z⟩ := I.cell y c (cm (show cenv.cells.lookup y = some c from e)).1
    exact ⟨w, z.keeps kp⟩
  · show H cenv.locals = none
    rw [hL]; exact I.hok.fresh (Nat.le_refl _)
  · exact I.freeC y c (cm (show cenv.cells.lookup y = some c from e)).1
  · have hp : p ∈ ([] : List (Addr × Obj)) ++ [(h'.objs.size, go)] := hp
    rw [List.nil_append] at hp
    obtain rfl := List.mem_singleton.mp hp
    refine ⟨Heap.get?_push_size _ hgof, I.hok.fresh (by rw [hsz]; exact Nat.le_succ _), ?_, ?_, hgo⟩
    · show h'.objs.size ≠ cenv.locals
      rw [hL, hsz]; exact Nat.succ_ne_self _
    · intro z
      have z : h'.objs.size ∈ frs X.stack := z
      rcases List.mem_cons.mp (I.stkSub _ z) with z | z
      · have q := I.lt
        rw [← z, hsz] at q
        exact absurd q (Nat.not_lt.mpr (Nat.le_succ _))
      · exact I.nofs (by rw [hsz]; exact Nat.le_succ _) z
end
end Gx
set_option Elab.async false
set_option linter.all false
set_option maxRecDepth 100000
set_option maxHeartbeats 2000000
namespace Gx
open PySem PySem.Spec PyProof.Rows L2 GxR GenW

section
variable {X : Cx} {pins : List (Addr × Obj)} {σ : L2.St} {H : Hp} {s : Shared}
abbrev gexObj (s : Shared) (q : Str) : Obj := { cls := .type "generator", data := .fields #[.int s.gens.size 0, .str "<genexpr>" (s.toks + 1), .str (q ++ "<genexpr>") (s.toks + 1 + 1)] }
theorem tab_fp {P : Addr} {H1 H2 : Hp} {fp : List Addr} (hT : TabG H1 P) (h : Tabbed P H1 H2) (hf : ∀ b ∈ fp, FpOk X pins H1 b) : ∀ b ∈ fp, FpOk X pins H2 b := fun b hb => by
  obtain ⟨f0, f1⟩ := hf b hb
  obtain ⟨ps, hP, _⟩ := hT
  refine ⟨?_, f1⟩
  rw [h.2 b (fun e => by rw [e, hP] at f0; cases f0)]
  exact f0

theorem gen_make {c P : Addr} {elt tg iter : Expr} {ifs : List Expr} {scope : Scope} {own : List (Str × Nat)} {gpos : Pos} {wi : TI} {k : Nat} {Q : Value → Shared → Prop} {R : It → Hp → Prop}
    (hr : Room k X.A) (TB : TabB X.base X.mg c P) (hcode : X.env.code = .ref c) (hco : scope.isCoroutine = false) (hdot : scope.names.lookup (".0" : Str) = some NameKind.local) (ok : BlkOk X.N X.env.scope scope own) (hcell : ∀ y ∈ scope.names, y.2 ≠ .cell)
    (hi : PI X tg iter wi) (hs : ∀ x, genFold iter X.env x = pure x) (I : Inv X pins σ H s) (h : wi σ H fun J H1 => TabG H1 P ∧ R J H1)
    (hQ : ∀ (it : Addr) (fp : List Addr) (tn : Nat → Heap → Prop) (J : It) (H1 H2 : Hp) (s3 : Shared) (code : Value) (h' : Heap), R J H1 → TabG H1 P → Tabbed P H1 H2 → Inv X pins σ H2 s3 → Turn X.prog X.w X.K tg J fp it tn → tn 0 s3.heap →
      (∀ b ∈ fp, FpOk X pins H2 b ∧ b < s3.heap.objs.size) → h'.Ns s3.heap.objs.size (fun y => if y = ".0" then some (.ref it) else none) → Heap.SameBut s3.heap.objs.size (s3.heap.push { cls := .type "frame", data := .dict #[] }) h' →
      Q (.ref h'.objs.size) { s3 with gens := s3.gens.push (.fresh (.compStart (.GeneratorExp elt [⟨tg, iter, ifs, 0⟩] scope gpos) 0 (.ref it) .none (genEnv scope (cloFrom X.env.cells scope.names []) s3.heap.objs.size code builtinsNs X.env))), toks := s3.toks + 1 + 1 + 1, heap := h'.push (gexObj s3 X.env.qual) }) :
    wpAny (model X.prog X.w) X.A (eval (.GeneratorExp elt [⟨tg, iter, ifs, 0⟩] scope gpos) X.env) Q X.xe s := by
  have hfree : ∀ y ∈ scope.names, y.2 = .free → ∃ c, X.env.cells.lookup y.1 = some c := fun y hy e => by
    rcases ok.free y hy e with k | k
    · exact I.ok.has _ (.inl k)
    · exact I.ok.has _ (.inr k)
  refine wpAny_GeneratorExp_make hco (closure_ok hfree) hcell hdot ok.kind (by have := hr.dp; omega) (thn (hi.run pins s σ H _ I h) fun xv s1 hx => thn hx fun itv s2 h2 => ?_) hs
  obtain ⟨it, fp, tn, J, H2, e, I2, T, st2, f2, hT, q⟩ := h2
  subst e
  refine ⟨I2.nolimit, ?_⟩
  obtain ⟨ps, hP, ht⟩ := id hT
  have hPs : s2.heap.get? P = some { cls := .none, data := .fields ps } := I2.hok P _ hP
  have cd : PySem.W.CodeHd s2.heap c P := TB.code.keeps I2.bk
  have sz : ∀ b ∈ fp, b < s2.heap.objs.size := fun b hb => by
    obtain ⟨o, e, _⟩ := T.obj _ _ st2 b hb
    exact Heap.lt_size e
  have nP : ∀ b ∈ fp, b ≠ P := fun b hb e => by
    have f0 := (f2 b hb).1
    rw [e, hP] at f0
    cases f0
  have cont : ∀ (code : Value) (h3 : Heap) (tk : Nat) (ps' : Array Value), Heap.ExtBut P s2.heap h3 → s2.heap.objs.size ≤ h3.objs.size → h3.get? P = some { cls := .none, data := .fields ps' } → (∃ more, ps' = ps ++ more) → TriplesOk ps'.toList →
      wpAny (model X.prog X.w) X.A (builtinsFor X.env.globals X.env.builtins) (fun bi s₄ =>
        ∀ h', h'.Ns s₄.heap.objs.size (fun y => if y = ".0" then some (.ref it) else none) → Heap.SameBut s₄.heap.objs.size (s₄.heap.push { cls := .type "frame", data := .dict #[] }) h' →
          Q (.ref h'.objs.size) { s₄ with
            gens := s₄.gens.push (.fresh (.compStart (.GeneratorExp elt [⟨tg, iter, ifs, 0⟩] scope gpos) 0 (.ref it) .none (genEnv scope (cloFrom X.env.cells scope.names []) s₄.heap.objs.size code bi X.env))),
            toks := s₄.toks + 1 + 1 + 1,
            heap := h'.push (gexObj s₄ X.env.qual) }) X.xe { s2 with heap := h3, toks := tk } := by
    intro code h3 tk ps' hx hsz hP3 hmore ht3
    obtain ⟨bm, ob, e1, e2, e3, e4, e5, e6, e7, e8⟩ := TB.bm
    have keep3 : ∀ b u, b ≠ P → s2.heap.get? b = some u → h3.get? b = some u := fun b u hb e => hx b u hb e
    refine wpAny_builtinsFor (m := X.mg) (by rw [I2.ok.glob]; exact (I2.mod.glob.keeps I2.bk).extBut hx TB.gP) e1 e2 (keep3 _ _ e4 (I2.bk _ _ e5)) e6 e7 e8 ?_
    intro h' hn' hs'
    obtain ⟨more, em⟩ := hmore
    have I3 : Inv X pins σ (upd H2 P (.tbl (ps ++ more))) { s2 with heap := h3, toks := tk } :=
      inv_tab (more := more) (h' := h3) (g' := s2.gens) (d' := s2.drawn) (t' := tk) I2 hP (fun b u hb e => keep3 b u hb e) (by rw [← em]; exact hP3) I2.bare
    have hTb : Tabbed P H2 (upd H2 P (.tbl (ps ++ more))) := ⟨⟨ps ++ more, upd_same, by rw [← em]; exact ht3⟩, fun b hb => upd_ne hb⟩
    refine hQ it fp tn J H2 _ { s2 with heap := h3, toks := tk } code h' q hT hTb I3 T (T.keep _ _ _ st2 fun b hb o e => keep3 b o (nP b hb) e) (fun b hb => ⟨tab_fp hT hTb f2 b hb, Nat.lt_of_lt_of_le (sz b hb) hsz⟩) hn' hs'
  cases hf : codeAmong gpos ps.toList with
  | none =>
    refine wpAny_genexprCodeX hcode (cd.code hPs ht) (cd.tab hPs) hf fun c' h' tk hx hge hlt hco' _ htab' _ => ?_
    obtain ⟨o1, vs, f1, tf, fl, tg', inF, tx, tt, op, _, _, _, _, _, _, _, _, _, htr, _⟩ := hco'
    exact cont _ h' tk _ hx (Nat.le_trans hge (Nat.le_of_lt hlt)) htab'.2 ⟨_, rfl⟩ htr
  | some cv =>
    refine wpAny_genexprCode_hit hcode (cd.code hPs ht) hf ?_
    exact cont cv s2.heap s2.toks ps (Heap.ExtBut.refl _ _) (Nat.le_refl _) hPs ⟨#[], by simp⟩ ht

/-! ### the readings -/
def tGx (P : Addr) (wi : TI) (g : TG) (tt : TT) (te : TE) (vs : List Nat) {α : Type} (a0 : Tok → α) (Cs : α → V → Hp → (α → Hp → Prop) → Prop) (Fn : α → Hp → Prop) : L2.St → Hp → Prop := fun σ H => wi σ H fun J H1 => TabG H1 P ∧ ∀ H1', Tabbed P H1 H1' →
  ∃ W : Nat → Nat → α → Hp → Prop, (∃ m, ∀ tk, W 0 m (a0 tk) H1') ∧ ∀ i m al H, W i m al H → (J.stop i H ∧ Fn al H) ∨ (J.go i H ∧ ∃ Nx : α → Hp → Prop, (∀ al' H', Nx al' H' → ∃ m', m' < m ∧ W (i + 1) m' al' H') ∧
    ∀ x H', J.yld i H x H' → g x (wipe σ vs) H' fun σ2 H2 => wipe σ2 vs = wipe σ vs ∧ tt σ2 H2 fun b H3 => if b = true then te σ2 H3 fun y H4 => Cs al y H4 Nx else Nx al H3)
def tAllG (P : Addr) (wi : TI) (g : TG) (tt : TT) (te : TE) (vs : List Nat) : TE := fun σ H Q => tGx P wi g tt te vs (fun _ => ()) (fun _ y H4 Nx => ∃ k, y = .bl k ∧ if k = true then Nx () H4 else Q (.bl false) H4) (fun _ H' => Q (.bl true) H') σ H
def tAnyG (P : Addr) (wi : TI) (g : TG) (tt : TT) (te : TE) (vs : List Nat) : TE := fun σ H Q => tGx P wi g tt te vs (fun _ => ()) (fun _ y H4 Nx => ∃ k, y = .bl k ∧ if k = true then Q (.bl true) H4 else Nx () H4) (fun _ H' => Q (.bl false) H') σ H
def tSumG (P : Addr) (wi : TI) (g : TG) (tt : TT) (te : TE) (vs : List Nat) : TE := fun σ H Q => tGx P wi g tt te vs (fun tk => ((0, tk, 0) : Int × Tok × Nat)) (fun al y H4 Nx => ∃ j, y = .int j ∧ ∀ tk c, Nx (al.1 + j, tk, c) H4) (fun al H' => Q (.int al.1) H') σ H

theorem over_frames {A : Around} {elt tg iter : Expr} {ifs : List Expr} {scope : Scope} {gpos : Pos} {it : Value} {env : Env} {l : List Env} (h : A.frames = some l) :
    (A.in1.in1.over (.compLoop (.GeneratorExp elt [⟨tg, iter, ifs, 0⟩] scope gpos) 0 it .none env) []).frames = some (env :: l) := by
  unfold Around.over
  simp only [List.map_nil]
  rw [h]
  rfl
theorem over_room {A : Around} {elt tg iter : Expr} {ifs : List Expr} {scope : Scope} {gpos : Pos} {it : Value} {env : Env} {k : Nat} (r : Room (k + 1) A) :
    Room k (A.in1.in1.over (.compLoop (.GeneratorExp elt [⟨tg, iter, ifs, 0⟩] scope gpos) 0 it .none env) []) := by
  refine ⟨r.hd, ?_, ?_⟩
  · have e : (A.in1.in1.over (.compLoop (.GeneratorExp elt [⟨tg, iter, ifs, 0⟩] scope gpos) 0 it .none env) []).depth = A.depth + 1 := rfl
    have := r.dp
    rw [e]
    omega
  · have e : (A.in1.in1.over (.compLoop (.GeneratorExp elt [⟨tg, iter, ifs, 0⟩] scope gpos) 0 it .none env) []).units ≤ A.units + 5 := Nat.le_of_eq rfl
    have := r.un
    omega
theorem inv_calm {σ' : L2.St} {H' : Hp} {s1 s2 : Shared} (I : Inv X pins σ' H' s1) (k : ∀ b o, s1.heap.get? b = some o → s2.heap.get? b = some o) (ho : s2.os = s1.os) (hb : AllBare s2.gens) : Inv X pins σ' H' s2 := by
  obtain ⟨hh, g, d, t, o⟩ := s2
  have e : o = s1.os := ho
  subst e
  exact I.call (ch := []) (g' := g) (t' := t) (d' := d) (Un.kept k) (I.hok.kept k) hb (fun b hb => absurd hb (by simp))
end
end Gx
set_option Elab.async false
set_option linter.all false
set_option maxRecDepth 100000
set_option maxHeartbeats 2000000
namespace Gx
open PySem PySem.Spec PyProof.Rows L2 GxR GenW

theorem wipe_at (σ : L2.St) : ∀ (vs : List Nat) (i : Nat), (wipe σ vs)[i]? = if i ∈ vs ∧ i < σ.length then some none else σ[i]?
  | [], i => by simp [wipe]
  | v :: vs, i => by
    unfold wipe
    by_cases hv : v = i
    · subst hv
      by_cases hl : v < σ.length
      · rw [List.getElem?_set_self (by rw [wipe_length]; exact hl), if_pos ⟨List.mem_cons_self, hl⟩]
      · rw [if_neg (fun z => hl z.2), List.getElem?_eq_none (by rw [List.length_set, wipe_length]; exact Nat.not_lt.mp hl), List.getElem?_eq_none (Nat.not_lt.mp hl)]
    · rw [List.getElem?_set_ne hv, wipe_at σ vs i]
      have e : (i ∈ v :: vs ∧ i < σ.length) = (i ∈ vs ∧ i < σ.length) := by
        rw [List.mem_cons]
        simp [Ne.symm hv]
      simp only [e]
theorem wipe_wipe (σ : L2.St) (vs : List Nat) : wipe (wipe σ vs) vs = wipe σ vs := by
  apply List.ext_getElem?
  intro i
  rw [wipe_at, wipe_at, wipe_length]
  by_cases h : i ∈ vs ∧ i < σ.length
  · rw [if_pos h, if_pos h]
  · rw [if_neg h]
section
variable {X : Cx} {pins : List (Addr × Obj)} {σ : L2.St} {H : Hp} {s : Shared} {α : Type}
/-- back in the def's context -/
theorem gex_back {cenv : Env} {fp : List Addr} {A : Around} {pins' : List (Addr × Obj)} {σ' : L2.St} {H' : Hp} {s' : Shared} (I : Inv X pins σ H s) (hf : ∀ b ∈ fp, FpOk X pins H b) (I' : Inv (gexCx X s H cenv fp A) pins' σ' H' s') : Inv X pins σ H' s' :=
  I.call' (ch := fp) I'.os I'.base I'.hok I'.bare fun b hb => ⟨(hf b hb).2.2.2.1, (hf b hb).2.1, (hf b hb).2.2.2.2.1, (hf b hb).2.2.2.2.2⟩

theorem gex_ready {elt tg iter : Expr} {ifs : List Expr} {scope : Scope} {gpos : Pos} {it : Addr} {fp : List Addr} {tn : Nat → Heap → Prop} {J : It} {g : TG} {tt : TT} {te : TE} {vs : List Nat} {xp : α → List (Addr × Obj)} {a0 : α}
    {Cs : α → V → Hp → (α → Hp → Prop) → Prop} {Fn : α → Hp → Prop} {W : Nat → Nat → α → Hp → Prop} {s3 s6 : Shared} {H2 : Hp} {cenv : Env} {a : Addr} {gn : Nat} {go : Obj} {σ0 : L2.St}
    (hh : X.A.handled = none) (hsc : cenv.scope = scope) (hco : scope.isCoroutine = false) (T : Turn X.prog X.w X.K tg J fp it tn)
    (pg : PG (gexCx X s3 H2 cenv fp (X.A.in1.in1.over (.compLoop (.GeneratorExp elt [⟨tg, iter, ifs, 0⟩] scope gpos) 0 (.ref it) .none cenv) [])) tg g)
    (pt : PTs (gexCx X s3 H2 cenv fp (X.A.in1.in1.over (.compLoop (.GeneratorExp elt [⟨tg, iter, ifs, 0⟩] scope gpos) 0 (.ref it) .none cenv) [])) ifs tt)
    (pe : PE (gexCx X s3 H2 cenv fp (X.A.in1.in1.over (.compLoop (.GeneratorExp elt [⟨tg, iter, ifs, 0⟩] scope gpos) 0 (.ref it) .none cenv) [])) elt te)
    (hxs : ∀ al, ∀ p ∈ xp al, s3.heap.objs.size ≤ p.1) (hpx : ∀ al, ∀ p ∈ xp al, p.1 ≠ a) (hpf : a ∉ fp) (hxf : ∀ al, ∀ p ∈ xp al, p.1 ∉ fp) (hw0 : wipe σ0 vs = σ0)
    (I6 : Inv (gexCx X s3 H2 cenv fp (X.A.in1.in1.over (.compLoop (.GeneratorExp elt [⟨tg, iter, ifs, 0⟩] scope gpos) 0 (.ref it) .none cenv) [])) ([(a, go)] ++ xp a0) σ0 H2 s6) (st6 : tn 0 s6.heap) (n6 : ∀ b ∈ fp, H2 b = none)
    (hig : s6.heap.IsGen a gn) (hgs : s6.gens[gn]? = some (.fresh (.compStart (.GeneratorExp elt [⟨tg, iter, ifs, 0⟩] scope gpos) 0 (.ref it) .none cenv)))
    {m0 : Nat} (w0 : W 0 m0 a0 H2)
    (turn : ∀ i m al H, W i m al H → (J.stop i H ∧ Fn al H) ∨ (J.go i H ∧ ∃ Nx : α → Hp → Prop, (∀ al' H', Nx al' H' → ∃ m', m' < m ∧ W (i + 1) m' al' H') ∧
      ∀ x H', J.yld i H x H' → g x σ0 H' fun σ2 H2 => wipe σ2 vs = σ0 ∧ tt σ2 H2 fun b H3 => if b = true then te σ2 H3 fun y H4 => Cs al y H4 Nx else Nx al H3)) :
    Rdy X.prog X.w X.A.in1 a gn (fun s₀ s₁ => GxR (gexCx X s3 H2 cenv fp (X.A.in1.in1.over (.compLoop (.GeneratorExp elt [⟨tg, iter, ifs, 0⟩] scope gpos) 0 (.ref it) .none cenv) [])) [(a, go)] xp (gn + 1) Fn 0 s₀ s₁)
      (GxY (gexCx X s3 H2 cenv fp (X.A.in1.in1.over (.compLoop (.GeneratorExp elt [⟨tg, iter, ifs, 0⟩] scope gpos) 0 (.ref it) .none cenv) [])) [(a, go)] xp (gn + 1) Cs) (m0 + 1) s6 := by
  refine ⟨hig, I6.nolimit, _, hgs, fun t => ⟨rfl, ?_⟩⟩
  have hlt : gn < s6.gens.size := (Array.getElem?_eq_some_iff.mp hgs).1
  have I7 := inv_calm (s2 := ({ s6 with toks := t } : Shared).setGen gn .running) I6 (fun _ _ e => e) rfl (allBare_set (s := { s6 with toks := t }) I6.bare rfl)
  have q := seg_gexLoop (X := gexCx X s3 H2 cenv fp (X.A.in1.in1.over (.compLoop (.GeneratorExp elt [⟨tg, iter, ifs, 0⟩] scope gpos) 0 (.ref it) .none cenv) [])) (A := X.A.in1.in1) (elt := elt) (iter := iter) (pos := gpos) (scope := scope) (gsz := gn + 1) (pp := [(a, go)]) (xp := xp) (Cs := Cs) (Fn := Fn) (W := W)
    T rfl rfl (by show cenv.scope.isCoroutine = false; rw [hsc]; exact hco) rfl rfl rfl pg pt pe hxs
    (fun al p hp hm => by
      obtain rfl := List.mem_singleton.mp hp
      obtain ⟨p', hp', e⟩ := List.mem_map.mp hm
      exact hpx al p' hp' e)
    (fun p hp hm => by
      obtain rfl := List.mem_singleton.mp hp
      exact hpf hm) hxf hw0 turn m0 (m0 + 1) 0 a0 H2 (({ s6 with toks := t } : Shared).setGen gn .running) (({ s6 with toks := t } : Shared).setGen gn .running) (Nat.le_refl _) w0 I7 st6 n6
    (by rw [setGen_size]; exact hlt) (fun p hp => (I6.pin p (List.mem_append_right _ (List.mem_append_right _ hp))).1)
  exact seg_gexStart (X := gexCx X s3 H2 cenv fp (X.A.in1.in1.over (.compLoop (.GeneratorExp elt [⟨tg, iter, ifs, 0⟩] scope gpos) 0 (.ref it) .none cenv) [])) T st6 q

section
variable {c P : Addr} {elt tg iter : Expr} {ifs : List Expr} {scope : Scope} {own : List (Str × Nat)} {p pos gpos : Pos} {wi : TI} {g : TG} {tt : TT} {te : TE} {k : Nat}
theorem isGen_obj {s3 : Shared} {h' : Heap} {q : Str} : (h'.push (gexObj s3 q)).IsGen h'.objs.size s3.gens.size := ⟨_, _, _, Heap.get?_push_size _ rfl, rfl, rfl, rfl⟩
theorem pe_allG (hr : Room (k + 1) X.A) (hN : X.N.Nodup) (TB : TabB X.base X.mg c P) (hcode : X.env.code = .ref c) (ok : BlkOk X.N X.env.scope scope own) (hm : X.mg "all" = none) (hi : PI X tg iter wi)
    (pg : ∀ s H C code fp A, Room k A → PG (gexCx X s H (genEnv scope (cloFrom X.env.cells scope.names []) C code builtinsNs X.env) fp A) tg g)
    (pt : ∀ s H C code fp A, Room k A → PTs (gexCx X s H (genEnv scope (cloFrom X.env.cells scope.names []) C code builtinsNs X.env) fp A) ifs tt)
    (pe : ∀ s H C code fp A, Room k A → PE (gexCx X s H (genEnv scope (cloFrom X.env.cells scope.names []) C code builtinsNs X.env) fp A) elt te)
    (hcell : ∀ y ∈ scope.names, y.2 ≠ .cell := by decide +kernel) (hco : scope.isCoroutine = false := by rfl) (hdot : scope.names.lookup (".0" : Str) = some NameKind.local := by rfl)
    (hg : Gl X "all" := by rfl) (hs : ∀ x, genFold iter X.env x = pure x := by intro _; rfl)
    (he : starEach [.GeneratorExp elt [⟨tg, iter, ifs, 0⟩] scope gpos] X.env = (false, eval (.GeneratorExp elt [⟨tg, iter, ifs, 0⟩] scope gpos) X.env) :: starEach [] X.env := by rfl) :
    PE X (.Call (.Name "all" p) [.GeneratorExp elt [⟨tg, iter, ifs, 0⟩] scope gpos] [] pos) (tAllG P wi g tt te (own.map (·.2))) := by
  refine ⟨fun pins s σ H Q I h => ?_⟩
  refine wpAny_Call_Name_kw (ld_blt I hg hm PyProof.Rows.boot_all ?_)
  refine PyProof.Rows.callWith_builtin1 ?_ he (by rfl)
  rw [he]
  show wpAny _ _ (spliced ((false, eval (.GeneratorExp elt [⟨tg, iter, ifs, 0⟩] scope gpos) X.env) :: backTo pos (starEach [] X.env))) _ _ s
  refine Calls.spliced_cons (gen_make hr TB hcode hco hdot ok hcell hi hs I h fun it fp tn J H1 H2 s3 code h' q hT hTb I3 T st3 f3 hn' hs' => ?_)
  obtain ⟨W, ⟨m0, w0⟩, turn⟩ := q H2 hTb
  refine Calls.spliced_nil ?_
  refine call_function_tree F.kind_all F.plain_all F.entry_all (F.args_all1 _) ?_
  unfold Builtin.«all»
  refine wpAny_bind (m := oneArg "all" _) (wpAny_pure ?_)
  refine wpAny_bind (wpAny_pyIter_gen isGen_obj ?_)
  have kp0 : ∀ b o, s3.heap.get? b = some o → h'.get? b = some o := fun b o e => hs'.extBut b o (Nat.ne_of_lt (Heap.lt_size e)) (Heap.get?_push_of_some _ e)
  have I5 := gex_start (go := gexObj s3 X.env.qual) (tk := s3.toks + 1 + 1 + 1) (code := code) (own := own) I3 ok hN hcell f3 (over_frames (elt := elt) (tg := tg) (iter := iter) (ifs := ifs) (gpos := gpos) (it := .ref it) (scope := scope) (show X.A.frames = some X.stack from I3.ok.frames)) hr.hd hn' hs' (fun v z => by cases z) rfl
    (I3.bare.push (g := .fresh (.compStart (.GeneratorExp elt [⟨tg, iter, ifs, 0⟩] scope gpos) 0 (.ref it) .none (genEnv scope (cloFrom X.env.cells scope.names []) s3.heap.objs.size code builtinsNs X.env))) rfl)
  have room := over_room (elt := elt) (tg := tg) (iter := iter) (ifs := ifs) (gpos := gpos) (it := .ref it) (scope := scope) (env := genEnv scope (cloFrom X.env.cells scope.names []) s3.heap.objs.size code builtinsNs X.env) hr
  have hsz : h'.objs.size = s3.heap.objs.size + 1 := by rw [hs'.1, Heap.size_push]
  have rdy := gex_ready (xp := fun _ : Unit => []) (a0 := ()) (W := W) (go := gexObj s3 X.env.qual) (vs := own.map (·.2)) hr.hd rfl hco T (pg _ _ _ _ _ _ room) (pt _ _ _ _ _ _ room) (pe _ _ _ _ _ _ room) (fun _ p hp => by cases hp) (fun _ p hp => by cases hp)
    (fun hm => absurd (f3 _ hm).2 (by rw [hsz]; exact Nat.not_lt.mpr (Nat.le_succ _))) (fun _ p hp => by cases hp) (wipe_wipe _ _) I5 (T.keep _ _ _ st3 fun b _ o e => Heap.get?_push_of_some _ (kp0 b o e)) (fun b hb => (f3 b hb).1.1) isGen_obj (Array.getElem?_push_size ..) (w0 0) turn
  refine wpAny_pure ⟨plainId_quiet F.plain_all_loop _, codeAny_all_gen (S := fun s' => ∃ H', Inv X pins σ H' s' ∧ Q (.bl false) H') hr.hd (by have := hr.dp; omega) (fun n s₀ v s' kap hy => ?_) (fun s1 s2 hS eh eo eb => ?_) (fun s₀ s1 s2 hS k eo eb => ?_) (fun s₀ s1 ⟨_, _, _, J, _⟩ => J.bare) (m0 + 1) _ rdy⟩
  · obtain ⟨al, y, σ', H', Nx, r, J', hgz, _, ⟨b, ey, hb⟩, kk⟩ := hy
    subst ey
    obtain rfl : v = Value.bool b := r
    have hp := J'.pin (h'.objs.size, gexObj s3 X.env.qual) (List.mem_append_right _ (by simp))
    refine ⟨b, rfl, hgz, ⟨_, _, _, hp.1, rfl, rfl, rfl⟩, J'.nolimit, J'.bare, ?_⟩
    cases b with
    | true => exact fun s'' eh eo eg eb => kk () s'' hb ⟨eo, eb, by rw [← eg]; exact hgz, fun b o _ e => by rw [eh]; exact e, fun p hp => (by cases hp), rfl, fun p hp => (by cases hp)⟩
    | false => exact ⟨H', gex_back I3 (fun b hb => (f3 b hb).1) J', hb⟩
  · obtain ⟨H', J', q'⟩ := hS
    exact ⟨.bl false, H', inv_calm J' (fun b o e => by rw [eh]; exact e) eo eb, rfl, q'⟩
  · obtain ⟨al, σ', H', J', q', _⟩ := hS
    exact ⟨.bl true, H', inv_calm (gex_back I3 (fun b hb => (f3 b hb).1) J') k eo eb, rfl, q'⟩
theorem pe_anyG (hr : Room (k + 1) X.A) (hN : X.N.Nodup) (TB : TabB X.base X.mg c P) (hcode : X.env.code = .ref c) (ok : BlkOk X.N X.env.scope scope own) (hm : X.mg "any" = none) (hi : PI X tg iter wi)
    (pg : ∀ s H C code fp A, Room k A → PG (gexCx X s H (genEnv scope (cloFrom X.env.cells scope.names []) C code builtinsNs X.env) fp A) tg g)
    (pt : ∀ s H C code fp A, Room k A → PTs (gexCx X s H (genEnv scope (cloFrom X.env.cells scope.names []) C code builtinsNs X.env) fp A) ifs tt)
    (pe : ∀ s H C code fp A, Room k A → PE (gexCx X s H (genEnv scope (cloFrom X.env.cells scope.names []) C code builtinsNs X.env) fp A) elt te)
    (hcell : ∀ y ∈ scope.names, y.2 ≠ .cell := by decide +kernel) (hco : scope.isCoroutine = false := by rfl) (hdot : scope.names.lookup (".0" : Str) = some NameKind.local := by rfl)
    (hg : Gl X "any" := by rfl) (hs : ∀ x, genFold iter X.env x = pure x := by intro _; rfl)
    (he : starEach [.GeneratorExp elt [⟨tg, iter, ifs, 0⟩] scope gpos] X.env = (false, eval (.GeneratorExp elt [⟨tg, iter, ifs, 0⟩] scope gpos) X.env) :: starEach [] X.env := by rfl) :
    PE X (.Call (.Name "any" p) [.GeneratorExp elt [⟨tg, iter, ifs, 0⟩] scope gpos] [] pos) (tAnyG P wi g tt te (own.map (·.2))) := by
  refine ⟨fun pins s σ H Q I h => ?_⟩
  refine wpAny_Call_Name_kw (ld_blt I hg hm PyProof.Rows.boot_any ?_)
  refine PyProof.Rows.callWith_builtin1 ?_ he (by rfl)
  rw [he]
  show wpAny _ _ (spliced ((false, eval (.GeneratorExp elt [⟨tg, iter, ifs, 0⟩] scope gpos) X.env) :: backTo pos (starEach [] X.env))) _ _ s
  refine Calls.spliced_cons (gen_make hr TB hcode hco hdot ok hcell hi hs I h fun it fp tn J H1 H2 s3 code h' q hT hTb I3 T st3 f3 hn' hs' => ?_)
  obtain ⟨W, ⟨m0, w0⟩, turn⟩ := q H2 hTb
  refine Calls.spliced_nil ?_
  refine call_function_tree F.kind_any F.plain_any F.entry_any (F.args_any1 _) ?_
  unfold Builtin.«any»
  refine wpAny_bind (m := oneArg "any" _) (wpAny_pure ?_)
  refine wpAny_bind (wpAny_pyIter_gen isGen_obj ?_)
  have kp0 : ∀ b o, s3.heap.get? b = some o → h'.get? b = some o := fun b o e => hs'.extBut b o (Nat.ne_of_lt (Heap.lt_size e)) (Heap.get?_push_of_some _ e)
  have I5 := gex_start (go := gexObj s3 X.env.qual) (tk := s3.toks + 1 + 1 + 1) (code := code) (own := own) I3 ok hN hcell f3 (over_frames (elt := elt) (tg := tg) (iter := iter) (ifs := ifs) (gpos := gpos) (it := .ref it) (scope := scope) (show X.A.frames = some X.stack from I3.ok.frames)) hr.hd hn' hs' (fun v z => by cases z) rfl
    (I3.bare.push (g := .fresh (.compStart (.GeneratorExp elt [⟨tg, iter, ifs, 0⟩] scope gpos) 0 (.ref it) .none (genEnv scope (cloFrom X.env.cells scope.names []) s3.heap.objs.size code builtinsNs X.env))) rfl)
  have room := over_room (elt := elt) (tg := tg) (iter := iter) (ifs := ifs) (gpos := gpos) (it := .ref it) (scope := scope) (env := genEnv scope (cloFrom X.env.cells scope.names []) s3.heap.objs.size code builtinsNs X.env) hr
  have hsz : h'.objs.size = s3.heap.objs.size + 1 := by rw [hs'.1, Heap.size_push]
  have rdy := gex_ready (xp := fun _ : Unit => []) (a0 := ()) (W := W) (go := gexObj s3 X.env.qual) (vs := own.map (·.2)) hr.hd rfl hco T (pg _ _ _ _ _ _ room) (pt _ _ _ _ _ _ room) (pe _ _ _ _ _ _ room) (fun _ p hp => by cases hp) (fun _ p hp => by cases hp)
    (fun hm => absurd (f3 _ hm).2 (by rw [hsz]; exact Nat.not_lt.mpr (Nat.le_succ _))) (fun _ p hp => by cases hp) (wipe_wipe _ _) I5 (T.keep _ _ _ st3 fun b _ o e => Heap.get?_push_of_some _ (kp0 b o e)) (fun b hb => (f3 b hb).1.1) isGen_obj (Array.getElem?_push_size ..) (w0 0) turn
  refine wpAny_pure ⟨plainId_quiet F.plain_any_loop _, codeAny_any_gen (S := fun s' => ∃ H', Inv X pins σ H' s' ∧ Q (.bl true) H') hr.hd (by have := hr.dp; omega) (fun n s₀ v s' kap hy => ?_) (fun s1 s2 hS eh eo eb => ?_) (fun s₀ s1 s2 hS k eo eb => ?_) (fun s₀ s1 ⟨_, _, _, J, _⟩ => J.bare) (m0 + 1) _ rdy⟩
  · obtain ⟨al, y, σ', H', Nx, r, J', hgz, _, ⟨b, ey, hb⟩, kk⟩ := hy
    subst ey
    obtain rfl : v = Value.bool b := r
    have hp := J'.pin (h'.objs.size, gexObj s3 X.env.qual) (List.mem_append_right _ (by simp))
    refine ⟨b, rfl, hgz, ⟨_, _, _, hp.1, rfl, rfl, rfl⟩, J'.nolimit, J'.bare, ?_⟩
    cases b with
    | false => exact fun s'' eh eo eg eb => kk () s'' hb ⟨eo, eb, by rw [← eg]; exact hgz, fun b o _ e => by rw [eh]; exact e, fun p hp => (by cases hp), rfl, fun p hp => (by cases hp)⟩
    | true => exact ⟨H', gex_back I3 (fun b hb => (f3 b hb).1) J', hb⟩
  · obtain ⟨H', J', q'⟩ := hS
    exact ⟨.bl true, H', inv_calm J' (fun b o e => by rw [eh]; exact e) eo eb, rfl, q'⟩
  · obtain ⟨al, σ', H', J', q', _⟩ := hS
    exact ⟨.bl false, H', inv_calm (gex_back I3 (fun b hb => (f3 b hb).1) J') k eo eb, rfl, q'⟩
theorem pe_sumG (hr : Room (k + 1) X.A) (hN : X.N.Nodup) (TB : TabB X.base X.mg c P) (hcode : X.env.code = .ref c) (ok : BlkOk X.N X.env.scope scope own) (hm : X.mg "sum" = none) (hi : PI X tg iter wi)
    (pg : ∀ s H C code fp A, Room k A → PG (gexCx X s H (genEnv scope (cloFrom X.env.cells scope.names []) C code builtinsNs X.env) fp A) tg g)
    (pt : ∀ s H C code fp A, Room k A → PTs (gexCx X s H (genEnv scope (cloFrom X.env.cells scope.names []) C code builtinsNs X.env) fp A) ifs tt)
    (pe : ∀ s H C code fp A, Room k A → PE (gexCx X s H (genEnv scope (cloFrom X.env.cells scope.names []) C code builtinsNs X.env) fp A) elt te)
    (hcell : ∀ y ∈ scope.names, y.2 ≠ .cell := by decide +kernel) (hco : scope.isCoroutine = false := by rfl) (hdot : scope.names.lookup (".0" : Str) = some NameKind.local := by rfl)
    (hg : Gl X "sum" := by rfl) (hs : ∀ x, genFold iter X.env x = pure x := by intro _; rfl)
    (he : starEach [.GeneratorExp elt [⟨tg, iter, ifs, 0⟩] scope gpos] X.env = (false, eval (.GeneratorExp elt [⟨tg, iter, ifs, 0⟩] scope gpos) X.env) :: starEach [] X.env := by rfl) :
    PE X (.Call (.Name "sum" p) [.GeneratorExp elt [⟨tg, iter, ifs, 0⟩] scope gpos] [] pos) (tSumG P wi g tt te (own.map (·.2))) := by
  refine ⟨fun pins s σ H Q I h => ?_⟩
  refine wpAny_Call_Name_kw (ld_blt I hg hm PyProof.Rows.boot_sum ?_)
  refine PyProof.Rows.callWith_builtin1 ?_ he (by rfl)
  rw [he]
  show wpAny _ _ (spliced ((false, eval (.GeneratorExp elt [⟨tg, iter, ifs, 0⟩] scope gpos) X.env) :: backTo pos (starEach [] X.env))) _ _ s
  refine Calls.spliced_cons (gen_make hr TB hcode hco hdot ok hcell hi hs I h fun it fp tn J H1 H2 s3 code h' q hT hTb I3 T st3 f3 hn' hs' => ?_)
  obtain ⟨W, ⟨m0, w0⟩, turn⟩ := q H2 hTb
  refine Calls.spliced_nil ?_
  refine call_function_tree F.kind_sum F.plain_sum F.entry_sum (F.args_sum1 _) ?_
  unfold Builtin.«sum»
  simp only [List.length_cons, List.length_nil]
  rw [if_neg (by decide)]
  refine wpAny_bind (wpAny_of_eq (show Builtin.Builtins.bindParams "sum" ["start"] 0 { } = pure [none] from rfl) ?_)
  refine wpAny_bind (wpAny_pyIter_gen isGen_obj ?_)
  refine wpAny_bind (wpAny_mkInt ?_)
  refine wpAny_bind (wpAny_pure ?_)
  simp only [List.forIn_cons, List.forIn_nil]
  refine wpAny_bind (wpAny_bind (wpAny_bind (wpAny_isInstance (T := "int") (b := false) (typeIs_int _ _ _) PySem.sub_int_str ?_)))
  simp only [Bool.false_eq_true, if_false]
  refine wpAny_pure (wpAny_bind (wpAny_bind (wpAny_isInstance (T := "int") (b := false) (typeIs_int _ _ _) PySem.sub_int_bytes ?_)))
  simp only [Bool.false_eq_true, if_false]
  refine wpAny_pure (wpAny_bind (wpAny_bind (wpAny_isInstance (T := "int") (b := false) (typeIs_int _ _ _) PySem.sub_int_bytearray ?_)))
  simp only [Bool.false_eq_true, if_false]
  refine wpAny_pure (wpAny_pure ?_)
  refine wpAny_bind (wpAny_newObj_type ?_)
  have kp0 : ∀ b o, s3.heap.get? b = some o → h'.get? b = some o := fun b o e => hs'.extBut b o (Nat.ne_of_lt (Heap.lt_size e)) (Heap.get?_push_of_some _ e)
  have I5 := gex_start (go := gexObj s3 X.env.qual) (tk := s3.toks + 1 + 1 + 1) (code := code) (own := own) I3 ok hN hcell f3 (over_frames (elt := elt) (tg := tg) (iter := iter) (ifs := ifs) (gpos := gpos) (it := .ref it) (scope := scope) (show X.A.frames = some X.stack from I3.ok.frames)) hr.hd hn' hs' (fun v z => by cases z) rfl
    (I3.bare.push (g := .fresh (.compStart (.GeneratorExp elt [⟨tg, iter, ifs, 0⟩] scope gpos) 0 (.ref it) .none (genEnv scope (cloFrom X.env.cells scope.names []) s3.heap.objs.size code builtinsNs X.env))) rfl)
  have room := over_room (elt := elt) (tg := tg) (iter := iter) (ifs := ifs) (gpos := gpos) (it := .ref it) (scope := scope) (env := genEnv scope (cloFrom X.env.cells scope.names []) s3.heap.objs.size code builtinsNs X.env) hr
  have hsz : h'.objs.size = s3.heap.objs.size + 1 := by rw [hs'.1, Heap.size_push]
  generalize hhp : h'.push (gexObj s3 X.env.qual) = hp at I5 ⊢
  have hpsz : hp.objs.size = s3.heap.objs.size + 2 := by rw [← hhp, Heap.size_push, hsz]
  have kp1 : ∀ b o, s3.heap.get? b = some o → hp.get? b = some o := fun b o e => by rw [← hhp]; exact Heap.get?_push_of_some _ (kp0 b o e)
  have hig0 : hp.IsGen h'.objs.size s3.gens.size := by rw [← hhp]; exact isGen_obj
  -- the sum's own list
  have nS : hp.objs.size ≠ s3.heap.objs.size + 1 := by rw [hpsz]; exact Nat.succ_ne_self _
  have eS : (hp.push ({ cls := .type "list", data := .seq #[Value.int 0 (s3.toks + 1 + 1 + 1)] } : Obj)).get? hp.objs.size = some (sumObj 0 (s3.toks + 1 + 1 + 1) 0) := Heap.get?_push_size _ rfl
  have kp2 : ∀ b o, hp.get? b = some o → (hp.push ({ cls := .type "list", data := .seq #[Value.int 0 (s3.toks + 1 + 1 + 1)] } : Obj)).get? b = some o := fun b o e => Heap.get?_push_of_some _ e
  have I6 := inv_calm (s2 := { s3 with heap := hp.push ({ cls := .type "list", data := .seq #[Value.int 0 (s3.toks + 1 + 1 + 1)] } : Obj), gens := s3.gens.push (.fresh (.compStart (.GeneratorExp elt [⟨tg, iter, ifs, 0⟩] scope gpos) 0 (.ref it) .none (genEnv scope (cloFrom X.env.cells scope.names []) s3.heap.objs.size code builtinsNs X.env))), toks := s3.toks + 1 + 1 + 1 + 1 }) I5 kp2 rfl I5.bare
  have I7 := I6.pins_of (pins' := [(h'.objs.size, gexObj s3 X.env.qual)] ++ [(hp.objs.size, sumObj 0 (s3.toks + 1 + 1 + 1) 0)]) fun p hp' => by
    rcases List.mem_append.mp hp' with hp' | hp'
    · exact I6.pin p (List.mem_append_right _ hp')
    · obtain rfl := List.mem_singleton.mp hp'
      refine ⟨eS, I3.hok.fresh (by rw [hpsz]; exact Nat.le_add_right _ _), ?_, ?_, fun v z => by cases z⟩
      · show hp.objs.size ≠ s3.heap.objs.size
        rw [hpsz]
        exact Nat.ne_of_gt (Nat.lt_add_of_pos_right (by decide))
      · intro z
        have z : hp.objs.size ∈ frs X.stack := z
        rcases List.mem_cons.mp (I3.stkSub _ z) with z | z
        · have q := I3.lt
          rw [← z, hpsz] at q
          exact absurd q (Nat.not_lt.mpr (Nat.le_add_right _ _))
        · exact I3.nofs (by rw [hpsz]; exact Nat.le_add_right _ _) z
  have rdy := gex_ready (α := Int × Tok × Nat) (xp := fun al => [(hp.objs.size, sumObj al.1 al.2.1 al.2.2)]) (a0 := (0, s3.toks + 1 + 1 + 1, 0)) (W := W) (Fn := fun al H' => Q (.int al.1) H')
    (Cs := fun al y H4 Nx => ∃ j, y = .int j ∧ ∀ tk c, Nx (al.1 + j, tk, c) H4) (go := gexObj s3 X.env.qual) (vs := own.map (·.2)) hr.hd rfl hco T (pg _ _ _ _ _ _ room) (pt _ _ _ _ _ _ room) (pe _ _ _ _ _ _ room)
    (fun _ p hp' => by
      obtain rfl := List.mem_singleton.mp hp'
      show _ ≤ hp.objs.size
      rw [hpsz]
      exact Nat.le_add_right _ _)
    (fun _ p hp' => by
      obtain rfl := List.mem_singleton.mp hp'
      show hp.objs.size ≠ h'.objs.size
      rw [hsz]
      exact nS)
    (fun hm => absurd (f3 _ hm).2 (by rw [hsz]; exact Nat.not_lt.mpr (Nat.le_succ _)))
    (fun _ p hp' hm => by
      obtain rfl := List.mem_singleton.mp hp'
      have q := (f3 _ hm).2
      have q2 : hp.objs.size < s3.heap.objs.size := q
      rw [hpsz] at q2
      exact absurd q2 (Nat.not_lt.mpr (Nat.le_add_right _ _)))
    (wipe_wipe _ _) I7 (T.keep _ _ _ st3 fun b _ o e => kp2 b o (kp1 b o e)) (fun b hb => (f3 b hb).1.1) (let ⟨o, nm, qn, ho, r⟩ := hig0; ⟨o, nm, qn, kp2 _ o ho, r⟩) (Array.getElem?_push_size ..) (w0 _) turn
  refine wpAny_pure ⟨plainId_quiet F.plain_sum_loop _, codeAny_sum_gen (S := hp.objs.size) hr.hd (by have := hr.dp; omega) (fun n s₀ v s' kap hy => ?_) (fun s₀ s1 s2 i t hS h0 k eo eb => ?_) (fun s₀ s1 ⟨_, _, _, J, _⟩ => J.bare) (m0 + 1) _ 0 _ _ 0 (.inl rfl) eS rdy⟩
  · obtain ⟨al, y, σ', H', Nx, r, J', hgz, h0, ⟨j, ey, hb⟩, kk⟩ := hy
    subst ey
    obtain ⟨tj, rfl⟩ := r
    have hpA := (J'.pin (h'.objs.size, gexObj s3 X.env.qual) (List.mem_append_right _ (by simp))).1
    have hpS := (J'.pin (hp.objs.size, sumObj al.1 al.2.1 al.2.2) (List.mem_append_right _ (by simp))).1
    refine ⟨j, tj, al.1, al.2.1, al.2.2, rfl, h0 (hp.objs.size, sumObj al.1 al.2.1 al.2.2) (by simp), hpS, hgz, fun h2 hk => ⟨⟨_, _, _, hk _ _ (by rw [hsz]; exact Ne.symm nS) hpA, rfl, rfl, rfl⟩, ?_⟩, J'.bare, fun s'' hk ⟨tk, c', hS2⟩ eo eg eb => ?_⟩
    · refine J'.ok.mod.nolimit.keeps fun b o e => hk b o (fun z => ?_) (J'.bk b o e)
      have q := Nat.lt_of_lt_of_le (Heap.lt_size e) (Nat.le_trans I3.ok.bsz I3.sz)
      rw [z, hpsz] at q
      exact absurd q (Nat.not_lt.mpr (Nat.le_add_right _ _))
    · refine kk (al.1 + j, tk, c') s'' (hb tk c') ⟨eo, eb, by rw [← eg]; exact hgz, fun b o hb e => hk b o (fun z => hb (by rw [z]; simp)) e, fun p hp' => ?_, rfl, fun p hp' => ?_⟩
      · obtain rfl := List.mem_singleton.mp hp'
        exact hS2
      · obtain rfl := List.mem_singleton.mp hp'
        exact fun v z => by cases z
  · obtain ⟨al, σ', H', J', q', _, h1⟩ := hS
    obtain ⟨tk, c', h2⟩ := h0
    have h1' := h1 (hp.objs.size, sumObj al.1 al.2.1 al.2.2) (by simp)
    have h1'' : s₀.heap.get? hp.objs.size = some (sumObj al.1 al.2.1 al.2.2) := h1'
    rw [h2] at h1''
    have ei : i = al.1 := by
      have z := congrArg Obj.data (Option.some.inj h1'')
      have z2 : (Data.seq #[Value.int i tk] c') = Data.seq #[Value.int al.1 al.2.1] al.2.2 := z
      injection z2 with z3 _
      have z4 := congrArg Array.toList z3
      simp at z4
      exact z4.1
    rw [ei]
    exact ⟨.int al.1, H', inv_calm (gex_back I3 (fun b hb => (f3 b hb).1) J') k eo eb, ⟨t, rfl⟩, q'⟩
end
end
end Gx
set_option Elab.async false
set_option linter.all false
set_option maxRecDepth 100000
set_option maxHeartbeats 2000000
/-! {k: v for .. in .. for .. in ..} -/
namespace Gx
open PySem PySem.Spec PyProof.Rows L2

abbrev dc2 (kx vx t0 i0 t1 i1 : Expr) (ifs0 ifs1 : List Expr) (scope : Scope) (pos : Pos) : Expr := .DictComp kx vx [⟨t0, i0, ifs0, 0⟩, ⟨t1, i1, ifs1, 0⟩] scope pos
section
variable {kx vx t0 i0 t1 i1 : Expr} {ifs0 ifs1 : List Expr} {scope : Scope} {pos : Pos}
theorem inner_in {X : Cx} {pins : List (Addr × Obj)} {σ : L2.St} {H : Hp} {s : Shared} {D it : Addr} {fp : List Addr} {tn : Nat → Heap → Prop} {J : It} {g : TG} {tt : TT} {tk tv : TE} {vs1 : List Nat} {W : Nat → Nat → Hp → Prop} {m0 : Nat} {Z : L2.St → Hp → Prop}
    (hcalm : X.calm = true) (hxe : X.xe = fun _ _ => False) (T : Turn X.prog X.w X.K t1 J fp it tn) (pg : PG X t1 g) (pt : PTs X ifs1 tt) (pk : PE X kx tk) (pv : PE X vx tv)
    (I : Inv X pins σ H s) (st : tn 0 s.heap) (hf : ∀ b ∈ fp, FpOk X pins H b) (w0 : W 0 m0 H)
    (turn : ∀ i m H, W i m H → (J.stop i H ∧ Z (wipe σ vs1) H) ∨ (J.go i H ∧ ∃ Nx : Hp → Prop, (∀ H', Nx H' → ∃ m', m' < m ∧ W (i + 1) m' H') ∧ ∀ x H', J.yld i H x H' → g x (wipe σ vs1) H' fun σ3 H5 => wipe σ3 vs1 = wipe σ vs1 ∧ tt σ3 H5 fun b H6 =>
      if b = true then tk σ3 H6 fun y H7 => tv σ3 H7 fun z H8 => ∃ kvs k, y = kV k ∧ H8 D = some (.dK kvs) ∧ kvs.length < sizeLine ∧ Nx (upd H8 D (.dK (putK kvs k z))) else Nx H6)) :
    codeAny (model X.prog X.w) X.A (.compLoop (dc2 kx vx t0 i0 t1 i1 ifs0 ifs1 scope pos) 1 (.ref it) (.ref D) X.env)
      (fun r s' => match r with | .ok _ => ∃ σ' H', Inv X pins σ' H' s' ∧ Z σ' H' | .error _ => False) s := by
  refine codeAny_loop rfl (fun n s' => ∃ i H', Inv X pins (wipe σ vs1) H' s' ∧ tn i s'.heap ∧ (∀ b ∈ fp, H' b = none) ∧ W i n H') ?_ m0 ⟨0, H, I.weak (wipe_length _ _) (fun j v e => (wipe_some e).1), st, fun b hb => (hf b hb).1, w0⟩
  rintro n s5 ⟨i, H5, I5, st5, n5, w5⟩
  have stat : ∀ {H' : Hp}, (∀ b ∈ fp, H' b = none) → ∀ b ∈ fp, FpOk X pins H' b := fun hn b hb => ⟨hn b hb, (hf b hb).2⟩
  show wpAny _ X.A ((compTurn (dc2 kx vx t0 i0 t1 i1 ifs0 ifs1 scope pos) 1 (.ref it) (.ref D) X.env).onRaise (fun x => do noteFrame x X.env; theTreesLotGoes x)) _ _ s5
  refine wpAny_noted ?_
  dsimp only [compTurn, dc2]
  refine wpAny_bind (wpAny_standAt (wpAny_bind ?_))
  rcases turn i n H5 w5 with ⟨stop, qq⟩ | ⟨go, Nx, hNx, step⟩
  · refine thnF (T.done X rfl rfl rfl hcalm i _ s5 _ H5 (fun _ _ => False) I5 (stat n5) st5 stop) fun r s6 ⟨hr, I6⟩ => ?_
    subst hr
    exact wpAny_pure ⟨_, H5, I6, qq⟩
  · refine thnF (T.item X rfl rfl rfl hcalm i _ s5 _ H5 (fun _ _ => False) I5 (stat n5) st5 go) fun r s6 ⟨u, hr, h6⟩ => ?_
    subst hr
    refine wpAny_bind (thnF h6 fun _ s7 ⟨x, H7, I7, r7, y7, st7, n7⟩ => ?_)
    have I7' := I7.pinned (stat n7) (T.obj _ _ st7)
    have pgr := pg.run _ s7 _ H7 x u _ I7' r7 (step x H7 y7)
    rw [hxe] at pgr
    refine wpAny_bind (thnF pgr fun _ s8 ⟨σ8, H8, I8, hw8, q8⟩ => ?_)
    have ptr := pt.run _ s8 σ8 H8 _ I8 q8
    rw [hxe] at ptr
    refine wpAny_bind (thnF ptr fun b s9 ⟨H9, I9, q9⟩ => ?_)
    have fin : ∀ {s' : Shared} {H' : Hp}, Inv X (pins ++ pinsAt fp s7.heap) σ8 H' s' → Nx H' → ∃ m, m < n ∧ ∃ i H', Inv X pins (wipe σ vs1) H' s' ∧ tn i s'.heap ∧ (∀ b ∈ fp, H' b = none) ∧ W i m H' := fun {s' H'} I' nx => by
      obtain ⟨m', hm, w'⟩ := hNx H' nx
      have pin' : ∀ b ∈ fp, ∀ o, s7.heap.get? b = some o → s'.heap.get? b = some o ∧ H' b = none := fun b hb o e =>
        let z := I'.pin (b, o) (List.mem_append_right _ (List.mem_append_right _ (mem_pinsAt hb e)))
        ⟨z.1, z.2.1⟩
      have hl : (wipe σ vs1).length = σ8.length := by rw [← hw8, wipe_length]
      refine ⟨m', hm, i + 1, H', (I'.pins_of fun p hp => I'.pin p (List.mem_append_right _ (List.mem_append_left _ hp))).weak hl (fun j v e => ?_), T.keep _ _ _ st7 fun b hb o e => (pin' b hb o e).1, fun b hb => ?_, w'⟩
      · rw [← hw8] at e
        exact (wipe_some e).1
      · obtain ⟨o, e, _⟩ := T.obj _ _ st7 b hb
        exact (pin' b hb o e).2
    cases b with
    | false =>
      simp only [Bool.false_eq_true, if_false] at q9
      exact wpAny_pure ⟨rfl, fin I9 q9⟩
    | true =>
      simp only [if_true] at q9
      have pkr := pk.run _ s9 σ8 H9 _ I9 q9
      rw [hxe] at pkr
      refine wpAny_bind (wpAny_bind (thnF pkr fun kv s10 ⟨ky, H10, I10, r10, q10⟩ => ?_))
      have pvr := pv.run _ s10 σ8 H10 _ I10 q10
      rw [hxe] at pvr
      refine wpAny_bind (wpAny_holding (thnF pvr fun vv s11 ⟨vy, H11, I11, r11, kvs, k, ek, hD, hz, nx⟩ => ?_))
      subst ek
      refine wpAny_bind (wpAny_standAt ?_)
      refine wpAny_holding (d_dictSet I11 hD hz r10 r11 fun s12 I12 => ?_)
      exact wpAny_pure ⟨rfl, fin I12 nx⟩

/-- a clause's start -/
theorem startD {prog : Program} {w : World} {A : Around} {R : Result → Shared → Prop} {s : Shared} {it : Addr} {D : Addr} {env : Env} {d : Nat} (hd : d = 0 ∨ d = 1) (hself : ∀ (A : Around) (Q : Value → Shared → Prop) (E : Value → Shared → Prop), Q (.ref it) s → wpAny (model prog w) A (pyIter (.ref it)) Q E s)
    (h : codeAny (model prog w) A (.compLoop (dc2 kx vx t0 i0 t1 i1 ifs0 ifs1 scope pos) d (.ref it) (.ref D) env) R s) : codeAny (model prog w) A (.compStart (dc2 kx vx t0 i0 t1 i1 ifs0 ifs1 scope pos) d (.ref it) (.ref D) env) R s := by
  refine codeAny_of_tree ?_
  show wpAny _ _ ((compStart (dc2 kx vx t0 i0 t1 i1 ifs0 ifs1 scope pos) d (.ref it) (.ref D) env).onRaise (fun x => do noteFrame x env; standAt theWindowsPlace)) _ _ s
  refine wpAny_notedAt ?_
  unfold compStart
  rcases hd with rfl | rfl
  · show wpAny _ _ (ask >>= _) _ _ s
    refine wpAny_bind (wpAny_askSetting (wpAny_ite ?_))
    split
    · exact wpAny_bind (wpAny_pure (wpAny_pure (And.intro rfl h)))
    · refine wpAny_bind (wpAny_rule ?_)
      show wpAny _ _ (standAt i0.pos >>= _) _ _ s
      exact wpAny_bind (wpAny_standAt (wpAny_bind (hself _ _ _ (wpAny_pure (And.intro rfl h)))))
  · show wpAny _ _ (ask >>= _) _ _ s
    refine wpAny_bind (wpAny_askSetting (wpAny_ite ?_))
    split
    · exact wpAny_bind (wpAny_pure (wpAny_pure (And.intro rfl h)))
    · refine wpAny_bind (wpAny_rule ?_)
      show wpAny _ _ (standAt i1.pos >>= _) _ _ s
      exact wpAny_bind (wpAny_standAt (wpAny_bind (hself _ _ _ (wpAny_pure (And.intro rfl h)))))

/-- {k: v for t0 in i0 if .. for t1 in i1 if ..}, keys ints or texts -/
def tDc2 (wi : TI) (g : TG) (tt : TT) (wi1 : TI) (g1 : TG) (tt1 : TT) (tk tv : TE) (vs vs1 : List Nat) : TE := fun σ H Q => wi σ H fun J H1 => ∀ D, H1 D = none → ∃ W : Nat → Nat → Hp → Prop, (∃ m, W 0 m (upd H1 D (.dK []))) ∧ ∀ i m H, W i m H →
  (J.stop i H ∧ Q (.ref D) H) ∨ (J.go i H ∧ ∃ Nx : Hp → Prop, (∀ H', Nx H' → ∃ m', m' < m ∧ W (i + 1) m' H') ∧ ∀ x H', J.yld i H x H' → g x (wipe σ vs) H' fun σ2 H2 => wipe σ2 vs = wipe σ vs ∧ tt σ2 H2 fun b H3 =>
    if b = true then wi1 σ2 H3 fun J1 H4 => ∃ W1 : Nat → Nat → Hp → Prop, (∃ m, W1 0 m H4) ∧ ∀ j k H, W1 j k H →
      (J1.stop j H ∧ Nx H) ∨ (J1.go j H ∧ ∃ Nx1 : Hp → Prop, (∀ H', Nx1 H' → ∃ k', k' < k ∧ W1 (j + 1) k' H') ∧ ∀ x H', J1.yld j H x H' → g1 x (wipe σ2 vs1) H' fun σ3 H5 => wipe σ3 vs1 = wipe σ2 vs1 ∧ tt1 σ3 H5 fun b H6 =>
        if b = true then tk σ3 H6 fun y H7 => tv σ3 H7 fun z H8 => ∃ kvs k, y = kV k ∧ H8 D = some (.dK kvs) ∧ kvs.length < sizeLine ∧ Nx1 (upd H8 D (.dK (putK kvs k z))) else Nx1 H6)
    else Nx H3)

theorem outer_in {X : Cx} {σ0 : L2.St} {H : Hp} {s : Shared} {D it : Addr} {fp : List Addr} {tn : Nat → Heap → Prop} {J : It} {wi1 : TI} {g g1 : TG} {tt tt1 : TT} {tk tv : TE} {vs vs1 : List Nat} {W : Nat → Nat → Hp → Prop} {m0 : Nat} {Z : Hp → Prop}
    (hcalm : X.calm = true) (hxe : X.xe = fun _ _ => False) (hfx : X.ex = fp) (hpn : X.pn = []) (T : Turn X.prog X.w X.K t0 J fp it tn) (pg : PG X t0 g) (pt : PTs X ifs0 tt) (pi1 : PI X t1 i1 wi1) (pg1 : PG X t1 g1) (pt1 : PTs X ifs1 tt1) (pk : PE X kx tk) (pv : PE X vx tv)
    (hs1 : ∀ env x, foldedSetIterable i1 env x = pure x) (hv : ∀ i ∈ vs1, i ∈ vs) (hw0 : wipe σ0 vs = σ0)
    (I : Inv X [] σ0 H s) (st : tn 0 s.heap) (hn : ∀ b ∈ fp, H b = none) (w0 : W 0 m0 H)
    (turn : ∀ i m H, W i m H → (J.stop i H ∧ Z H) ∨ (J.go i H ∧ ∃ Nx : Hp → Prop, (∀ H', Nx H' → ∃ m', m' < m ∧ W (i + 1) m' H') ∧ ∀ x H', J.yld i H x H' → g x σ0 H' fun σ2 H2 => wipe σ2 vs = σ0 ∧ tt σ2 H2 fun b H3 =>
      if b = true then wi1 σ2 H3 fun J1 H4 => ∃ W1 : Nat → Nat → Hp → Prop, (∃ m, W1 0 m H4) ∧ ∀ j k H, W1 j k H →
        (J1.stop j H ∧ Nx H) ∨ (J1.go j H ∧ ∃ Nx1 : Hp → Prop, (∀ H', Nx1 H' → ∃ k', k' < k ∧ W1 (j + 1) k' H') ∧ ∀ x H', J1.yld j H x H' → g1 x (wipe σ2 vs1) H' fun σ3 H5 => wipe σ3 vs1 = wipe σ2 vs1 ∧ tt1 σ3 H5 fun b H6 =>
          if b = true then tk σ3 H6 fun y H7 => tv σ3 H7 fun z H8 => ∃ kvs k, y = kV k ∧ H8 D = some (.dK kvs) ∧ kvs.length < sizeLine ∧ Nx1 (upd H8 D (.dK (putK kvs k z))) else Nx1 H6)
      else Nx H3)) :
    codeAny (model X.prog X.w) X.A (.compLoop (dc2 kx vx t0 i0 t1 i1 ifs0 ifs1 scope pos) 0 (.ref it) (.ref D) X.env)
      (fun r s' => match r with | .ok f => f = .next ∧ ∃ H', Inv X [] σ0 H' s' ∧ Z H' | .error _ => False) s := by
  have stat : ∀ {σ' : L2.St} {H' : Hp} {s' : Shared}, Inv X [] σ' H' s' → (∀ b ∈ fp, H' b = none) → ∀ b ∈ fp, FpOk X [] H' b := fun {σ' H' s'} I' hn b hb => by
    have hb' : b ∈ X.ex := by rw [hfx]; exact hb
    refine ⟨hn b hb, (I'.ok.exf b hb').1, I'.ok.exfs b hb', .inl hb', fun x c e => (I'.ok.exf b hb').2 x c e, fun p hp => ?_⟩
    rw [hpn] at hp
    exact absurd hp (by simp)
  refine codeAny_loop rfl (fun n s' => ∃ i H', Inv X [] σ0 H' s' ∧ tn i s'.heap ∧ (∀ b ∈ fp, H' b = none) ∧ W i n H') ?_ m0 ⟨0, H, I, st, hn, w0⟩
  rintro n s5 ⟨i, H5, I5, st5, n5, w5⟩
  show wpAny _ X.A ((compTurn (dc2 kx vx t0 i0 t1 i1 ifs0 ifs1 scope pos) 0 (.ref it) (.ref D) X.env).onRaise (fun x => do noteFrame x X.env; theTreesLotGoes x)) _ _ s5
  refine wpAny_noted ?_
  dsimp only [compTurn, dc2]
  refine wpAny_bind (wpAny_standAt (wpAny_bind ?_))
  rcases turn i n H5 w5 with ⟨stop, qq⟩ | ⟨go, Nx, hNx, step⟩
  · refine thnF (T.done X rfl rfl rfl hcalm i _ s5 _ H5 (fun _ _ => False) I5 (stat I5 n5) st5 stop) fun r s6 ⟨hr, I6⟩ => ?_
    subst hr
    exact wpAny_pure ⟨rfl, H5, I6, qq⟩
  · refine thnF (T.item X rfl rfl rfl hcalm i _ s5 _ H5 (fun _ _ => False) I5 (stat I5 n5) st5 go) fun r s6 ⟨u, hr, h6⟩ => ?_
    subst hr
    refine wpAny_bind (thnF h6 fun _ s7 ⟨x, H7, I7, r7, y7, st7, n7⟩ => ?_)
    have I7' := I7.pinned (stat I7 n7) (T.obj _ _ st7)
    have pgr := pg.run _ s7 _ H7 x u _ I7' r7 (step x H7 y7)
    rw [hxe] at pgr
    refine wpAny_bind (thnF pgr fun _ s8 ⟨σ8, H8, I8, hw8, q8⟩ => ?_)
    have ptr := pt.run _ s8 σ8 H8 _ I8 q8
    rw [hxe] at ptr
    refine wpAny_bind (thnF ptr fun b s9 ⟨H9, I9, q9⟩ => ?_)
    have hl8 : σ0.length = σ8.length := by rw [← hw8, wipe_length]
    have fin : ∀ {σ9 : L2.St} {s' : Shared} {H' : Hp}, Inv X ([] ++ pinsAt fp s7.heap) σ9 H' s' → σ0.length = σ9.length → (∀ (j : Nat) v, σ0[j]? = some (some v) → σ9[j]? = some (some v)) → Nx H' →
        ∃ m, m < n ∧ ∃ i H', Inv X [] σ0 H' s' ∧ tn i s'.heap ∧ (∀ b ∈ fp, H' b = none) ∧ W i m H' := fun {σ9 s' H'} I' hl hk nx => by
      obtain ⟨m', hm, w'⟩ := hNx H' nx
      have pin' : ∀ b ∈ fp, ∀ o, s7.heap.get? b = some o → s'.heap.get? b = some o ∧ H' b = none := fun b hb o e =>
        let z := I'.pin (b, o) (List.mem_append_right _ (List.mem_append_right _ (mem_pinsAt hb e)))
        ⟨z.1, z.2.1⟩
      refine ⟨m', hm, i + 1, H', (I'.pins_of fun p hp => absurd hp (by simp)).weak hl hk, T.keep _ _ _ st7 fun b hb o e => (pin' b hb o e).1, fun b hb => ?_, w'⟩
      obtain ⟨o, e, _⟩ := T.obj _ _ st7 b hb
      exact (pin' b hb o e).2
    have hk8 : ∀ (j : Nat) v, σ0[j]? = some (some v) → σ8[j]? = some (some v) := fun j v e => by
      rw [← hw8] at e
      exact (wipe_some e).1
    cases b with
    | false =>
      simp only [Bool.false_eq_true, if_false] at q9
      exact wpAny_pure ⟨rfl, fin I9 hl8 hk8 q9⟩
    | true =>
      simp only [if_true] at q9
      have pir := pi1.run _ s9 σ8 H9 _ I9 q9
      rw [hxe] at pir
      refine wpAny_bind (thnF pir fun xv s10 hx => ?_)
      refine wpAny_bind (wpAny_standAt (wpAny_bind (wpAny_of_eq (hs1 X.env xv) (wpAny_bind (wpAny_holding (thnF hx fun itv s11 h11 => ?_))))))
      obtain ⟨it1, fp1, tn1, J1, H11, e1, I11, T1, st11, f11, W1, ⟨m1, w1⟩, turn1⟩ := h11
      subst e1
      refine wpAny_bind (wpAny_runOwn ?_)
      rw [Around.mark_none]
      have loop1 := inner_in (kx := kx) (vx := vx) (t0 := t0) (i0 := i0) (t1 := t1) (i1 := i1) (ifs0 := ifs0) (ifs1 := ifs1) (scope := scope) (pos := pos) (D := D) (Z := fun σ' H' => σ' = wipe σ8 vs1 ∧ Nx H') hcalm hxe T1 pg1 pt1 pk pv I11 st11 f11 w1 (fun j k H' w' => by
        rcases turn1 j k H' w' with ⟨a1, a2⟩ | a1
        · exact .inl ⟨a1, rfl, a2⟩
        · exact .inr a1)
      refine codeAny_mono (startD (.inr rfl) (fun A Q E hq => T1.self A 0 _ _ _ st11 hq) loop1) fun r s' hr => ?_
      cases r with
      | error e => exact hr.elim
      | ok f =>
        obtain ⟨σ', H', I', e', nx⟩ := hr
        refine wpAny_pure ⟨rfl, fin I' (by rw [e', wipe_length]; exact hl8) (fun j v e => ?_) nx⟩
        rw [e', wipe_at]
        have q := hk8 j v e
        rw [if_neg (fun z => ?_)]
        · exact q
        · rw [← hw0] at e
          exact (wipe_some e).2 (hv j z.1)

theorem pe_dc2 {X : Cx} {own : List (Str × Nat)} {vs1 : List Nat} {wi wi1 : TI} {g g1 : TG} {tt tt1 : TT} {tk tv : TE} (hc : X.calm = true) (hN : X.N.Nodup) (hi : PI X t0 i0 wi) (ok : BlkOk X.N X.env.scope scope own) (hv : ∀ i ∈ vs1, i ∈ own.map (·.2))
    (hg : ∀ s H C cl fp, PG (X.blk s H scope (compEnvC scope cl C X.env) fp) t0 g) (ht : ∀ s H C cl fp, PTs (X.blk s H scope (compEnvC scope cl C X.env) fp) ifs0 tt)
    (hi1 : ∀ s H C cl fp, PI (X.blk s H scope (compEnvC scope cl C X.env) fp) t1 i1 wi1)
    (hg1 : ∀ s H C cl fp, PG (X.blk s H scope (compEnvC scope cl C X.env) fp) t1 g1) (ht1 : ∀ s H C cl fp, PTs (X.blk s H scope (compEnvC scope cl C X.env) fp) ifs1 tt1)
    (hk : ∀ s H C cl fp, PE (X.blk s H scope (compEnvC scope cl C X.env) fp) kx tk) (hw : ∀ s H C cl fp, PE (X.blk s H scope (compEnvC scope cl C X.env) fp) vx tv)
    (hs : ∀ x, foldedSetIterable i0 X.env x = pure x := by intro _; rfl) (hs1 : ∀ env x, foldedSetIterable i1 env x = pure x := by intro _ _; rfl) :
    PE X (dc2 kx vx t0 i0 t1 i1 ifs0 ifs1 scope pos) (tDc2 wi g tt wi1 g1 tt1 tk tv (own.map (·.2)) vs1) := by
  refine ⟨fun pins s σ H Q I h => ?_⟩
  rw [arm_eval_DictComp]
  have hfree : ∀ y ∈ scope.names, y.2 = .free → ∃ c, X.env.cells.lookup y.1 = some c := fun y hy e => by
    rcases ok.free y hy e with k | k
    · exact I.ok.has _ (.inl k)
    · exact I.ok.has _ (.inr k)
  refine wpAny_comprehension_free (use := none) rfl hs (closure_ok hfree) ok.kind (fun y hy e => by rw [ok.uniq y hy, e])
    (thn (hi.run pins s σ H _ I h) fun xv s1 hx => thn hx fun itv s2 h2 => ?_)
  obtain ⟨it, fp, tn, J, H2, e, I2, T, st2, f2, q⟩ := h2
  subst e
  refine wpAny_newObj_type (newEnv_comp ?_)
  generalize hD : s2.heap.objs.size = D
  have hDn : H2 D = none := I2.hok.fresh (Nat.le_of_eq hD)
  obtain ⟨W, ⟨m0, w0⟩, turn⟩ := q D hDn
  generalize hs3 : ({ s2 with heap := s2.heap.push { cls := .type "dict", data := .dict #[] } } : Shared) = s3
  have I3 : Inv X pins σ (upd H2 D (.dK [])) s3 := by
    rw [← hs3]
    refine I2.laid (t' := s2.toks) (fun b o e => Heap.get?_push_of_some _ e) (Nat.le_of_eq hD) ?_
    rw [← hD]
    exact dk_empty s2.heap I2.big
  have h3 : s3.heap = s2.heap.push { cls := .type "dict", data := .dict #[] } := by rw [← hs3]
  have f3 : ∀ b ∈ fp, FpOk X pins (upd H2 D (.dK [])) b ∧ b < s3.heap.objs.size := fun b hb => by
    obtain ⟨o, e, _⟩ := T.obj _ _ st2 b hb
    have hlt : b < s2.heap.objs.size := Heap.lt_size e
    refine ⟨⟨?_, (f2 b hb).2⟩, by rw [h3, Heap.size_push]; exact Nat.lt_succ_of_lt hlt⟩
    rw [upd_ne (by rw [← hD]; exact Nat.ne_of_lt hlt)]
    exact (f2 b hb).1
  have st3 : tn 0 s3.heap := T.keep _ _ _ st2 fun b _ o e => by rw [h3]; exact Heap.get?_push_of_some _ e
  have I4 := block_start I3 ok hN f3
  have back : ∀ {σ' : L2.St} {H' : Hp} {s' : Shared} {ce : Env}, Inv (X.blk s3 (upd H2 D (.dK [])) scope ce fp) [] σ' H' s' → Inv X pins σ H' s' := fun I' =>
    I3.call' (ch := fp) I'.os I'.base I'.hok I'.bare fun b hb => ⟨(f3 b hb).1.2.2.2.1, (f3 b hb).1.2.1, (f3 b hb).1.2.2.2.2.1, (f3 b hb).1.2.2.2.2.2⟩
  have st4 : tn 0 (pushCells (s3.heap.push { cls := .type "dict", data := .dict #[] }) scope.names) := T.keep _ _ _ st3 fun b _ o e => pushCells_keeps _ _ _ _ (Heap.get?_push_of_some _ e)
  have loop := outer_in (X := X.blk s3 (upd H2 D (.dK [])) scope (compEnvC scope (cellsFrom (s3.heap.objs.size + 1) scope.names (cloFrom X.env.cells scope.names [])) s3.heap.objs.size X.env) fp) (kx := kx) (vx := vx) (i0 := i0) (scope := scope) (pos := pos)
    hc rfl rfl rfl T (hg _ _ _ _ _) (ht _ _ _ _ _) (hi1 _ _ _ _ _) (hg1 _ _ _ _ _) (ht1 _ _ _ _ _) (hk _ _ _ _ _) (hw _ _ _ _ _) hs1 hv (wipe_wipe _ _) I4 st4 (fun b hb => (f3 b hb).1.1) w0 turn
  refine codeAny_mono (startD (.inl rfl) (fun A Q E hq => T.self A 0 _ _ _ st4 hq) loop) fun r s' hr => ?_
  cases r with
  | error e => exact hr.elim
  | ok f =>
    obtain ⟨rfl, H', I', qq⟩ := hr
    have I7 := back I'
    have nC : H' s3.heap.objs.size = none := I'.free
    obtain ⟨m, hn, _⟩ := I'.loc
    have hn : s'.heap.Ns s3.heap.objs.size m := hn
    refine ⟨m, hn, fun h'' sb => ?_⟩
    obtain ⟨f0, f1, f2, f3, f4, f5⟩ := I3.fpOk (Nat.le_refl _) nC
    exact ⟨.ref D, H', I7.turned (t' := s'.toks) (fun b o hb e => (sb.2 b hb).trans e) f0 f1 f3 f4 f5, rfl, qq⟩
end
end Gx
set_option Elab.async false
set_option linter.all false
set_option maxRecDepth 100000
set_option maxHeartbeats 2000000
/-! data held by a heap; what a reading yields as data -/
namespace Dl
open PySem PySem.Spec PyProof.Rows L2 GxR Gx

/-- all stays but the tables at G, which stay tables -/
structure Ext (G : List Addr) (H H' : Hp) : Prop where
  keep : ∀ a, a ∉ G → ∀ o, H a = some o → H' a = some o
  tab : ∀ P ∈ G, TabG H P → TabG H' P
theorem Ext.refl (G : List Addr) (H : Hp) : Ext G H H := ⟨fun _ _ _ e => e, fun _ _ t => t⟩
theorem Ext.trans {G : List Addr} {H H1 H2 : Hp} (a : Ext G H H1) (b : Ext G H1 H2) : Ext G H H2 := ⟨fun c n o e => b.keep c n o (a.keep c n o e), fun P h t => b.tab P h (a.tab P h t)⟩
theorem Ext.new {G : List Addr} {H : Hp} {p : Addr} {o : HO} (h : H p = none) : Ext G H (upd H p o) :=
  ⟨fun a _ u e => by rw [upd_ne (ne_of_none e h)]; exact e, fun P _ ⟨ps, e, t⟩ => ⟨ps, by rw [upd_ne (ne_of_none e h)]; exact e, t⟩⟩
theorem Ext.tabbed {G : List Addr} {P : Addr} {H1 H2 : Hp} (hP : P ∈ G) (h : Tabbed P H1 H2) : Ext G H1 H2 := by
  refine ⟨fun a n o e => ?_, fun Q hQ t => ?_⟩
  · rw [h.2 a (fun z => n (by rw [z]; exact hP))]
    exact e
  · by_cases hq : Q = P
    · rw [hq]; exact h.1
    · obtain ⟨ps, e, t⟩ := t
      exact ⟨ps, by rw [h.2 Q hq]; exact e, t⟩
def TabsG (G : List Addr) (H : Hp) : Prop := ∀ P ∈ G, TabG H P
theorem TabsG.ext {G : List Addr} {H H' : Hp} (t : TabsG G H) (e : Ext G H H') : TabsG G H' := fun P h => e.tab P h (t P h)
theorem notTab {G : List Addr} {H : Hp} (t : TabsG G H) {a : Addr} {o : HO} (e : H a = some o) (n : ∀ ps, o ≠ .tbl ps) : a ∉ G := fun hm => by
  obtain ⟨ps, h, _⟩ := t a hm
  rw [e] at h
  cases h
  exact n ps rfl
theorem Ext.at {G : List Addr} {H H' : Hp} (x : Ext G H H') (t : TabsG G H) {a : Addr} {o : HO} (e : H a = some o) (n : ∀ ps, o ≠ .tbl ps) : H' a = some o := x.keep a (notTab t e n) o e
theorem Ext.fresh {G : List Addr} {H H' : Hp} (x : Ext G H H') (t : TabsG G H) {p : Addr} (h : H' p = none) : H p = none := by
  cases q : H p with
  | none => rfl
  | some o =>
    by_cases hp : p ∈ G
    · obtain ⟨ps, e, _⟩ := t.ext x p hp
      rw [h] at e
      cases e
    · rw [x.keep p hp o q] at h
      cases h
theorem Ext.rd {G : List Addr} {H H' : Hp} (x : Ext G H H') (t : TabsG G H) {a : Addr} {u : HO} (n : ∀ ps, u ≠ .tbl ps) (h : Rd H a u) : Rd H' a u := by
  rcases h with h | ⟨o, h⟩
  · exact .inl (x.at t h n)
  · exact .inr ⟨o, x.at t h (fun ps z => by cases z)⟩
theorem Ext.sqT {G : List Addr} {K : PySem.W.Frag} {H H' : Hp} (x : Ext G H H') (t : TabsG G H) {a : Addr} {xs : List V} (h : SqT K H a xs) : SqT K H' a xs := by
  rcases h with h | h
  · exact .inl (x.rd t (fun ps z => by cases z) h)
  · exact .inr h
theorem Ext.sqL {G : List Addr} {K : PySem.W.Frag} {H H' : Hp} (x : Ext G H H') (t : TabsG G H) {a : Addr} {xs : List V} (h : SqL K H a xs) : SqL K H' a xs := by
  rcases h with h | h
  · exact .inl (x.rd t (fun ps z => by cases z) h)
  · exact .inr h

section
variable {G : List Addr} {K : PySem.W.Frag} {H H' : Hp}
mutual
theorem dp_ext (x : Ext G H H') (t : TabsG G H) : ∀ {v : V} {d : PyData}, Dp K H v d → Dp K H' v d
  | _, _, .non => .non
  | _, _, .bl b => .bl b
  | _, _, .int i => .int i
  | _, _, .str z => .str z
  | _, _, .lst h r => .lst (x.sqL t h) (dpA_ext x t r)
  | _, _, .tup h r => .tup (x.sqT t h) (dpA_ext x t r)
theorem dpA_ext (x : Ext G H H') (t : TabsG G H) : ∀ {vs : List V} {ds : List PyData}, DpAll K H vs ds → DpAll K H' vs ds
  | _, _, .nil => .nil
  | _, _, .cons a r => .cons (dp_ext x t a) (dpA_ext x t r)
end
theorem dpA_len : ∀ {vs : List V} {ds : List PyData}, DpAll K H vs ds → vs.length = ds.length
  | _, _, .nil => rfl
  | _, _, .cons _ r => congrArg (· + 1) (dpA_len r)
theorem dpA_get : ∀ {vs : List V} {ds : List PyData} {i : Nat} {d : PyData}, DpAll K H vs ds → ds[i]? = some d → ∃ v, vs[i]? = some v ∧ Dp K H v d
  | _, _, _, _, .nil, e => by simp at e
  | _, _, 0, d, .cons a _, e => by
    have e' := Option.some.inj e
    subst e'
    exact ⟨_, rfl, a⟩
  | _, _, i + 1, d, .cons _ r, e => dpA_get (i := i) r e
theorem dpA_getV : ∀ {vs : List V} {ds : List PyData} {i : Nat} {v : V}, DpAll K H vs ds → vs[i]? = some v → ∃ d, ds[i]? = some d ∧ Dp K H v d
  | _, _, _, _, .nil, e => by simp at e
  | _, _, 0, d, .cons a _, e => by
    have e' := Option.some.inj e
    subst e'
    exact ⟨_, rfl, a⟩
  | _, _, i + 1, d, .cons _ r, e => dpA_getV (i := i) r e
theorem dpA_app : ∀ {vs ws : List V} {ds es : List PyData}, DpAll K H vs ds → DpAll K H ws es → DpAll K H (vs ++ ws) (ds ++ es)
  | _, _, _, _, .nil, b => b
  | _, _, _, _, .cons a r, b => .cons a (dpA_app r b)
theorem dpA_drop : ∀ {vs : List V} {ds : List PyData} (n : Nat), DpAll K H vs ds → DpAll K H (vs.drop n) (ds.drop n)
  | _, _, 0, r => r
  | _, _, _ + 1, .nil => .nil
  | _, _, n + 1, .cons _ r => dpA_drop n r
theorem dpA_take : ∀ {vs : List V} {ds : List PyData} (n : Nat), DpAll K H vs ds → DpAll K H (vs.take n) (ds.take n)
  | _, _, 0, _ => .nil
  | _, _, _ + 1, .nil => .nil
  | _, _, n + 1, .cons a r => .cons a (dpA_take n r)
theorem dp_tup {v : V} {ds : List PyData} (h : Dp K H v (.tuple ds)) : ∃ a vs, v = .ref a ∧ SqT K H a vs ∧ DpAll K H vs ds := by
  cases h with
  | tup h r => exact ⟨_, _, rfl, h, r⟩
theorem dp_lst {v : V} {ds : List PyData} (h : Dp K H v (.list ds)) : ∃ a vs, v = .ref a ∧ SqL K H a vs ∧ DpAll K H vs ds := by
  cases h with
  | lst h r => exact ⟨_, _, rfl, h, r⟩
theorem dp_int {v : V} {i : Int} (h : Dp K H v (.int i)) : v = .int i := by cases h; rfl
theorem dp_bl {v : V} {i : Bool} (h : Dp K H v (.bool i)) : v = .bl i := by cases h; rfl
theorem dp_str {v : V} {i : Str} (h : Dp K H v (.str i)) : v = .str i := by cases h; rfl
theorem dp_non {v : V} (h : Dp K H v .none) : v = .non := by cases h; rfl
theorem dp_new {p : Addr} {vs : List V} {ds : List PyData} (h : H p = none) (t : TabsG G H) (r : DpAll K H vs ds) : Dp K (upd H p (.tup vs)) (.ref p) (.tuple ds) :=
  .tup (.inl (.inl upd_same)) (dpA_ext (Ext.new (G := G) h) t r)
theorem dp_newL {p : Addr} {vs : List V} {ds : List PyData} (h : H p = none) (t : TabsG G H) (r : DpAll K H vs ds) : Dp K (upd H p (.lst vs)) (.ref p) (.list ds) :=
  .lst (.inl (.inl upd_same)) (dpA_ext (Ext.new (G := G) h) t r)
end

/-! ### what a reading yields -/
section
variable (G : List Addr) (K : PySem.W.Frag)
/-- te yields d: at every heap that goes on from H -/
def Ed (te : TE) (σ : L2.St) (H : Hp) (d : PyData) : Prop := ∀ H1, Ext G H H1 → ∀ Q : VK, (∀ v H2, Ext G H1 H2 → Dp K H2 v d → Q v H2) → te σ H1 Q
def EdA (ta : TA) (σ : L2.St) (H : Hp) (ds : List PyData) : Prop := ∀ H1, Ext G H H1 → ∀ Q : List V → Hp → Prop, (∀ vs H2, Ext G H1 H2 → DpAll K H2 vs ds → Q vs H2) → ta σ H1 Q
def EdT (tt : TT) (σ : L2.St) (H : Hp) (b : Bool) : Prop := ∀ H1, Ext G H H1 → ∀ Q : Bool → Hp → Prop, (∀ H2, Ext G H1 H2 → Q b H2) → tt σ H1 Q
/-- an operation on data -/
def Rd2 (r : V → V → Hp → VK → Prop) (d e f : PyData) (H : Hp) : Prop := ∀ H1, Ext G H H1 → ∀ v u, Dp K H1 v d → Dp K H1 u e → ∀ Q : VK, (∀ w H2, Ext G H1 H2 → Dp K H2 w f → Q w H2) → r v u H1 Q
def RdC (r : List V → Hp → VK → Prop) (ds : List PyData) (f : PyData) (H : Hp) : Prop := ∀ H1, Ext G H H1 → ∀ vs, DpAll K H1 vs ds → ∀ Q : VK, (∀ w H2, Ext G H1 H2 → Dp K H2 w f → Q w H2) → r vs H1 Q
end

section
variable {G : List Addr} {K : PySem.W.Frag} {σ : L2.St} {H H' : Hp} {ta tb te : TE} {tA : TA} {t u : TT} {d e f : PyData} {ds es : List PyData} {b c : Bool}
theorem Ed.mono (x : Ext G H H') (h : Ed G K te σ H d) : Ed G K te σ H' d := fun H1 a Q q => h H1 (x.trans a) Q q
theorem EdT.mono (x : Ext G H H') (h : EdT G t σ H b) : EdT G t σ H' b := fun H1 a Q q => h H1 (x.trans a) Q q
theorem ed_var {i : Nat} {v : V} (t : TabsG G H) (h : σ[i]? = some (some v)) (r : Dp K H v d) : Ed G K (tVar i) σ H d := fun H1 x _ q => ⟨v, h, q v H1 (Ext.refl G H1) (dp_ext x t r)⟩
theorem ed_int {i : Int} : Ed G K (tC (.int i)) σ H (.int i) := fun H1 _ _ q => q _ H1 (Ext.refl G H1) (.int i)
theorem ed_bl : Ed G K (tC (.bl b)) σ H (.bool b) := fun H1 _ _ q => q _ H1 (Ext.refl G H1) (.bl b)
theorem ed_str {i : Str} : Ed G K (tC (.str i)) σ H (.str i) := fun H1 _ _ q => q _ H1 (Ext.refl G H1) (.str i)
theorem ed_non : Ed G K (tC .non) σ H .none := fun H1 _ _ q => q _ H1 (Ext.refl G H1) .non
theorem ed_nil : EdA G K tNil σ H [] := fun H1 _ _ q => q _ H1 (Ext.refl G H1) .nil
theorem ed_cons (tG : TabsG G H) (h : Ed G K te σ H d) (r : EdA G K tA σ H ds) : EdA G K (tCons te tA) σ H (d :: ds) := fun H1 x Q q =>
  h H1 x _ fun v H2 x2 rv => r H2 (x.trans x2) _ fun vs H3 x3 rs => q _ H3 (x2.trans x3) (.cons (dp_ext x3 ((tG.ext x).ext x2) rv) rs)
theorem ed_one (h : Ed G K te σ H d) : EdA G K (tCons te tNil) σ H [d] := fun H1 x Q q => h H1 x _ fun v H2 x2 rv => q _ H2 x2 (.cons rv .nil)
theorem ed_tup (tG : TabsG G H) (h : EdA G K tA σ H ds) (hl : ds.length ≤ sizeLine) : Ed G K (tTup tA) σ H (.tuple ds) := fun H1 x Q q =>
  h H1 x _ fun vs H2 x2 rs => ⟨by rw [dpA_len rs]; exact hl, fun p hp => q _ _ (x2.trans (Ext.new hp)) (dp_new hp ((tG.ext x).ext x2) rs)⟩
theorem ed_lst (tG : TabsG G H) (h : EdA G K tA σ H ds) (hl : ds.length ≤ sizeLine) : Ed G K (tLst tA) σ H (.list ds) := fun H1 x Q q =>
  h H1 x _ fun vs H2 x2 rs => ⟨by rw [dpA_len rs]; exact hl, fun p hp => q _ _ (x2.trans (Ext.new hp)) (dp_newL hp ((tG.ext x).ext x2) rs)⟩
theorem ed_op {r : V → V → Hp → VK → Prop} (tG : TabsG G H) (ha : Ed G K ta σ H d) (hb : Ed G K tb σ H e) (hr : Rd2 G K r d e f H) : Ed G K (tOp r ta tb) σ H f := fun H1 x Q q =>
  ha H1 x _ fun v H2 x2 rv => hb H2 (x.trans x2) _ fun u H3 x3 ru => hr H3 ((x.trans x2).trans x3) v u (dp_ext x3 ((tG.ext x).ext x2) rv) ru Q fun w H4 x4 rw_ => q w H4 ((x2.trans x3).trans x4) rw_
theorem ed_cb {r : List V → Hp → VK → Prop} (h : EdA G K tA σ H ds) (hr : RdC G K r ds f H) : Ed G K (tCB r tA) σ H f := fun H1 x Q q =>
  h H1 x _ fun vs H2 x2 rs => hr H2 (x.trans x2) vs rs Q fun w H3 x3 rw_ => q w H3 (x2.trans x3) rw_
theorem ed_if (ht : EdT G t σ H b) (h1 : b = true → Ed G K ta σ H d) (h2 : b = false → Ed G K tb σ H d) : Ed G K (tIf t ta tb) σ H d := fun H1 x Q q => ht H1 x _ fun H2 x2 => by
  cases b with
  | true =>
    show ta σ H2 Q
    exact h1 rfl H2 (x.trans x2) Q fun w H3 x3 r => q w H3 (x2.trans x3) r
  | false =>
    show tb σ H2 Q
    exact h2 rfl H2 (x.trans x2) Q fun w H3 x3 r => q w H3 (x2.trans x3) r
theorem ed_is (h : Ed G K te σ H d) (e' : d = e) : Ed G K te σ H e := e' ▸ h
theorem edt_is (h : EdT G t σ H b) (e' : b = c) : EdT G t σ H c := e' ▸ h
theorem edt_val (h : Ed G K te σ H (.bool b)) : EdT G (tB te) σ H b := fun H1 x Q q => h H1 x _ fun v H2 x2 r => ⟨b, dp_bl r, q H2 x2⟩
theorem edt_test (h : Ed G K te σ H (.bool b)) : EdT G (tTest te) σ H b := fun H1 x Q q => h H1 x _ fun v H2 x2 r => ⟨b, dp_bl r, q H2 x2⟩
theorem edt_and (h1 : EdT G t σ H b) (h2 : b = true → EdT G u σ H c) : EdT G (tAnd t u) σ H (b && c) := fun H1 x Q q => h1 H1 x _ fun H2 x2 => by
  cases b with
  | true =>
    show u σ H2 Q
    exact h2 rfl H2 (x.trans x2) Q fun H3 x3 => q H3 (x2.trans x3)
  | false =>
    show Q false H2
    exact q H2 x2
theorem edt_or (h1 : EdT G t σ H b) (h2 : b = false → EdT G u σ H c) : EdT G (tOr t u) σ H (b || c) := fun H1 x Q q => h1 H1 x _ fun H2 x2 => by
  cases b with
  | true =>
    show Q true H2
    exact q H2 x2
  | false =>
    show u σ H2 Q
    exact h2 rfl H2 (x.trans x2) Q fun H3 x3 => q H3 (x2.trans x3)
theorem edt_not (h1 : EdT G t σ H b) : EdT G (tNot t) σ H (!b) := fun H1 x Q q => h1 H1 x _ fun H2 x2 => q H2 x2
theorem ed_andV (h1 : Ed G K ta σ H (.bool b)) (h2 : b = true → Ed G K tb σ H (.bool c)) : Ed G K (tAndV ta tb) σ H (.bool (b && c)) := fun H1 x Q q => h1 H1 x _ fun v H2 x2 r => ⟨b, dp_bl r, by
  cases b with
  | true =>
    show tb σ H2 Q
    exact h2 rfl H2 (x.trans x2) Q fun w H3 x3 r3 => q w H3 (x2.trans x3) r3
  | false =>
    show Q (.bl false) H2
    exact q _ H2 x2 (.bl false)⟩
theorem ed_orV (h1 : Ed G K ta σ H (.bool b)) (h2 : b = false → Ed G K tb σ H (.bool c)) : Ed G K (tOrV ta tb) σ H (.bool (b || c)) := fun H1 x Q q => h1 H1 x _ fun v H2 x2 r => ⟨b, dp_bl r, by
  cases b with
  | true =>
    show Q (.bl true) H2
    exact q _ H2 x2 (.bl true)
  | false =>
    show tb σ H2 Q
    exact h2 rfl H2 (x.trans x2) Q fun w H3 x3 r3 => q w H3 (x2.trans x3) r3⟩
theorem ed_notV (h1 : Ed G K ta σ H (.bool b)) : Ed G K (tNotV ta) σ H (.bool (!b)) := fun H1 x Q q => h1 H1 x _ fun v H2 x2 r => ⟨b, dp_bl r, q _ H2 x2 (.bl _)⟩

/-! operations -/
theorem rd_int2 {g : Int → Int → V} {i j : Int} (hg : ∀ H, Dp K H (g i j) f) : Rd2 G K (rI0 g) (.int i) (.int j) f H := fun H1 _ v u rv ru Q q => by
  rw [dp_int rv, dp_int ru]
  exact ⟨i, j, rfl, rfl, q _ H1 (Ext.refl G H1) (hg H1)⟩
theorem rd_add {i j : Int} : Rd2 G K (rI0 fun i j => .int (i + j)) (.int i) (.int j) (.int (i + j)) H := rd_int2 fun _ => .int _
theorem rd_sub {i j : Int} : Rd2 G K (rI0 fun i j => .int (i - j)) (.int i) (.int j) (.int (i - j)) H := rd_int2 fun _ => .int _
theorem rd_ltI {i j : Int} : Rd2 G K (rI0 fun i j => .bl (decide (i < j))) (.int i) (.int j) (.bool (decide (i < j))) H := rd_int2 fun _ => .bl _
theorem rd_leI {i j : Int} : Rd2 G K (rI0 fun i j => .bl (decide (i ≤ j))) (.int i) (.int j) (.bool (decide (i ≤ j))) H := rd_int2 fun _ => .bl _
theorem rd_gtI {i j : Int} : Rd2 G K (rI0 fun i j => .bl (decide (j < i))) (.int i) (.int j) (.bool (decide (j < i))) H := rd_int2 fun _ => .bl _
theorem rd_geI {i j : Int} : Rd2 G K (rI0 fun i j => .bl (decide (j ≤ i))) (.int i) (.int j) (.bool (decide (j ≤ i))) H := rd_int2 fun _ => .bl _
theorem rd_eqD (hd : SeqAt.shaped d = true) (he : SeqAt.shaped e = true) : Rd2 G K (rEqD K) d e (.bool (PyData.eqv d e)) H := fun H1 _ v u rv ru Q q => ⟨d, e, rv, ru, hd, he, q _ H1 (Ext.refl G H1) (.bl _)⟩
theorem rd_neD (hd : SeqAt.shaped d = true) (he : SeqAt.shaped e = true) : Rd2 G K (rNeD K) d e (.bool (!PyData.eqv d e)) H := fun H1 _ v u rv ru Q q => ⟨d, e, rv, ru, hd, he, q _ H1 (Ext.refl G H1) (.bl _)⟩
theorem atI_get {xs : List V} {i : Int} {v : V} (h0 : 0 ≤ i) (h : xs[i.toNat]? = some v) : atI xs i = some v := by
  have e : i = ((i.toNat : Nat) : Int) := (Int.toNat_of_nonneg h0).symm
  rw [e]
  exact atI_nat h
theorem rd_ixT {i : Int} (h0 : 0 ≤ i) (h : ds[i.toNat]? = some d) : Rd2 G K (rIxT K) (.tuple ds) (.int i) d H := fun H1 _ v u rv ru Q q => by
  obtain ⟨a, vs, rfl, hs, hr⟩ := dp_tup rv
  obtain ⟨w, hw, rw_⟩ := dpA_get hr h
  exact ⟨a, vs, i, w, rfl, dp_int ru, hs, atI_get h0 hw, q w H1 (Ext.refl G H1) rw_⟩
theorem rd_ixL {i : Int} (h0 : 0 ≤ i) (h : ds[i.toNat]? = some d) : Rd2 G K (rIxL K) (.list ds) (.int i) d H := fun H1 _ v u rv ru Q q => by
  obtain ⟨a, vs, rfl, hs, hr⟩ := dp_lst rv
  obtain ⟨w, hw, rw_⟩ := dpA_get hr h
  exact ⟨a, vs, i, w, rfl, dp_int ru, hs, atI_get h0 hw, q w H1 (Ext.refl G H1) rw_⟩
theorem rd_catA (t : TabsG G H) (hl : ds.length + es.length ≤ sizeLine) : Rd2 G K (rCatA K) (.tuple ds) (.tuple es) (.tuple (ds ++ es)) H := fun H1 x v u rv ru Q q => by
  obtain ⟨a, vs, rfl, hs, hr⟩ := dp_tup rv
  obtain ⟨b, us, rfl, hs2, hr2⟩ := dp_tup ru
  have l1 := dpA_len hr
  have l2 := dpA_len hr2
  refine ⟨a, b, vs, us, rfl, rfl, hs, hs2, by omega, fun e1 => ?_, fun e1 e2 => ?_, fun e1 e2 p hp => ?_⟩
  · have e3 : ds = [] := List.eq_nil_of_length_eq_zero (by rw [← l1, e1]; rfl)
    refine q _ H1 (Ext.refl G H1) ?_
    rw [e3]
    exact ru
  · have e3 : es = [] := List.eq_nil_of_length_eq_zero (by rw [← l2, e2]; rfl)
    refine q _ H1 (Ext.refl G H1) ?_
    rw [e3, List.append_nil]
    exact rv
  · exact q _ _ (Ext.new hp) (dp_new hp (t.ext x) (dpA_app hr hr2))
theorem rdc_len : RdC G K (fun xs H Q => ∃ p ys, xs = [.ref p] ∧ (SqL K H p ys ∨ SqT K H p ys) ∧ Q (.int ys.length) H) [.tuple ds] (.int ds.length) H := fun H1 _ vs rs Q q => by
  cases rs with
  | cons a r =>
    cases r
    obtain ⟨p, ws, rfl, hs, hr⟩ := dp_tup a
    exact ⟨p, ws, rfl, .inr hs, q _ H1 (Ext.refl G H1) (by rw [dpA_len hr]; exact .int _)⟩
theorem rdc_lenL : RdC G K (fun xs H Q => ∃ p ys, xs = [.ref p] ∧ (SqL K H p ys ∨ SqT K H p ys) ∧ Q (.int ys.length) H) [.list ds] (.int ds.length) H := fun H1 _ vs rs Q q => by
  cases rs with
  | cons a r =>
    cases r
    obtain ⟨p, ws, rfl, hs, hr⟩ := dp_lst a
    exact ⟨p, ws, rfl, .inl hs, q _ H1 (Ext.refl G H1) (by rw [dpA_len hr]; exact .int _)⟩
theorem rdc_tuple (t : TabsG G H) : RdC G K (fun xs H Q => ∃ p ys, xs = [.ref p] ∧ ((SqL K H p ys ∧ ∀ l, H l = none → Q (.ref l) (upd H l (.tup ys))) ∨ (SqT K H p ys ∧ Q (.ref p) H))) [.list ds] (.tuple ds) H := fun H1 x vs rs Q q => by
  cases rs with
  | cons a r =>
    cases r
    obtain ⟨p, ws, rfl, hs, hr⟩ := dp_lst a
    exact ⟨p, ws, rfl, .inl ⟨hs, fun l hl => q _ _ (Ext.new hl) (dp_new hl (t.ext x) hr)⟩⟩
theorem rdc_int {b : Bool} : RdC G K (fun xs H Q => (∃ i, xs = [.int i] ∧ Q (.int i) H) ∨ ∃ k, xs = [.bl k] ∧ Q (.int (if k then 1 else 0)) H) [.bool b] (.int (if b then 1 else 0)) H := fun H1 x vs rs Q q => by
  cases rs with
  | cons a r =>
    cases r
    exact .inr ⟨b, by rw [dp_bl a], q _ H1 (Ext.refl G H1) (.int _)⟩
end
end Dl
set_option Elab.async false
set_option linter.all false
set_option maxRecDepth 100000
set_option maxHeartbeats 2000000
namespace Dl
open PySem PySem.Spec PyProof.Rows L2 GxR Gx

mutual
/-- no list, no dict within -/
def Pu : PyData → Bool
  | .list _ => false
  | .dict _ => false
  | .tuple ds => PuA ds
  | _ => true
def PuA : List PyData → Bool
  | [] => true
  | d :: r => Pu d && PuA r
end
theorem puA_all : ∀ {ds : List PyData}, PuA ds = true ↔ ∀ d ∈ ds, Pu d = true
  | [] => by simp [PuA]
  | d :: r => by
    unfold PuA
    rw [Bool.and_eq_true, puA_all (ds := r)]
    simp
section
variable {K : PySem.W.Frag} {H H' : Hp}
mutual
theorem dp_tups (k : ∀ a xs, SqT K H a xs → SqT K H' a xs) : ∀ {v : V} {d : PyData}, Pu d = true → Dp K H v d → Dp K H' v d
  | _, _, _, .non => .non
  | _, _, _, .bl b => .bl b
  | _, _, _, .int i => .int i
  | _, _, _, .str z => .str z
  | _, _, p, .lst h r => by simp [Pu] at p
  | _, _, p, .tup h r => .tup (k _ _ h) (dpA_tups k (by simpa [Pu] using p) r)
theorem dpA_tups (k : ∀ a xs, SqT K H a xs → SqT K H' a xs) : ∀ {vs : List V} {ds : List PyData}, PuA ds = true → DpAll K H vs ds → DpAll K H' vs ds
  | _, _, _, .nil => .nil
  | _, _, p, .cons a r => by
    unfold PuA at p
    rw [Bool.and_eq_true] at p
    exact .cons (dp_tups k p.1 a) (dpA_tups k p.2 r)
end
/-- a list's place is no tuple's -/
theorem sqT_upd {D : Addr} {acc : List V} {o : HO} (h : H D = some (.lst acc)) {a : Addr} {xs : List V} (q : SqT K H a xs) : SqT K (upd H D o) a xs := by
  rcases q with q | q
  · rcases q with q | ⟨ob, q⟩
    · exact .inl (.inl (by rw [upd_ne (fun z => by rw [z, h] at q; cases q)]; exact q))
    · exact .inl (.inr ⟨ob, by rw [upd_ne (fun z => by rw [z, h] at q; cases q)]; exact q⟩)
  · exact .inr q
theorem sqT_updD {D : Addr} {acc : List (L2.Key × V)} {o : HO} (h : H D = some (.dK acc)) {a : Addr} {xs : List V} (q : SqT K H a xs) : SqT K (upd H D o) a xs := by
  rcases q with q | q
  · rcases q with q | ⟨ob, q⟩
    · exact .inl (.inl (by rw [upd_ne (fun z => by rw [z, h] at q; cases q)]; exact q))
    · exact .inl (.inr ⟨ob, by rw [upd_ne (fun z => by rw [z, h] at q; cases q)]; exact q⟩)
  · exact .inr q
end
/-- an object that was not there at H may change -/
theorem Ext.mut {G : List Addr} {H H' : Hp} {p : Addr} {o u : HO} (x : Ext G H H') (h : H p = none) (hu : H' p = some u) (n : ∀ ps, u ≠ .tbl ps) : Ext G H (upd H' p o) := by
  refine ⟨fun a ng w e => ?_, fun P hP t => ?_⟩
  · rw [upd_ne (ne_of_none e h)]
    exact x.keep a ng w e
  · obtain ⟨ps, e, t'⟩ := x.tab P hP t
    refine ⟨ps, ?_, t'⟩
    rw [upd_ne (fun z => by rw [z, hu] at e; cases e; exact n ps rfl)]
    exact e
theorem mut_tabs {G : List Addr} {H H' : Hp} {p : Addr} {o u : HO} (t : TabsG G H') (hu : H' p = some u) (n : ∀ ps, u ≠ .tbl ps) : TabsG G (upd H' p o) := fun P hP => by
  obtain ⟨ps, e, t'⟩ := t P hP
  refine ⟨ps, ?_, t'⟩
  rw [upd_ne (fun z => by rw [z, hu] at e; cases e; exact n ps rfl)]
  exact e

section
variable {G : List Addr} {K : PySem.W.Frag} {σ : L2.St} {H H' : Hp} {ta tb te : TE} {tA : TA} {t u : TT} {d e f : PyData} {ds es : List PyData} {b c : Bool}
theorem wipe_set (σ : L2.St) (vs : List Nat) (i : Nat) (x : Option V) (hi : i ∈ vs) : wipe ((wipe σ vs).set i x) vs = wipe σ vs := by
  apply List.ext_getElem?
  intro j
  rw [wipe_at, wipe_at, List.length_set, wipe_length]
  by_cases h : j ∈ vs ∧ j < σ.length
  · rw [if_pos h, if_pos h]
  · rw [if_neg h, if_neg h]
    by_cases hj : i = j
    · subst hj
      have hl : ¬ i < σ.length := fun z => h ⟨hi, z⟩
      rw [List.getElem?_eq_none (by rw [List.length_set, wipe_length]; exact Nat.not_lt.mp hl), List.getElem?_eq_none (Nat.not_lt.mp hl)]
    · rw [List.getElem?_set_ne hj, wipe_at, if_neg h]

theorem take_snoc {α : Type} {l : List α} {k : Nat} {x : α} (h : l[k]? = some x) : l.take (k + 1) = l.take k ++ [x] := by
  rw [List.take_add_one, h]
  rfl

/-- [.. for x in t], t a tuple -/
theorem ed_lcT {i : Nat} {vs : List Nat} {g : PyData → PyData} (tG : TabsG G H) (hl : ds.length ≤ sizeLine) (h : Ed G K te σ H (.tuple ds)) (hi : i ∈ vs) (hp : ∀ d ∈ ds, Pu (g d) = true)
    (hb : ∀ d v H1, d ∈ ds → Ext G H H1 → TabsG G H1 → Dp K H1 v d → Ed G K tb ((wipe σ vs).set i (some v)) H1 (g d)) : Ed G K (tLc (iTup K te) (gName i) tYes tb vs) σ H (.list (ds.map g)) := fun H1 x Q q =>
  h H1 x _ fun v H2 x2 rv => by
    obtain ⟨a, xs, rfl, hs, hr⟩ := dp_tup rv
    have len := dpA_len hr
    have t2 := (tG.ext x).ext x2
    refine ⟨a, rfl, ⟨xs, hs⟩, fun D hD => ?_⟩
    have at0 : ∀ {Hk : Hp}, Ext G H2 Hk → SqT K Hk a xs := fun y => y.sqT t2 hs
    refine lc_tup (a := a) (xs := xs) (fun k Hk => Ext G H2 Hk ∧ ∃ acc, Hk D = some (.lst acc) ∧ acc.length = k ∧ DpAll K Hk acc ((ds.take k).map g))
      ⟨Ext.new hD, [], upd_same, rfl, .nil⟩ (fun k Hk _ p => at0 p.1) (fun k y Hk hk p => ?_) (fun Hk p => ?_)
    · obtain ⟨y1, acc, e1, e2, e3⟩ := p
      obtain ⟨d, hd, rd⟩ := dpA_getV hr hk
      have td := t2.ext y1
      have rd' := dp_ext y1 t2 rd
      refine ⟨wipe_set σ vs i (some y) hi, ?_⟩
      show tb _ Hk _
      refine hb d y Hk (List.mem_of_getElem? hd) ((x.trans x2).trans y1) td rd' Hk (Ext.refl G Hk) _ fun w H4 y4 rw_ => ?_
      have e4 : H4 D = some (.lst acc) := y4.at td e1 (fun ps z => by cases z)
      have hk' := (List.getElem?_eq_some_iff.mp hk).1
      refine ⟨acc, e4, by omega, (y1.trans y4).mut hD e4 (fun ps z => by cases z), acc ++ [w], upd_same, by rw [List.length_append, e2]; rfl, ?_⟩
      rw [take_snoc hd, List.map_append]
      refine dpA_tups (fun a xs q => sqT_upd e4 q) (puA_all.mpr fun z hz => ?_) (dpA_app (dpA_ext y4 td e3) (.cons rw_ .nil))
      rcases List.mem_append.mp hz with hz | hz
      · obtain ⟨d', hd', rfl⟩ := List.mem_map.mp hz
        exact hp d' (List.mem_of_mem_take hd')
      · obtain ⟨d', hd', rfl⟩ := List.mem_map.mp hz
        rw [List.mem_singleton.mp hd']
        exact hp d (List.mem_of_getElem? hd)
    · obtain ⟨y1, acc, e1, e2, e3⟩ := p
      refine q _ Hk (x2.trans y1) (.lst (.inl (.inl e1)) ?_)
      rw [len, List.take_length] at e3
      exact e3

/-- [.. for x in l], l a list that stays -/
theorem ed_lcL {i : Nat} {vs : List Nat} {g : PyData → PyData} (tG : TabsG G H) (hl : ds.length ≤ sizeLine) (h : Ed G K te σ H (.list ds)) (hi : i ∈ vs) (hp : ∀ d ∈ ds, Pu (g d) = true)
    (hb : ∀ d v H1, d ∈ ds → Ext G H H1 → TabsG G H1 → Dp K H1 v d → Ed G K tb ((wipe σ vs).set i (some v)) H1 (g d)) : Ed G K (tLc (iList K te) (gName i) tYes tb vs) σ H (.list (ds.map g)) := fun H1 x Q q =>
  h H1 x _ fun v H2 x2 rv => by
    obtain ⟨a, xs, rfl, hs, hr⟩ := dp_lst rv
    have len := dpA_len hr
    have t2 := (tG.ext x).ext x2
    refine ⟨a, rfl, ⟨xs, hs⟩, fun D hD => ?_⟩
    have at0 : ∀ {Hk : Hp}, Ext G H2 Hk → SqL K Hk a xs := fun y => y.sqL t2 hs
    refine lc_list (a := a) (xs := xs) (fun k Hk => Ext G H2 Hk ∧ ∃ acc, Hk D = some (.lst acc) ∧ acc.length = k ∧ DpAll K Hk acc ((ds.take k).map g))
      ⟨Ext.new hD, [], upd_same, rfl, .nil⟩ (fun k Hk _ p => at0 p.1) (fun k y Hk hk p => ?_) (fun Hk p => ?_)
    · obtain ⟨y1, acc, e1, e2, e3⟩ := p
      obtain ⟨d, hd, rd⟩ := dpA_getV hr hk
      have td := t2.ext y1
      have rd' := dp_ext y1 t2 rd
      refine ⟨wipe_set σ vs i (some y) hi, ?_⟩
      show tb _ Hk _
      refine hb d y Hk (List.mem_of_getElem? hd) ((x.trans x2).trans y1) td rd' Hk (Ext.refl G Hk) _ fun w H4 y4 rw_ => ?_
      have e4 : H4 D = some (.lst acc) := y4.at td e1 (fun ps z => by cases z)
      have hk' := (List.getElem?_eq_some_iff.mp hk).1
      refine ⟨acc, e4, by omega, (y1.trans y4).mut hD e4 (fun ps z => by cases z), acc ++ [w], upd_same, by rw [List.length_append, e2]; rfl, ?_⟩
      rw [take_snoc hd, List.map_append]
      refine dpA_tups (fun a xs q => sqT_upd e4 q) (puA_all.mpr fun z hz => ?_) (dpA_app (dpA_ext y4 td e3) (.cons rw_ .nil))
      rcases List.mem_append.mp hz with hz | hz
      · obtain ⟨d', hd', rfl⟩ := List.mem_map.mp hz
        exact hp d' (List.mem_of_mem_take hd')
      · obtain ⟨d', hd', rfl⟩ := List.mem_map.mp hz
        rw [List.mem_singleton.mp hd']
        exact hp d (List.mem_of_getElem? hd)
    · obtain ⟨y1, acc, e1, e2, e3⟩ := p
      refine q _ Hk (x2.trans y1) (.lst (.inl (.inl e1)) ?_)
      rw [len, List.take_length] at e3
      exact e3

/-- a generator expression over a tuple: what its consumer keeps between turns: Pv -/
theorem gx_tup {P : Addr} {i : Nat} {vs : List Nat} {α : Type} {a0 : Tok → α} {Cs : α → V → Hp → (α → Hp → Prop) → Prop} {Fn : α → Hp → Prop} (hP : P ∈ G) (tG : TabsG G H) (h : Ed G K te σ H (.tuple ds)) (hi : i ∈ vs)
    (Pv : Nat → α → Prop) (h0 : ∀ tk, Pv 0 (a0 tk))
    (hb : ∀ k d v al H1, ds[k]? = some d → Pv k al → Ext G H H1 → TabsG G H1 → Dp K H1 v d → tb ((wipe σ vs).set i (some v)) H1 fun y H2 => Cs al y H2 fun al' H3 => Ext G H1 H3 ∧ Pv (k + 1) al')
    (hd : ∀ al H1, Pv ds.length al → Ext G H H1 → Fn al H1) : tGx P (iTup K te) (gName i) tYes tb vs a0 Cs Fn σ H := h H (Ext.refl G H) _ fun v H2 x2 rv => by
  obtain ⟨a, xs, rfl, hs, hr⟩ := dp_tup rv
  have len := dpA_len hr
  have t2 := tG.ext x2
  refine ⟨a, rfl, ⟨xs, hs⟩, t2 P hP, fun H3 hT => ?_⟩
  have x3 : Ext G H2 H3 := Ext.tabbed hP hT
  refine ⟨fun k m al Hk => m = xs.length - k ∧ k ≤ xs.length ∧ Ext G H2 Hk ∧ Pv k al, ⟨xs.length, fun tk => ⟨rfl, Nat.zero_le _, x3, h0 tk⟩⟩, ?_⟩
  rintro k m al Hk ⟨rfl, hk, y1, p⟩
  have q : SqT K Hk a xs := y1.sqT t2 hs
  by_cases hlt : k < xs.length
  · refine .inr ⟨⟨xs, xs[k], q, by simp [hlt]⟩, fun al' H' => Ext G Hk H' ∧ Pv (k + 1) al', fun al' H' z => ⟨xs.length - (k + 1), by omega, rfl, hlt, y1.trans z.1, z.2⟩, fun y H' hy => ?_⟩
    obtain ⟨e, hy⟩ := hy
    subst e
    have hk' := hy xs q
    obtain ⟨d, hd', rd⟩ := dpA_getV hr hk'
    exact ⟨wipe_set σ vs i (some y) hi, hb k d y al _ hd' p (x2.trans y1) (t2.ext y1) (dp_ext y1 t2 rd)⟩
  · have e : k = xs.length := by omega
    subst e
    exact .inl ⟨⟨xs, q, Nat.le_refl _⟩, hd al Hk (by rw [← len]; exact p) (x2.trans y1)⟩

theorem ed_allT {P : Addr} {i : Nat} {vs : List Nat} {p : PyData → Bool} (hP : P ∈ G) (tG : TabsG G H) (h : Ed G K te σ H (.tuple ds)) (hi : i ∈ vs)
    (hb : ∀ d v H1, d ∈ ds → Ext G H H1 → TabsG G H1 → Dp K H1 v d → Ed G K tb ((wipe σ vs).set i (some v)) H1 (.bool (p d))) : Ed G K (tAllG P (iTup K te) (gName i) tYes tb vs) σ H (.bool (ds.all p)) := fun H1 x Q q => by
  refine gx_tup hP (tG.ext x) (h.mono x) hi (fun k _ => ∀ d ∈ ds.take k, p d = true) (fun _ d hd => by simp at hd) (fun k d v al H2 hk hp x2 t2 rd => ?_) fun al H2 hp x2 => ?_
  · refine hb d v H2 (List.mem_of_getElem? hk) (x.trans x2) t2 rd H2 (Ext.refl G H2) _ fun w H3 x3 r => ⟨p d, dp_bl r, ?_⟩
    cases hpd : p d with
    | true =>
      rw [if_pos rfl]
      refine ⟨x3, fun d' hd' => ?_⟩
      rw [take_snoc hk] at hd'
      rcases List.mem_append.mp hd' with z | z
      · exact hp d' z
      · rw [List.mem_singleton.mp z]; exact hpd
    | false =>
      rw [if_neg Bool.false_ne_true]
      refine q _ H3 (x2.trans x3) ?_
      have e : ds.all p = false := by
        rw [List.all_eq_false]
        exact ⟨d, List.mem_of_getElem? hk, by rw [hpd]; exact Bool.false_ne_true⟩
      rw [e]
      exact .bl false
  · refine q _ H2 x2 ?_
    rw [List.take_length] at hp
    rw [List.all_eq_true.mpr hp]
    exact .bl true
theorem ed_anyT {P : Addr} {i : Nat} {vs : List Nat} {p : PyData → Bool} (hP : P ∈ G) (tG : TabsG G H) (h : Ed G K te σ H (.tuple ds)) (hi : i ∈ vs)
    (hb : ∀ d v H1, d ∈ ds → Ext G H H1 → TabsG G H1 → Dp K H1 v d → Ed G K tb ((wipe σ vs).set i (some v)) H1 (.bool (p d))) : Ed G K (tAnyG P (iTup K te) (gName i) tYes tb vs) σ H (.bool (ds.any p)) := fun H1 x Q q => by
  refine gx_tup hP (tG.ext x) (h.mono x) hi (fun k _ => ∀ d ∈ ds.take k, p d = false) (fun _ d hd => by simp at hd) (fun k d v al H2 hk hp x2 t2 rd => ?_) fun al H2 hp x2 => ?_
  · refine hb d v H2 (List.mem_of_getElem? hk) (x.trans x2) t2 rd H2 (Ext.refl G H2) _ fun w H3 x3 r => ⟨p d, dp_bl r, ?_⟩
    cases hpd : p d with
    | false =>
      rw [if_neg Bool.false_ne_true]
      refine ⟨x3, fun d' hd' => ?_⟩
      rw [take_snoc hk] at hd'
      rcases List.mem_append.mp hd' with z | z
      · exact hp d' z
      · rw [List.mem_singleton.mp z]; exact hpd
    | true =>
      rw [if_pos rfl]
      refine q _ H3 (x2.trans x3) ?_
      rw [List.any_eq_true.mpr ⟨d, List.mem_of_getElem? hk, hpd⟩]
      exact .bl true
  · refine q _ H2 x2 ?_
    rw [List.take_length] at hp
    have e : ds.any p = false := by
      rw [List.any_eq_false]
      exact fun d hd z => by rw [hp d hd] at z; cases z
    rw [e]
    exact .bl false
theorem ed_sumT {P : Addr} {i : Nat} {vs : List Nat} {p : PyData → Int} (hP : P ∈ G) (tG : TabsG G H) (h : Ed G K te σ H (.tuple ds)) (hi : i ∈ vs)
    (hb : ∀ d v H1, d ∈ ds → Ext G H H1 → TabsG G H1 → Dp K H1 v d → Ed G K tb ((wipe σ vs).set i (some v)) H1 (.int (p d))) : Ed G K (tSumG P (iTup K te) (gName i) tYes tb vs) σ H (.int (ds.map p).sum) := fun H1 x Q q => by
  refine gx_tup hP (tG.ext x) (h.mono x) hi (fun k al => al.1 = ((ds.take k).map p).sum) (fun _ => rfl) (fun k d v al H2 hk hp x2 t2 rd => ?_) fun al H2 hp x2 => ?_
  · refine hb d v H2 (List.mem_of_getElem? hk) (x.trans x2) t2 rd H2 (Ext.refl G H2) _ fun w H3 x3 r => ⟨p d, dp_int r, fun tk c => ⟨x3, ?_⟩⟩
    rw [take_snoc hk, List.map_append, List.sum_append, hp]
    simp
  · refine q _ H2 x2 ?_
    rw [hp, List.take_length]
    exact .int _
end
end Dl
set_option Elab.async false
set_option linter.all false
set_option maxRecDepth 100000
set_option maxHeartbeats 2000000
namespace Dl
open PySem PySem.Spec PyProof.Rows L2 GxR Gx

/-! ### defs by their code -/
structure FunC (K : PySem.W.Frag) (x qual : Str) (st : Stmt) (f : Addr) (fd : FuncData) (c : Addr) : Prop where
  ex : ∃ (oc : Value) (od : Option Addr) (kV doc pm : Value) (an : Option Addr) (ct : Value) (osl : Array (Option Value)),
    fd = PySem.W.fnOf x qual (defArgs st) (defBody st) (defScope st) .none kV doc pm an (.ref c) ct ∧ K.lookup f = some ⟨oc, od, .func fd, osl⟩ ∧ PySem.W.codeIn K (.ref c) qual = true
  kp : PySem.W.keepIn K (.ref f) = true

/-- a promise on data: R tells arguments and answer -/
def spR (G : List Addr) (K : PySem.W.Frag) (R : List PyData → PyData → Prop) : Sp := fun vs H Q _ => TabsG G H ∧ ∃ ds d, DpAll K H vs ds ∧ R ds d ∧ ∀ v H', Ext G H H' → Dp K H' v d → Q v H'

section
variable {P : Program} {w : World} {K : PySem.W.Frag} {mg : Str → Option Value} {base : Heap} {G : List Addr}
theorem FunC.okR {CX : CXT} {x qual : Str} {st : Stmt} {f c : Addr} {fd : FuncData} {N ps : List Str} {k : Nat} {R : List PyData → PyData → Prop} (F : FunC K x qual st f fd c) (S : FnScope N ps (defScope st)) (len : ∀ ds d, R ds d → ds.length = ps.length)
    (hbody : ∀ (A : Around) (outer : List Env) (s : Shared) (H : Hp) (vs : List V) (ds : List PyData) (d : PyData) (Q : VK) (E : XK), Room k (A.deeper (envOfC qual (defScope st) s.heap.objs.size f (.ref c))) →
      TabsG G H → DpAll K H vs ds → R ds d → (∀ v H', Ext G H H' → Dp K H' v d → Q v H') →
      ∃ t, PSs (cxOf CX P w K mg base N qual (defScope st) f (.ref c) A outer s H E).nox (defBody st) t ∧ t { nx := fun _ H' => Q .non H', rt := Q } (start N vs) H) : FnOk P w K mg base CX (k + 1) f fd ps (spR G K R) := by
  obtain ⟨oc, od, kV, doc, pm, an, ct, osl, rfl, lk, hcd⟩ := F.ex
  refine fn_of lk hcd S (fun vs H Q E ⟨_, ds, d, h1, h2, _⟩ => (dpA_len h1).trans (len ds d h2)) fun A outer s H vs Q E hr hsp => ?_
  obtain ⟨tG, ds, d, h1, h2, q⟩ := hsp
  obtain ⟨t, h, q⟩ := hbody A outer s H vs ds d Q E hr tG h1 h2 q
  exact ⟨t, h.nox, q⟩
theorem ed_call {R : List PyData → PyData → Prop} {σ : L2.St} {H : Hp} {ta : TA} {ds : List PyData} {d : PyData} {E : XK} (tG : TabsG G H) (h : EdA G K ta σ H ds) (r : R ds d) : Ed G K (tCall (spR G K R) [] E ta) σ H d := fun H1 x Q q =>
  h H1 x _ fun vs H2 x2 rs => by
    show spR G K R (vs ++ []) H2 Q E
    rw [List.append_nil]
    exact ⟨(tG.ext x).ext x2, ds, d, rs, r, fun v H3 x3 rv => q v H3 (x2.trans x3) rv⟩
end

/-! ### statements -/
section
variable {G : List Addr} {K : PySem.W.Frag} {σ : L2.St} {H H' : Hp} {ta tb te : TE} {tt : TT} {t u : TS} {d e f : PyData} {b c : Bool} {D : Ends}
theorem s_ret (h : Ed G K te σ H d) (q : ∀ v H', Ext G H H' → Dp K H' v d → D.rt v H') : tRet te D σ H := h H (Ext.refl G H) D.rt q
theorem s_if (h : EdT G tt σ H b) (h1 : b = true → ∀ H', Ext G H H' → t D σ H') (h2 : b = false → ∀ H', Ext G H H' → u D σ H') : tIfS tt t u D σ H := h H (Ext.refl G H) _ fun H2 x2 => by
  cases b with
  | true =>
    show t D σ H2
    exact h1 rfl H2 x2
  | false =>
    show u D σ H2
    exact h2 rfl H2 x2
/-- if ..: return ..; the rest -/
theorem s_ifR (h : EdT G tt σ H b) (h1 : b = true → ∀ H', Ext G H H' → t { D with nx := u D } σ H') (h2 : b = false → ∀ H', Ext G H H' → u D σ H') : tSeq (tIfS tt t tNext) u D σ H :=
  s_if (u := tNext) h h1 fun e H' x => h2 e H' x
theorem s_set {i : Nat} (h : Ed G K te σ H d) (q : ∀ v H', Ext G H H' → Dp K H' v d → D.nx (σ.set i (some v)) H') : tAsg te (gName i) D σ H := h H (Ext.refl G H) _ fun v H2 x2 r => q v H2 x2 r

/-- a generator expression over a text -/
theorem gx_str {P : Addr} {i : Nat} {vs : List Nat} {z : Str} {α : Type} {a0 : Tok → α} {Cs : α → V → Hp → (α → Hp → Prop) → Prop} {Fn : α → Hp → Prop} (hP : P ∈ G) (tG : TabsG G H) (h : Ed G K te σ H (.str z)) (hi : i ∈ vs)
    (Pv : Nat → α → Prop) (h0 : ∀ tk, Pv 0 (a0 tk))
    (hb : ∀ (k : Nat) (cc : Nat) al H1, z.cps.toList[k]? = some cc → Pv k al → Ext G H H1 → TabsG G H1 → tb ((wipe σ vs).set i (some (.str ⟨#[cc]⟩))) H1 fun y H2 => Cs al y H2 fun al' H3 => Ext G H1 H3 ∧ Pv (k + 1) al')
    (hd : ∀ al H1, Pv z.cps.toList.length al → Ext G H H1 → Fn al H1) : tGx P (iStr te) (gName i) tYes tb vs a0 Cs Fn σ H := h H (Ext.refl G H) _ fun v H2 x2 rv => by
  have t2 := tG.ext x2
  refine ⟨z, dp_str rv, t2 P hP, fun H3 hT => ?_⟩
  have x3 : Ext G H2 H3 := Ext.tabbed hP hT
  have esz : z.cps.toList.length = z.cps.size := Array.length_toList
  refine ⟨fun k m al Hk => m = z.cps.size - k ∧ k ≤ z.cps.size ∧ Ext G H2 Hk ∧ Pv k al, ⟨z.cps.size, fun tk => ⟨rfl, Nat.zero_le _, x3, h0 tk⟩⟩, ?_⟩
  rintro k m al Hk ⟨rfl, hk, y1, p⟩
  by_cases hlt : k < z.cps.size
  · refine .inr ⟨hlt, fun al' H' => Ext G Hk H' ∧ Pv (k + 1) al', fun al' H' w => ⟨z.cps.size - (k + 1), by omega, rfl, hlt, y1.trans w.1, w.2⟩, fun y H' hy => ?_⟩
    obtain ⟨e, cc, ec, ey⟩ := hy
    subst e ey
    exact ⟨wipe_set σ vs i _ hi, hb k cc al _ (by rw [Array.getElem?_toList]; exact ec) p (x2.trans y1) (t2.ext y1)⟩
  · have e : k = z.cps.size := by omega
    subst e
    exact .inl ⟨Nat.le_refl _, hd al Hk (by rw [esz]; exact p) (x2.trans y1)⟩
theorem ed_allS {P : Addr} {i : Nat} {vs : List Nat} {z : Str} {p : Nat → Bool} (hP : P ∈ G) (tG : TabsG G H) (h : Ed G K te σ H (.str z)) (hi : i ∈ vs)
    (hb : ∀ (cc : Nat) H1, Ext G H H1 → TabsG G H1 → Ed G K tb ((wipe σ vs).set i (some (.str ⟨#[cc]⟩))) H1 (.bool (p cc))) : Ed G K (tAllG P (iStr te) (gName i) tYes tb vs) σ H (.bool (z.cps.toList.all p)) := fun H1 x Q q => by
  refine gx_str hP (tG.ext x) (h.mono x) hi (fun k _ => ∀ d ∈ z.cps.toList.take k, p d = true) (fun _ d hd => by simp at hd) (fun k d al H2 hk hp x2 t2 => ?_) fun al H2 hp x2 => ?_
  · refine hb d H2 (x.trans x2) t2 H2 (Ext.refl G H2) _ fun w H3 x3 r => ⟨p d, dp_bl r, ?_⟩
    cases hpd : p d with
    | true =>
      rw [if_pos rfl]
      refine ⟨x3, fun d' hd' => ?_⟩
      rw [take_snoc hk] at hd'
      rcases List.mem_append.mp hd' with z | z
      · exact hp d' z
      · rw [List.mem_singleton.mp z]; exact hpd
    | false =>
      rw [if_neg Bool.false_ne_true]
      refine q _ H3 (x2.trans x3) ?_
      have e : z.cps.toList.all p = false := by
        rw [List.all_eq_false]
        exact ⟨d, List.mem_of_getElem? hk, by rw [hpd]; exact Bool.false_ne_true⟩
      rw [e]
      exact .bl false
  · refine q _ H2 x2 ?_
    rw [List.take_length] at hp
    rw [List.all_eq_true.mpr hp]
    exact .bl true

/-! texts -/
theorem rd_eqS {x y : Str} : Rd2 G K rEq (.str x) (.str y) (.bool (decide (x = y))) H := fun H1 _ v u rv ru Q q => by
  rw [dp_str rv, dp_str ru]
  refine ⟨rfl, q _ H1 (Ext.refl G H1) ?_⟩
  have e : decide ((V.str x) = V.str y) = decide (x = y) := by
    by_cases h : x = y
    · subst h; simp
    · rw [decide_eq_false h, decide_eq_false (fun z => h (by injection z))]
  rw [e]
  exact .bl _
theorem rd_neS {x y : Str} : Rd2 G K rNe (.str x) (.str y) (.bool (!decide (x = y))) H := fun H1 _ v u rv ru Q q => by
  rw [dp_str rv, dp_str ru]
  refine ⟨rfl, q _ H1 (Ext.refl G H1) ?_⟩
  have e : decide ((V.str x) = V.str y) = decide (x = y) := by
    by_cases h : x = y
    · subst h; simp
    · rw [decide_eq_false h, decide_eq_false (fun z => h (by injection z))]
  rw [e]
  exact .bl _
theorem rd_inSign {c : Nat} {z : Str} : Rd2 G K (fun x y H Q => ∃ (c : Nat) (z : Str), x = .str ⟨#[c]⟩ ∧ y = .str z ∧ Q (.bl (decide (c ∈ z.cps.toList))) H) (.str ⟨#[c]⟩) (.str z) (.bool (decide (c ∈ z.cps.toList))) H := fun H1 _ v u rv ru Q q =>
  ⟨c, z, dp_str rv, dp_str ru, q _ H1 (Ext.refl G H1) (.bl _)⟩
theorem rd_niSign {c : Nat} {z : Str} : Rd2 G K (fun x y H Q => ∃ (c : Nat) (z : Str), x = .str ⟨#[c]⟩ ∧ y = .str z ∧ Q (.bl (!decide (c ∈ z.cps.toList))) H) (.str ⟨#[c]⟩) (.str z) (.bool (!decide (c ∈ z.cps.toList))) H := fun H1 _ v u rv ru Q q =>
  ⟨c, z, dp_str rv, dp_str ru, q _ H1 (Ext.refl G H1) (.bl _)⟩
theorem rd_ixS {z : Str} {i : Int} {c : Nat} (hz : z.length ≤ sizeLine) (h0 : 0 ≤ i) (h : z.cps.toList[i.toNat]? = some c) : Rd2 G K rIxS (.str z) (.int i) (.str ⟨#[c]⟩) H := fun H1 _ v u rv ru Q q => by
  have e : i = ((i.toNat : Nat) : Int) := (Int.toNat_of_nonneg h0).symm
  refine ⟨z, i, c, dp_str rv, dp_int ru, hz, ?_, q _ H1 (Ext.refl G H1) (.str _)⟩
  rw [e]
  exact atI_nat h

theorem dpA_one {vs : List V} (h : DpAll K H vs [d]) : ∃ v, vs = [v] ∧ Dp K H v d := by
  cases h with
  | cons a r => cases r; exact ⟨_, rfl, a⟩
theorem dpA_two {vs : List V} (h : DpAll K H vs [d, e]) : ∃ v u, vs = [v, u] ∧ Dp K H v d ∧ Dp K H u e := by
  cases h with
  | cons a r =>
    obtain ⟨u, rfl, b⟩ := dpA_one r
    exact ⟨_, _, rfl, a, b⟩
theorem dpA_three {vs : List V} (h : DpAll K H vs [d, e, f]) : ∃ v u w, vs = [v, u, w] ∧ Dp K H v d ∧ Dp K H u e ∧ Dp K H w f := by
  cases h with
  | cons a r =>
    obtain ⟨u, w, rfl, b, c⟩ := dpA_two r
    exact ⟨_, _, _, rfl, a, b, c⟩
/-- a data's built-in class -/
def tyD : PyData → String
  | .none => "NoneType"
  | .bool _ => "bool"
  | .int _ => "int"
  | .str _ => "str"
  | .list _ => "list"
  | .tuple _ => "tuple"
  | .dict _ => "dict"
theorem tyX_of {v : V} (h : Dp K H v d) : TyX K H v (.type (tyD d)) := by
  cases h with
  | non => exact .base .non
  | bl b => exact .base (.bl b)
  | int i => exact .base (.int i)
  | str z => exact .base (.str z)
  | lst h r =>
    rcases h with h | ⟨o, its, n, hk, hc, _⟩
    · rcases h with h | ⟨o, h⟩
      · exact .base (.lst h)
      · exact .base (.frz h)
    · exact .kList hk hc
  | tup h r =>
    rcases h with h | ⟨o, its, n, hk, hc, _⟩
    · rcases h with h | ⟨o, h⟩
      · exact .base (.tup h)
      · exact .fTuple h
    · exact .kTuple hk hc
theorem ed_isi {T : String} {b : Bool} (h : Ed G K ta σ H d) (hk : PySem.W.kitOne K (.type (tyD d)) (.type T) = some b) : Ed G K (tCB (rIsi K) (tCons ta (tCons (tC (.ty T)) tNil))) σ H (.bool b) := fun H1 x Q q =>
  h H1 x _ fun v H2 x2 rv => ⟨v, .ty T, .type (tyD d), .type T, b, rfl, .ty T, tyX_of rv, hk, q _ H2 x2 (.bl b)⟩
theorem ed_slS {z : Str} {te : TE} {tl th : TO} {lo hi : Option Int} (hz : z.length ≤ sizeLine) (h : Ed G K te σ H (.str z)) (h1 : ∀ H1, Ext G H H1 → ∀ Q : Option Int → Hp → Prop, Q lo H1 → tl σ H1 Q) (h2 : ∀ H1, Ext G H H1 → ∀ Q : Option Int → Hp → Prop, Q hi H1 → th σ H1 Q) :
    Ed G K (tSl rSlS te tl th) σ H (.str (cutS z lo hi)) := fun H1 x Q q => h H1 x _ fun v H2 x2 rv => h1 H2 (x.trans x2) _ (h2 H2 (x.trans x2) _ ⟨z, dp_str rv, hz, q _ H2 x2 (.str _)⟩)
theorem cutS_tail (z : Str) : (cutS z (some 1) none).cps.toList = z.cps.toList.drop 1 := by
  unfold cutS
  rw [show HT.sIx z.length 0 (some 1) = min 1 z.length from HT.sIx_nat z.length 0 1, HT.sIx_none]
  have e : z.length = z.cps.toList.length := by simp [Str.length]
  rw [e]
  cases z.cps.toList with
  | nil => rfl
  | cons c r =>
    simp
end
end Dl
set_option Elab.async false
set_option linter.all false
set_option maxRecDepth 100000
set_option maxHeartbeats 2000000
/-! dicts as arguments; loops on data -/
namespace Dl
open PySem PySem.Spec PyProof.Rows L2 GxR Gx

inductive Ar where
  | d (x : PyData)
  | k (es : List (Key × PyData))
inductive DkR (K : PySem.W.Frag) (H : Hp) : List (Key × V) → List (Key × PyData) → Prop where
  | nil : DkR K H [] []
  | cons {k : Key} {v : V} {d : PyData} {ks : List (Key × V)} {es : List (Key × PyData)} : Dp K H v d → DkR K H ks es → DkR K H ((k, v) :: ks) ((k, d) :: es)
def ArR (K : PySem.W.Frag) (H : Hp) (v : V) : Ar → Prop
  | .d x => Dp K H v x
  | .k es => ∃ a kvs, v = .ref a ∧ H a = some (.dK kvs) ∧ DkR K H kvs es
inductive ArA (K : PySem.W.Frag) (H : Hp) : List V → List Ar → Prop where
  | nil : ArA K H [] []
  | cons {v : V} {a : Ar} {vs : List V} {as : List Ar} : ArR K H v a → ArA K H vs as → ArA K H (v :: vs) (a :: as)
def valD (es : List (Key × PyData)) (k : Key) : Option PyData := (es.find? fun kv => decide (kv.1 = k)).map (·.2)

section
variable {G : List Addr} {K : PySem.W.Frag} {H H' : Hp}
theorem dkR_ext (x : Ext G H H') (t : TabsG G H) : ∀ {ks : List (Key × V)} {es : List (Key × PyData)}, DkR K H ks es → DkR K H' ks es
  | _, _, .nil => .nil
  | _, _, .cons a r => .cons (dp_ext x t a) (dkR_ext x t r)
theorem ar_ext (x : Ext G H H') (t : TabsG G H) {v : V} : ∀ {a : Ar}, ArR K H v a → ArR K H' v a
  | .d _, h => dp_ext x t h
  | .k _, ⟨a, kvs, e, h, r⟩ => ⟨a, kvs, e, x.at t h (fun ps z => by cases z), dkR_ext x t r⟩
theorem arA_ext (x : Ext G H H') (t : TabsG G H) : ∀ {vs : List V} {as : List Ar}, ArA K H vs as → ArA K H' vs as
  | _, _, .nil => .nil
  | _, _, .cons a r => .cons (ar_ext x t a) (arA_ext x t r)
theorem arA_len : ∀ {vs : List V} {as : List Ar}, ArA K H vs as → vs.length = as.length
  | _, _, .nil => rfl
  | _, _, .cons _ r => congrArg (· + 1) (arA_len r)
theorem arA_one {vs : List V} {a : Ar} (h : ArA K H vs [a]) : ∃ v, vs = [v] ∧ ArR K H v a := by
  cases h with
  | cons a r => cases r; exact ⟨_, rfl, a⟩
theorem arA_two {vs : List V} {a b : Ar} (h : ArA K H vs [a, b]) : ∃ v u, vs = [v, u] ∧ ArR K H v a ∧ ArR K H u b := by
  cases h with
  | cons a r =>
    obtain ⟨u, rfl, b⟩ := arA_one r
    exact ⟨_, _, rfl, a, b⟩
theorem arA_three {vs : List V} {a b c : Ar} (h : ArA K H vs [a, b, c]) : ∃ v u w, vs = [v, u, w] ∧ ArR K H v a ∧ ArR K H u b ∧ ArR K H w c := by
  cases h with
  | cons a r =>
    obtain ⟨u, w, rfl, b, c⟩ := arA_two r
    exact ⟨_, _, _, rfl, a, b, c⟩
theorem arA_four {vs : List V} {a b c d : Ar} (h : ArA K H vs [a, b, c, d]) : ∃ v u w z, vs = [v, u, w, z] ∧ ArR K H v a ∧ ArR K H u b ∧ ArR K H w c ∧ ArR K H z d := by
  cases h with
  | cons a r =>
    obtain ⟨u, w, z, rfl, b, c, d⟩ := arA_three r
    exact ⟨_, _, _, _, rfl, a, b, c, d⟩
theorem arA_five {vs : List V} {a b c d e : Ar} (h : ArA K H vs [a, b, c, d, e]) : ∃ v u w z y, vs = [v, u, w, z, y] ∧ ArR K H v a ∧ ArR K H u b ∧ ArR K H w c ∧ ArR K H z d ∧ ArR K H y e := by
  cases h with
  | cons a r =>
    obtain ⟨u, w, z, y, rfl, b, c, d, e⟩ := arA_four r
    exact ⟨_, _, _, _, _, rfl, a, b, c, d, e⟩
theorem dkR_val (k : Key) : ∀ {ks : List (Key × V)} {es : List (Key × PyData)}, DkR K H ks es → (valD es k = none → valV ks k = none) ∧ ∀ d, valD es k = some d → ∃ v, valV ks k = some v ∧ Dp K H v d
  | _, _, .nil => ⟨fun _ => rfl, fun d e => by cases e⟩
  | _, _, .cons (k := j) (v := v) (d := d) a r => by
    have ih := dkR_val k r
    by_cases h : j = k
    · rw [valV_pos h]
      refine ⟨fun e => ?_, fun d' e => ?_⟩
      · rw [valD, List.find?_cons, show decide ((j, d).1 = k) = true from decide_eq_true h] at e
        cases e
      · rw [valD, List.find?_cons, show decide ((j, d).1 = k) = true from decide_eq_true h] at e
        have e' := Option.some.inj e
        subst e'
        exact ⟨v, rfl, a⟩
    · rw [valV_neg (p := (j, v)) h]
      have e0 : ∀ es', valD ((j, d) :: es') k = valD es' k := fun es' => by
        rw [valD, valD, List.find?_cons, show decide ((j, d).1 = k) = false from decide_eq_false h]
      rw [e0]
      exact ih
end

/-- a promise on arguments, dicts among them -/
def spA (G : List Addr) (K : PySem.W.Frag) (R : List Ar → PyData → Prop) : Sp := fun vs H Q _ => TabsG G H ∧ ∃ as d, ArA K H vs as ∧ R as d ∧ ∀ v H', Ext G H H' → Dp K H' v d → Q v H'
/-- a promise of an exception of the class at C -/
def spE (G : List Addr) (K : PySem.W.Frag) (R : List Ar → Prop) (C : Addr) : Sp := fun vs H _ E => TabsG G H ∧ ∃ as, ArA K H vs as ∧ R as ∧ ∀ H', Ext G H H' → E (.ref C) none H'

section
variable (G : List Addr) (K : PySem.W.Frag)
def EdX (te : TE) (σ : L2.St) (H : Hp) (a : Ar) : Prop := ∀ H1, Ext G H H1 → ∀ Q : VK, (∀ v H2, Ext G H1 H2 → ArR K H2 v a → Q v H2) → te σ H1 Q
def EdXA (ta : TA) (σ : L2.St) (H : Hp) (as : List Ar) : Prop := ∀ H1, Ext G H H1 → ∀ Q : List V → Hp → Prop, (∀ vs H2, Ext G H1 H2 → ArA K H2 vs as → Q vs H2) → ta σ H1 Q
end
section
variable {P : Program} {w : World} {K : PySem.W.Frag} {mg : Str → Option Value} {base : Heap} {G : List Addr}
theorem FunC.okA {CX : CXT} {x qual : Str} {st : Stmt} {f c : Addr} {fd : FuncData} {N ps : List Str} {k : Nat} {R : List Ar → PyData → Prop} (F : FunC K x qual st f fd c) (S : FnScope N ps (defScope st)) (len : ∀ ds d, R ds d → ds.length = ps.length)
    (hbody : ∀ (A : Around) (outer : List Env) (s : Shared) (H : Hp) (vs : List V) (ds : List Ar) (d : PyData) (Q : VK) (E : XK), Room k (A.deeper (envOfC qual (defScope st) s.heap.objs.size f (.ref c))) →
      TabsG G H → ArA K H vs ds → R ds d → (∀ v H', Ext G H H' → Dp K H' v d → Q v H') →
      ∃ t, PSs (cxOf CX P w K mg base N qual (defScope st) f (.ref c) A outer s H E).nox (defBody st) t ∧ t { nx := fun _ H' => Q .non H', rt := Q } (start N vs) H) : FnOk P w K mg base CX (k + 1) f fd ps (spA G K R) := by
  obtain ⟨oc, od, kV, doc, pm, an, ct, osl, rfl, lk, hcd⟩ := F.ex
  refine fn_of lk hcd S (fun vs H Q E ⟨_, ds, d, h1, h2, _⟩ => (arA_len h1).trans (len ds d h2)) fun A outer s H vs Q E hr hsp => ?_
  obtain ⟨tG, ds, d, h1, h2, q⟩ := hsp
  obtain ⟨t, h, q⟩ := hbody A outer s H vs ds d Q E hr tG h1 h2 q
  exact ⟨t, h.nox, q⟩
end
section
variable {G : List Addr} {K : PySem.W.Frag} {σ : L2.St} {H H' : Hp} {ta tb te : TE} {tA : TA} {d e f : PyData} {es : List (Key × PyData)}
theorem EdX.mono {a : Ar} (x : Ext G H H') (h : EdX G K te σ H a) : EdX G K te σ H' a := fun H1 a Q q => h H1 (x.trans a) Q q
theorem edx_of (h : Ed G K te σ H d) : EdX G K te σ H (.d d) := h
theorem edx_var {i : Nat} {v : V} {a : Ar} (t : TabsG G H) (h : σ[i]? = some (some v)) (r : ArR K H v a) : EdX G K (tVar i) σ H a := fun H1 x _ q => ⟨v, h, q v H1 (Ext.refl G H1) (ar_ext x t r)⟩
theorem ea_nil : EdXA G K tNil σ H [] := fun H1 _ _ q => q _ H1 (Ext.refl G H1) .nil
theorem ea_cons {a : Ar} {as : List Ar} (tG : TabsG G H) (h : EdX G K te σ H a) (r : EdXA G K tA σ H as) : EdXA G K (tCons te tA) σ H (a :: as) := fun H1 x Q q =>
  h H1 x _ fun v H2 x2 rv => r H2 (x.trans x2) _ fun vs H3 x3 rs => q _ H3 (x2.trans x3) (.cons (ar_ext x3 ((tG.ext x).ext x2) rv) rs)
theorem ea_one {a : Ar} (h : EdX G K te σ H a) : EdXA G K (tCons te tNil) σ H [a] := fun H1 x Q q => h H1 x _ fun v H2 x2 rv => q _ H2 x2 (.cons rv .nil)
theorem ea_call {R : List Ar → PyData → Prop} {as : List Ar} {E : XK} (tG : TabsG G H) (h : EdXA G K tA σ H as) (r : R as d) : Ed G K (tCall (spA G K R) [] E tA) σ H d := fun H1 x Q q =>
  h H1 x _ fun vs H2 x2 rs => by
    show spA G K R (vs ++ []) H2 Q E
    rw [List.append_nil]
    exact ⟨(tG.ext x).ext x2, as, d, rs, r, fun v H3 x3 rv => q v H3 (x2.trans x3) rv⟩
/-! dicts -/
theorem ed_dget {x : Str} (tG : TabsG G H) (h : EdX G K ta σ H (.k es)) (hk : Ed G K tb σ H (.str x)) (hv : valD es (.inr x) = some d) : Ed G K (tDGet ta tb) σ H d := fun H1 z Q q =>
  h H1 z _ fun v H2 x2 rv => hk H2 (z.trans x2) _ fun u H3 x3 ru => by
    obtain ⟨a, kvs, rfl, ha, r⟩ := ar_ext x3 ((tG.ext z).ext x2) rv
    obtain ⟨w, hw, rw_⟩ := (dkR_val (.inr x) r).2 d hv
    rw [dp_str ru]
    refine ⟨a, w, rfl, ?_, q w H3 (x2.trans x3) rw_⟩
    rw [← hw]
    exact DGet.k (k := .inr x) ha
theorem ed_dget2 {x : Str} {tc : TE} (tG : TabsG G H) (h : EdX G K ta σ H (.k es)) (hk : Ed G K tb σ H (.str x)) (hc : Ed G K tc σ H e) (hv : (valD es (.inr x)).getD e = d) : Ed G K (tDGet2 ta tb tc) σ H d := fun H1 z Q q =>
  h H1 z _ fun v H2 x2 rv => by
    obtain ⟨a, kvs, rfl, ha, r⟩ := rv
    have t2 := (tG.ext z).ext x2
    refine ⟨a, rfl, .inl ⟨kvs, .inl ha⟩, hk H2 (z.trans x2) _ fun u H3 x3 ru => hc H3 ((z.trans x2).trans x3) _ fun y H4 x4 ry => ?_⟩
    have x24 := x3.trans x4
    have ha4 := x24.at t2 ha (fun ps z => by cases z)
    have r4 := dkR_ext x24 t2 r
    rw [dp_str ru]
    refine ⟨valV kvs (.inr x), DGet.k (k := .inr x) ha4, ?_⟩
    have dv := dkR_val (.inr x) r4
    cases hx : valD es (.inr x) with
    | none =>
      rw [hx] at hv
      rw [dv.1 hx]
      have hv' : e = d := hv
      exact q y H4 (x2.trans x24) (hv' ▸ ry)
    | some d' =>
      rw [hx] at hv
      obtain ⟨w, hw, rw_⟩ := dv.2 d' hx
      rw [hw]
      have hv' : d' = d := hv
      exact q w H4 (x2.trans x24) (hv' ▸ rw_)
theorem ed_dnin {x : Str} (tG : TabsG G H) (hk : Ed G K tb σ H (.str x)) (h : EdX G K ta σ H (.k es)) : Ed G K (tDNotIn tb ta) σ H (.bool (!(valD es (.inr x)).isSome)) := fun H1 z Q q =>
  hk H1 z _ fun u H2 x2 ru => h H2 (z.trans x2) _ fun v H3 x3 rv => by
    obtain ⟨a, kvs, rfl, ha, r⟩ := rv
    rw [dp_str ru]
    refine ⟨a, valV kvs (.inr x), rfl, DGet.k (k := .inr x) ha, q _ H3 (x2.trans x3) ?_⟩
    have dv := dkR_val (.inr x) r
    cases hx : valD es (.inr x) with
    | none => rw [dv.1 hx]; exact .bl _
    | some d' =>
      obtain ⟨w, hw, _⟩ := dv.2 d' hx
      rw [hw]
      exact .bl _
/-- for x in t, t a tuple; each turn on data -/
theorem s_forT {ds : List PyData} {tb : TS} {D : Ends} {g : TG} (tG : TabsG G H) (h : Ed G K te σ H (.tuple ds)) (Pv : Nat → L2.St → Prop) (h0 : Pv 0 σ)
    (hs : ∀ i d v σ' H' (N : L2.St → Hp → Prop), ds[i]? = some d → Pv i σ' → Ext G H H' → Dp K H' v d → TabsG G H' → (∀ σ2 H2, Ext G H' H2 → Pv (i + 1) σ2 → N σ2 H2) → g v σ' H' fun σ2 H2 => tb { D with nx := N, ct := N, bk := D.nx } σ2 H2)
    (hd : ∀ σ' H', Ext G H H' → Pv ds.length σ' → D.nx σ' H') : tFor (iTup K te) g tb D σ H := h H (Ext.refl G H) _ fun v H2 x2 rv => by
  obtain ⟨a, xs, rfl, q, r⟩ := dp_tup rv
  have t2 := tG.ext x2
  have len := dpA_len r
  refine ⟨a, rfl, ⟨xs, q⟩, for_tup (a := a) (xs := xs) (fun i σ' H' => Pv i σ' ∧ Ext G H2 H') ⟨h0, Ext.refl G H2⟩ (fun i σ' H' _ p => p.2.sqT t2 q) (fun i x σ' H' hx p => ?_) (fun σ' H' p => hd σ' H' (x2.trans p.2) (by rw [← len]; exact p.1))⟩
  obtain ⟨d, hd', rd⟩ := dpA_getV r hx
  exact hs i d x σ' H' _ hd' p.1 (x2.trans p.2) (dp_ext p.2 t2 rd) (t2.ext p.2) fun σ2 H3 y w => ⟨w, p.2.trans y⟩
theorem s_forL {ds : List PyData} {tb : TS} {D : Ends} {g : TG} (tG : TabsG G H) (h : Ed G K te σ H (.list ds)) (Pv : Nat → L2.St → Prop) (h0 : Pv 0 σ)
    (hs : ∀ i d v σ' H' (N : L2.St → Hp → Prop), ds[i]? = some d → Pv i σ' → Ext G H H' → Dp K H' v d → TabsG G H' → (∀ σ2 H2, Ext G H' H2 → Pv (i + 1) σ2 → N σ2 H2) → g v σ' H' fun σ2 H2 => tb { D with nx := N, ct := N, bk := D.nx } σ2 H2)
    (hd : ∀ σ' H', Ext G H H' → Pv ds.length σ' → D.nx σ' H') : tFor (iList K te) g tb D σ H := h H (Ext.refl G H) _ fun v H2 x2 rv => by
  obtain ⟨a, xs, rfl, q, r⟩ := dp_lst rv
  have t2 := tG.ext x2
  have len := dpA_len r
  refine ⟨a, rfl, ⟨xs, q⟩, for_list (a := a) (xs := xs) (fun i σ' H' => Pv i σ' ∧ Ext G H2 H') ⟨h0, Ext.refl G H2⟩ (fun i σ' H' _ p => p.2.sqL t2 q) (fun i x σ' H' hx p => ?_) (fun σ' H' p => hd σ' H' (x2.trans p.2) (by rw [← len]; exact p.1))⟩
  obtain ⟨d, hd', rd⟩ := dpA_getV r hx
  exact hs i d x σ' H' _ hd' p.1 (x2.trans p.2) (dp_ext p.2 t2 rd) (t2.ext p.2) fun σ2 H3 y w => ⟨w, p.2.trans y⟩
/-- for a, b in zip(t, u), two tuples as long as each other -/
theorem s_forZ {ds ds2 : List PyData} {tb : TS} {D : Ends} {g : TG} (tG : TabsG G H) (h : EdA G K tA σ H [.tuple ds, .tuple ds2]) (hlen : ds.length = ds2.length) (Pv : Nat → L2.St → Prop) (h0 : Pv 0 σ)
    (hs : ∀ i d d2 v u T σ' H' (N : L2.St → Hp → Prop), ds[i]? = some d → ds2[i]? = some d2 → Pv i σ' → Ext G H H' → Dp K H' v d → Dp K H' u d2 → H' T = some (.tup [v, u]) → TabsG G H' → (∀ σ2 H2, Ext G H' H2 → Pv (i + 1) σ2 → N σ2 H2) → g (.ref T) σ' H' fun σ2 H2 => tb { D with nx := N, ct := N, bk := D.nx } σ2 H2)
    (hd : ∀ σ' H', Ext G H H' → Pv ds.length σ' → D.nx σ' H') : tFor (RZ.iZipA K tA) g tb D σ H := h H (Ext.refl G H) _ fun vs H2 x2 rs => by
  obtain ⟨v, u, rfl, rv, ru⟩ := dpA_two rs
  obtain ⟨a, xs, rfl, q, r⟩ := dp_tup rv
  obtain ⟨b, ys, rfl, q2, r2⟩ := dp_tup ru
  have t2 := tG.ext x2
  have len := dpA_len r
  have len2 := dpA_len r2
  refine ⟨a, b, xs, ys, rfl, .inr ⟨q, q2, RZ.for_zipT (a := a) (b := b) (xs := xs) (ys := ys) (by omega) (fun i σ' H' => Pv i σ' ∧ Ext G H2 H') ⟨h0, Ext.refl G H2⟩ (fun i σ' H' p => ⟨p.2.sqT t2 q, p.2.sqT t2 q2⟩) (fun i x y T σ' H' hx hy p hT => ?_) (fun σ' H' p => hd σ' H' (x2.trans p.2) (by rw [← len]; exact p.1))⟩⟩
  obtain ⟨d, hd', rd⟩ := dpA_getV r hx
  obtain ⟨d2, hd2, rd2⟩ := dpA_getV r2 hy
  have x3 : Ext G H' (upd H' T (.tup [x, y])) := Ext.new hT
  have x4 := p.2.trans x3
  exact hs i d d2 x y T σ' _ _ hd' hd2 p.1 (x2.trans x4) (dp_ext x4 t2 rd) (dp_ext x4 t2 rd2) upd_same (t2.ext x4) fun σ2 H3 y w => ⟨w, x4.trans y⟩
/-- while -/
theorem s_while {c : TT} {tb : TS} {D : Ends} (tG : TabsG G H) (Pv : L2.St → Hp → Prop) (μ : L2.St → Nat) (b : L2.St → Bool) (h0 : Pv σ H)
    (hc : ∀ σ' H', Pv σ' H' → Ext G H H' → EdT G c σ' H' (b σ'))
    (hs : ∀ σ' H' (N : L2.St → Hp → Prop), Pv σ' H' → Ext G H H' → b σ' = true → TabsG G H' → (∀ σ2 H2, Ext G H' H2 → Pv σ2 H2 → μ σ2 < μ σ' → N σ2 H2) → tb { D with nx := N, ct := N, bk := D.nx } σ' H')
    (hp : ∀ σ' H1 H2, Ext G H1 H2 → TabsG G H1 → Pv σ' H1 → Pv σ' H2)
    (hd : ∀ σ' H', Ext G H H' → Pv σ' H' → b σ' = false → D.nx σ' H') (mono : ∀ σ H Q Q', (∀ b H1, Q b H1 → Q' b H1) → c σ H Q → c σ H Q') : tWhile c tb D σ H := by
  refine while_by (fun σ' H' => Pv σ' H' ∧ Ext G H H') (fun σ' _ => μ σ') ⟨h0, Ext.refl G H⟩ (fun σ' H' p => ?_) mono
  refine hc σ' H' p.1 p.2 H' (Ext.refl G H') _ fun H2 x2 => ?_
  have t1 := tG.ext p.2
  cases hb : b σ' with
  | true =>
    rw [if_pos rfl]
    exact hs σ' H2 _ (hp _ _ _ x2 t1 p.1) (p.2.trans x2) hb (t1.ext x2) fun σ2 H3 y w l => ⟨⟨w, (p.2.trans x2).trans y⟩, l⟩
  | false =>
    rw [if_neg Bool.false_ne_true]
    exact hd σ' H2 (p.2.trans x2) (hp _ _ _ x2 t1 p.1) hb
end
end Dl
set_option Elab.async false
set_option linter.all false
set_option maxRecDepth 100000
set_option maxHeartbeats 2000000
/-! terms -/
namespace Rh
open PySem PySem.Spec PyProof.Rows L2 GxR Gx Dl

def isVarS (x : Str) : Bool := match x.cps.toList with
  | [] => false
  | c :: r => decide (c ∈ (Str.ofString "uvwxyz").cps.toList) && r.all fun d => decide (d ∈ (Str.ofString "0123456789").cps.toList)

/-- terms of signs with at most two parts -/
inductive T where
  | v (x : Str)
  | c (s : Str)
  | u (s : Str) (t : T)
  | b (s : Str) (t r : T)
  deriving DecidableEq
def T.sgn : T → Str
  | .v x => x
  | .c s => s
  | .u s _ => s
  | .b s _ _ => s
def T.parts : T → List T
  | .v _ => []
  | .c _ => []
  | .u _ t => [t]
  | .b _ t r => [t, r]
def T.isV : T → Bool
  | .v _ => true
  | _ => false
def enc : T → PyData
  | .v x => .str x
  | .c s => .tuple [.str s, .tuple []]
  | .u s t => .tuple [.str s, .tuple [enc t]]
  | .b s t r => .tuple [.str s, .tuple [enc t, enc r]]
theorem enc_v {t : T} (h : t.isV = true) : enc t = .str t.sgn := by cases t <;> first | rfl | cases h
theorem enc_n {t : T} (h : t.isV = false) : enc t = .tuple [.str t.sgn, .tuple (t.parts.map enc)] := by cases t <;> first | rfl | cases h
def T.dp : T → Nat
  | .v _ => 0
  | .c _ => 0
  | .u _ t => t.dp + 1
  | .b _ t r => max t.dp r.dp + 1
theorem T.dp_parts {t p : T} (h : p ∈ t.parts) : p.dp < t.dp := by
  cases t with
  | v x => cases h
  | c s => cases h
  | u s t =>
    rw [T.parts, List.mem_singleton] at h
    subst h
    exact Nat.lt_succ_self _
  | b s t r =>
    rw [T.parts, List.mem_cons, List.mem_singleton] at h
    show _ < max t.dp r.dp + 1
    rcases h with h | h <;> subst h <;> omega
def T.size : T → Nat
  | .v _ => 1
  | .c _ => 1
  | .u _ t => t.size + 1
  | .b _ t r => t.size + r.size + 1
theorem T.size_parts {t p : T} (h : p ∈ t.parts) : p.size < t.size := by
  cases t with
  | v x => cases h
  | c s => cases h
  | u s t =>
    rw [T.parts, List.mem_singleton] at h
    subst h
    exact Nat.lt_succ_self _
  | b s t r =>
    rw [T.parts, List.mem_cons, List.mem_singleton] at h
    show _ < t.size + r.size + 1
    rcases h with h | h <;> subst h <;> omega
/-- the variables are variables, not too long -/
def T.ok : T → Prop
  | .v x => isVarS x = true ∧ x.length ≤ 100000 ∧ PyData.strOk x = true
  | .c s => PyData.strOk s = true
  | .u s t => PyData.strOk s = true ∧ t.ok
  | .b s t r => PyData.strOk s = true ∧ t.ok ∧ r.ok
theorem T.ok_parts {t p : T} (o : t.ok) (h : p ∈ t.parts) : p.ok := by
  cases t with
  | v x => cases h
  | c s => cases h
  | u s t =>
    rw [T.parts, List.mem_singleton] at h
    subst h
    exact o.2
  | b s t r =>
    rw [T.parts, List.mem_cons, List.mem_singleton] at h
    rcases h with h | h <;> subst h
    · exact o.2.1
    · exact o.2.2
theorem T.parts_len (t : T) : t.parts.length ≤ 2 := by cases t <;> simp [T.parts]
theorem T.parts_v {t : T} (h : t.isV = true) : t.parts = [] := by cases t <;> first | rfl | cases h

theorem eqv_enc : ∀ t r : T, PyData.eqv (enc t) (enc r) = decide (t = r)
  | .v x, .v y => by
    simp only [enc, PyData.eqv, T.v.injEq]
    by_cases h : x = y <;> simp [h]
  | .v _, .c _ => rfl
  | .v _, .u _ _ => rfl
  | .v _, .b _ _ _ => rfl
  | .c _, .v _ => rfl
  | .u _ _, .v _ => rfl
  | .b _ _ _, .v _ => rfl
  | .c x, .c y => by
    simp only [enc, PyData.eqv, PyData.eqvAll, T.c.injEq, Bool.and_true]
    by_cases h : x = y <;> simp [h]
  | .c _, .u _ _ => by simp [enc, PyData.eqv, PyData.eqvAll]
  | .c _, .b _ _ _ => by simp [enc, PyData.eqv, PyData.eqvAll]
  | .u _ _, .c _ => by simp [enc, PyData.eqv, PyData.eqvAll]
  | .b _ _ _, .c _ => by simp [enc, PyData.eqv, PyData.eqvAll]
  | .u _ _, .b _ _ _ => by simp [enc, PyData.eqv, PyData.eqvAll]
  | .b _ _ _, .u _ _ => by simp [enc, PyData.eqv, PyData.eqvAll]
  | .u s t, .u s' t' => by
    simp only [enc, PyData.eqv, PyData.eqvAll, T.u.injEq, Bool.and_true, eqv_enc t t']
    by_cases h : s = s' <;> by_cases h2 : t = t' <;> simp [h, h2]
  | .b s t r, .b s' t' r' => by
    simp only [enc, PyData.eqv, PyData.eqvAll, T.b.injEq, Bool.and_true, eqv_enc t t', eqv_enc r r']
    by_cases h : s = s' <;> by_cases h2 : t = t' <;> by_cases h3 : r = r' <;> simp [h, h2, h3]
theorem pu_enc : ∀ t : T, Pu (enc t) = true
  | .v _ => rfl
  | .c _ => rfl
  | .u _ t => by simp [enc, Pu, PuA, pu_enc t]
  | .b _ t r => by simp [enc, Pu, PuA, pu_enc t, pu_enc r]
theorem enc_inj {t r : T} (h : enc t = enc r) : t = r := by
  have e := eqv_enc t r
  rw [h, eqv_enc r r] at e
  simpa using e.symm
open Classical in
noncomputable def dec (d : PyData) : T := if h : ∃ t, enc t = d then h.choose else .c (Str.ofString "")
theorem dec_enc (t : T) : dec (enc t) = t := by
  unfold dec
  rw [dif_pos ⟨t, rfl⟩]
  exact enc_inj (Exists.choose_spec (p := fun r => enc r = enc t) ⟨t, rfl⟩)
theorem shaped_enc {t : T} (o : t.ok) (h : t.dp ≤ 30) : SeqAt.shaped (enc t) = true := by
  have c : ∀ t : T, t.ok → PyData.canLay0 (enc t) = true := fun t => by
    induction t with
    | v x => intro o; simp [enc, PyData.canLay0, o.2.2]
    | c s => intro o; simp [enc, PyData.canLay0, PyData.canLayAll0, show PyData.strOk s = true from o]
    | u s t ih => intro o; simp [enc, PyData.canLay0, PyData.canLayAll0, ih o.2, o.1]
    | b s t r ih ih2 => intro o; simp [enc, PyData.canLay0, PyData.canLayAll0, ih o.2.1, ih2 o.2.2, o.1]
  have d : ∀ t : T, (enc t).depth ≤ 2 * t.dp + 2 := fun t => by
    induction t with
    | v x => simp [enc, PyData.depth]
    | c s => simp [enc, PyData.depth, PyData.depthAll]
    | u s t ih => simp [enc, PyData.depth, PyData.depthAll, T.dp]; omega
    | b s t r ih ih2 => simp [enc, PyData.depth, PyData.depthAll, T.dp]; omega
  unfold SeqAt.shaped
  rw [c t o, Bool.true_and]
  have := d t
  exact decide_eq_true (by omega)
end Rh
set_option Elab.async false
set_option linter.all false
set_option maxRecDepth 100000
set_option maxHeartbeats 2000000
/-! defs that can be called -/
namespace Dl
open PySem PySem.Spec PyProof.Rows L2 GxR Gx

structure DefF (K : PySem.W.Frag) (mg : Str → Option Value) (base : Heap) (G : List Addr) (x : Str) (st : Stmt) (ps : List Str) (f : Addr) (fd : FuncData) : Prop where
  cP : ∃ c Pt, FunC K x x st f fd c ∧ TabB base mg c Pt ∧ Pt ∈ G
  b : Binds K fd ps []
  m : mg x = some (.ref f)
structure Cl0 (P : Program) (w : World) (K : PySem.W.Frag) (mg : Str → Option Value) (base : Heap) (k : Nat) (x : Str) (sp : Sp) : Prop where
  ex : ∃ f fd ps, FnOk P w K mg base CX0 k f fd ps sp ∧ mg x = some (.ref f) ∧ PySem.W.keepIn K (.ref f) = true ∧ Binds K fd ps []
section
variable {X : Cx} {k : Nat} {x : Str} {sp sp' : Sp} {E : XK} {p pos : Pos} {e : Expr} {es : List Expr} {t : TA} {P : Program} {w : World} {K : PySem.W.Frag} {mg : Str → Option Value} {base : Heap} {G : List Addr}
theorem Cl0.mono (C : Cl0 P w K mg base k x sp) {j : Nat} (h : k ≤ j) : Cl0 P w K mg base j x sp := by
  obtain ⟨f, fd, ps, a, b⟩ := C.ex
  exact ⟨f, fd, ps, a.mono h, b⟩
theorem Cl0.imp (C : Cl0 P w K mg base k x sp) (h : ∀ vs H Q E, sp' vs H Q E → sp vs H Q E) : Cl0 P w K mg base k x sp' := by
  obtain ⟨f, fd, ps, a, b⟩ := C.ex
  exact ⟨f, fd, ps, a.imp h, b⟩
theorem pe_cl (C : Cl0 X.prog X.w X.K X.mg X.base k x sp) (hr : Room k X.A) (hg : Gl X x) (ha : PA X (e :: es) t) (hdb : (x == ("__debug__" : Str)) = false := by decide)
    (he : starEach (e :: es) X.env = (false, eval e X.env) :: starEach es X.env := by rfl) (hpl : (backTo pos (starEach es X.env)).any (·.1) = false := by rfl) :
    PE X (.Call (.Name x p) (e :: es) [] pos) (tCall sp [] (fun _ _ _ => False) t) := by
  obtain ⟨f, fd, ps, F, m, kp, b⟩ := C.ex
  exact pe_call F hr hg m kp b .nil pass0 ha hdb he hpl
theorem DefF.cl {st : Stmt} {f : Addr} {fd : FuncData} {N ps : List Str} {R : List Ar → PyData → Prop} (D : DefF K mg base G x st ps f fd) (S : FnScope N ps (defScope st)) (len : ∀ ds d, R ds d → ds.length = ps.length)
    (hbody : ∀ (c Pt : Addr) (A : Around) (outer : List Env) (s : Shared) (H : Hp) (vs : List V) (ds : List Ar) (d : PyData) (Q : VK) (E : XK), TabB base mg c Pt → Pt ∈ G → Room k (A.deeper (envOfC x (defScope st) s.heap.objs.size f (.ref c))) →
      TabsG G H → ArA K H vs ds → R ds d → (∀ v H', Ext G H H' → Dp K H' v d → Q v H') →
      ∃ t, PSs (cxOf CX0 P w K mg base N x (defScope st) f (.ref c) A outer s H E).nox (defBody st) t ∧ t { nx := fun _ H' => Q .non H', rt := Q } (start N vs) H) : Cl0 P w K mg base (k + 1) x (spA G K R) := by
  obtain ⟨c, Pt, F, TB, hP⟩ := D.cP
  exact ⟨f, fd, ps, F.okA S len fun A outer s H vs ds d Q E hr tG h1 h2 q => hbody c Pt A outer s H vs ds d Q E TB hP hr tG h1 h2 q, D.m, F.kp, D.b⟩
end
section
variable {G : List Addr} {K : PySem.W.Frag} {σ : L2.St} {H H' : Hp} {ta tb te : TE} {tA : TA} {d e f : PyData} {b : Bool}
/-- a term's own shape -/
theorem rd_eqT {t r : Rh.T} (o : t.ok) (o2 : r.ok) (h : t.dp ≤ 30) (h2 : r.dp ≤ 30) : Rd2 G K (rEqD K) (Rh.enc t) (Rh.enc r) (.bool (decide (t = r))) H := by
  rw [← Rh.eqv_enc t r]
  exact rd_eqD (Rh.shaped_enc o h) (Rh.shaped_enc o2 h2)
theorem rd_neT {t r : Rh.T} (o : t.ok) (o2 : r.ok) (h : t.dp ≤ 30) (h2 : r.dp ≤ 30) : Rd2 G K (rNeD K) (Rh.enc t) (Rh.enc r) (.bool (!decide (t = r))) H := by
  rw [← Rh.eqv_enc t r]
  exact rd_neD (Rh.shaped_enc o h) (Rh.shaped_enc o2 h2)
/-- part of a term -/
theorem ed_parts {t : Rh.T} (tG : TabsG G H) (hv : t.isV = false) (h : Ed G K te σ H (Rh.enc t)) : Ed G K (tOp (rIxT K) te (tC (.int 1))) σ H (.tuple (t.parts.map Rh.enc)) := by
  rw [Rh.enc_n hv] at h
  exact ed_op tG h ed_int (rd_ixT (by decide) rfl)
theorem ed_sgn {t : Rh.T} (tG : TabsG G H) (hv : t.isV = false) (h : Ed G K te σ H (Rh.enc t)) : Ed G K (tOp (rIxT K) te (tC (.int 0))) σ H (.str t.sgn) := by
  rw [Rh.enc_n hv] at h
  exact ed_op tG h ed_int (rd_ixT (by decide) rfl)
/-- walks over a term's parts -/
theorem ed_allP {P : Addr} {i : Nat} {vs : List Nat} {ts : List Rh.T} {p : Rh.T → Bool} (hP : P ∈ G) (tG : TabsG G H) (h : Ed G K te σ H (.tuple (ts.map Rh.enc))) (hi : i ∈ vs)
    (hb : ∀ t v H1, t ∈ ts → Ext G H H1 → TabsG G H1 → Dp K H1 v (Rh.enc t) → Ed G K tb ((wipe σ vs).set i (some v)) H1 (.bool (p t))) : Ed G K (tAllG P (iTup K te) (gName i) tYes tb vs) σ H (.bool (ts.all p)) := by
  have z := ed_allT (p := fun d => p (Rh.dec d)) hP tG h hi (fun d v H1 hd x t1 r => by
    obtain ⟨t, ht, rfl⟩ := List.mem_map.mp hd
    rw [Rh.dec_enc]
    exact hb t v H1 ht x t1 r)
  refine ed_is z ?_
  rw [List.all_map]
  simp [Function.comp_def, Rh.dec_enc]
theorem ed_anyP {P : Addr} {i : Nat} {vs : List Nat} {ts : List Rh.T} {p : Rh.T → Bool} (hP : P ∈ G) (tG : TabsG G H) (h : Ed G K te σ H (.tuple (ts.map Rh.enc))) (hi : i ∈ vs)
    (hb : ∀ t v H1, t ∈ ts → Ext G H H1 → TabsG G H1 → Dp K H1 v (Rh.enc t) → Ed G K tb ((wipe σ vs).set i (some v)) H1 (.bool (p t))) : Ed G K (tAnyG P (iTup K te) (gName i) tYes tb vs) σ H (.bool (ts.any p)) := by
  have z := ed_anyT (p := fun d => p (Rh.dec d)) hP tG h hi (fun d v H1 hd x t1 r => by
    obtain ⟨t, ht, rfl⟩ := List.mem_map.mp hd
    rw [Rh.dec_enc]
    exact hb t v H1 ht x t1 r)
  refine ed_is z ?_
  rw [List.any_map]
  simp [Function.comp_def, Rh.dec_enc]
theorem ed_sumP {P : Addr} {i : Nat} {vs : List Nat} {ts : List Rh.T} {p : Rh.T → Int} (hP : P ∈ G) (tG : TabsG G H) (h : Ed G K te σ H (.tuple (ts.map Rh.enc))) (hi : i ∈ vs)
    (hb : ∀ t v H1, t ∈ ts → Ext G H H1 → TabsG G H1 → Dp K H1 v (Rh.enc t) → Ed G K tb ((wipe σ vs).set i (some v)) H1 (.int (p t))) : Ed G K (tSumG P (iTup K te) (gName i) tYes tb vs) σ H (.int (ts.map p).sum) := by
  have z := ed_sumT (p := fun d => p (Rh.dec d)) hP tG h hi (fun d v H1 hd x t1 r => by
    obtain ⟨t, ht, rfl⟩ := List.mem_map.mp hd
    rw [Rh.dec_enc]
    exact hb t v H1 ht x t1 r)
  refine ed_is z ?_
  rw [List.map_map]
  simp [Function.comp_def, Rh.dec_enc]
theorem ed_lcP {i : Nat} {vs : List Nat} {ts : List Rh.T} {g : Rh.T → PyData} (tG : TabsG G H) (hl : ts.length ≤ 1000) (h : Ed G K te σ H (.tuple (ts.map Rh.enc))) (hi : i ∈ vs) (hp : ∀ t ∈ ts, Pu (g t) = true)
    (hb : ∀ t v H1, t ∈ ts → Ext G H H1 → TabsG G H1 → Dp K H1 v (Rh.enc t) → Ed G K tb ((wipe σ vs).set i (some v)) H1 (g t)) : Ed G K (tLc (iTup K te) (gName i) tYes tb vs) σ H (.list (ts.map g)) := by
  have z := ed_lcT (g := fun d => g (Rh.dec d)) tG (by rw [List.length_map]; exact Nat.le_trans hl (by decide)) h hi (fun d hd => by
    obtain ⟨t, ht, rfl⟩ := List.mem_map.mp hd
    rw [Rh.dec_enc]
    exact hp t ht) (fun d v H1 hd x t1 r => by
    obtain ⟨t, ht, rfl⟩ := List.mem_map.mp hd
    rw [Rh.dec_enc]
    exact hb t v H1 ht x t1 r)
  refine ed_is z ?_
  rw [List.map_map]
  simp [Function.comp_def, Rh.dec_enc]
end
end Dl
set_option Elab.async false
set_option linter.all false
set_option maxRecDepth 100000
set_option maxHeartbeats 2000000
namespace Dl
open PySem PySem.Spec PyProof.Rows L2 GxR Gx
section
variable {G : List Addr} {K : PySem.W.Frag} {σ : L2.St} {H H' : Hp} {ta tb tc te : TE} {tA : TA} {d e f : PyData} {ds es : List PyData} {b c : Bool}
/-- while, with a ghost -/
theorem s_whileG {α : Type} {tt : TT} {ts : TS} {D : Ends} (tG : TabsG G H) (Pv : α → L2.St → Hp → Prop) (μ : α → Nat) (b : α → Bool) (a0 : α) (h0 : Pv a0 σ H)
    (hc : ∀ a σ' H', Pv a σ' H' → TabsG G H' → EdT G tt σ' H' (b a))
    (hs : ∀ a σ' H' (N : L2.St → Hp → Prop), Pv a σ' H' → Ext G H H' → b a = true → TabsG G H' → (∀ a2 σ2 H2, Ext G H' H2 → Pv a2 σ2 H2 → μ a2 < μ a → N σ2 H2) → ts { D with nx := N, ct := N, bk := D.nx } σ' H')
    (hp : ∀ a σ' H1 H2, Ext G H1 H2 → TabsG G H1 → Pv a σ' H1 → Pv a σ' H2)
    (hd : ∀ a σ' H', Ext G H H' → Pv a σ' H' → b a = false → D.nx σ' H') : tWhile tt ts D σ H := by
  refine ⟨fun m σ' H' => ∃ a, m = μ a ∧ Pv a σ' H' ∧ Ext G H H', ⟨_, a0, rfl, h0, Ext.refl G H⟩, ?_⟩
  rintro m σ' H' ⟨a, rfl, p, x⟩
  have t1 := tG.ext x
  refine hc a σ' H' p t1 H' (Ext.refl G H') _ fun H2 x2 => ?_
  cases hb : b a with
  | true =>
    rw [if_pos rfl]
    exact ⟨fun σ2 H3 => ∃ a2, Pv a2 σ2 H3 ∧ Ext G H H3 ∧ μ a2 < μ a, fun σ2 H3 ⟨a2, w, y, l⟩ => ⟨_, l, a2, rfl, w, y⟩,
      hs a σ' H2 _ (hp _ _ _ _ x2 t1 p) (x.trans x2) hb (t1.ext x2) fun a2 σ2 H3 y w l => ⟨a2, w, (x.trans x2).trans y, l⟩⟩
  | false =>
    rw [if_neg Bool.false_ne_true]
    exact hd a σ' H2 (x.trans x2) (hp _ _ _ _ x2 t1 p) hb
/-- a < b < c -/
theorem ed_chain {r r' : R2} (tG : TabsG G H) (ha : Ed G K ta σ H d) (hb : Ed G K tb σ H e) (hr : Rd2 G K r d e (.bool b) H) (hc : Ed G K tc σ H f) (hr2 : Rd2 G K r' e f (.bool c) H) : Ed G K (tChain r r' ta tb tc) σ H (.bool (b && c)) := fun H1 x Q q =>
  ha H1 x _ fun v H2 x2 rv => hb H2 (x.trans x2) _ fun u H3 x3 ru => hr H3 ((x.trans x2).trans x3) v u (dp_ext x3 ((tG.ext x).ext x2) rv) ru _ fun w H4 x4 rw_ => ⟨b, dp_bl rw_, by
    have x14 := (x2.trans x3).trans x4
    cases b with
    | true =>
      show tc σ H4 _
      refine hc H4 (x.trans x14) _ fun z H5 x5 rz => hr2 H5 ((x.trans x14).trans x5) u z (dp_ext (x4.trans x5) (((tG.ext x).ext x2).ext x3) ru) rz Q fun y H6 x6 ry => q y H6 ((x14.trans x5).trans x6) ry
    | false => exact q _ H4 x14 (.bl false)⟩
/-- x in a tuple of texts -/
theorem inV_cons (x y : V) (vs : List V) : inV x (y :: vs) = (eqV y x || inV x vs) := List.any_cons
theorem inV_strs {x : Str} : ∀ {vs : List V} {xs : List Str}, DpAll K H vs (xs.map PyData.str) → vs.all flatV = true ∧ inV (.str x) vs = decide (x ∈ xs)
  | _, [], .nil => ⟨rfl, rfl⟩
  | _, y :: r, .cons a s => by
    have ih := inV_strs (x := x) s
    rw [dp_str a]
    refine ⟨by rw [List.all_cons, ih.1]; rfl, ?_⟩
    rw [inV_cons, ih.2]
    show ((y == x) || decide (x ∈ r)) = _
    by_cases h : x = y
    · subst h; simp
    · have h' : ¬ y = x := fun z => h z.symm
      simp [h, h']
theorem rd_inT {x : Str} {xs : List Str} : Rd2 G K (rIn K false) (.str x) (.tuple (xs.map PyData.str)) (.bool (decide (x ∈ xs))) H := fun H1 _ v u rv ru Q q => by
  obtain ⟨a, vs, rfl, hs, hr⟩ := dp_tup ru
  have z := inV_strs (x := x) hr
  rw [dp_str rv]
  refine ⟨a, vs, rfl, .inr hs, rfl, z.1, ?_⟩
  rw [z.2]
  exact q _ H1 (Ext.refl G H1) (.bl _)
theorem rd_gtI' {i j : Int} : Rd2 G K (rI0 fun i j => .bl (decide (j < i))) (.int i) (.int j) (.bool (decide (j < i))) H := rd_gtI
theorem rd_neI {i j : Int} : Rd2 G K rNe (.int i) (.int j) (.bool (!decide (i = j))) H := fun H1 _ v u rv ru Q q => by
  rw [dp_int rv, dp_int ru]
  refine ⟨rfl, q _ H1 (Ext.refl G H1) ?_⟩
  have e : decide ((V.int i) = V.int j) = decide (i = j) := by
    by_cases h : i = j
    · subst h; simp
    · rw [decide_eq_false h, decide_eq_false (fun z => h (by injection z))]
  rw [e]
  exact .bl _
theorem rd_eqI {i j : Int} : Rd2 G K rEq (.int i) (.int j) (.bool (decide (i = j))) H := fun H1 _ v u rv ru Q q => by
  rw [dp_int rv, dp_int ru]
  refine ⟨rfl, q _ H1 (Ext.refl G H1) ?_⟩
  have e : decide ((V.int i) = V.int j) = decide (i = j) := by
    by_cases h : i = j
    · subst h; simp
    · rw [decide_eq_false h, decide_eq_false (fun z => h (by injection z))]
  rw [e]
  exact .bl _
end
end Dl
set_option Elab.async false
set_option linter.all false
set_option maxRecDepth 100000
set_option maxHeartbeats 2000000
namespace Dl
open PySem PySem.Spec PyProof.Rows L2 GxR Gx
def addS (zs : List Str) (x : Str) : List Str := if x ∈ zs then zs else zs ++ [x]
def ddS (ns : List Str) : List Str := ns.foldl addS []
def mkT (zs : List Str) : List (Key × V) := zs.map fun x => ((Sum.inr x : Key), V.bl true)
theorem valV_mkT (zs : List Str) (x : Str) : valV (mkT zs) (.inr x) = if x ∈ zs then some (V.bl true) else none := by
  induction zs with
  | nil => rfl
  | cons y r ih =>
    show valV ((Sum.inr y, V.bl true) :: mkT r) (.inr x) = _
    by_cases h : y = x
    · subst h
      rw [valV_pos rfl]
      simp
    · rw [valV_neg (fun z => h (by injection z)), ih]
      have h' : ¬ x = y := fun z => h z.symm
      simp [h']
theorem putK_mkT (zs : List Str) (x : Str) : putK (mkT zs) (.inr x) (.bl true) = mkT (addS zs x) := by
  unfold addS
  by_cases h : x ∈ zs
  · rw [if_pos h]
    have e : (mkT zs).any (fun kv => decide (kv.1 = (Sum.inr x : Key))) = true := by
      rw [valV_any, valV_mkT, if_pos h]
      rfl
    unfold putK
    rw [if_pos e]
    unfold mkT
    rw [List.map_map]
    refine List.map_congr_left fun y _ => ?_
    show (if (Sum.inr y : Key) = Sum.inr x then (Sum.inr y, V.bl true) else (Sum.inr y, V.bl true)) = _
    split <;> rfl
  · rw [if_neg h, putK_new _ (by rw [valV_mkT, if_neg h])]
    unfold mkT
    rw [List.map_append]
    rfl
theorem addS_len (zs : List Str) (x : Str) : (addS zs x).length ≤ zs.length + 1 := by
  unfold addS
  split
  · omega
  · simp
theorem foldS_len : ∀ (ns zs : List Str), (ns.foldl addS zs).length ≤ zs.length + ns.length
  | [], zs => by simp
  | x :: r, zs => by
    have a := foldS_len r (addS zs x)
    have b := addS_len zs x
    simp only [List.foldl_cons, List.length_cons]
    omega
theorem addS_mem {zs : List Str} {x y : Str} : y ∈ addS zs x ↔ y ∈ zs ∨ y = x := by
  unfold addS
  split
  · refine ⟨.inl, fun h => ?_⟩
    rcases h with h | h
    · exact h
    · subst h; assumption
  · simp
theorem foldS_mem {y : Str} : ∀ (ns zs : List Str), y ∈ ns.foldl addS zs ↔ y ∈ zs ∨ y ∈ ns
  | [], zs => by simp
  | x :: r, zs => by
    rw [List.foldl_cons, foldS_mem r, addS_mem, List.mem_cons]
    constructor
    · rintro ((h | h) | h)
      · exact .inl h
      · exact .inr (.inl h)
      · exact .inr (.inr h)
    · rintro (h | h | h)
      · exact .inl (.inl h)
      · exact .inl (.inr h)
      · exact .inr h
theorem ddS_mem {ns : List Str} {y : Str} : y ∈ ddS ns ↔ y ∈ ns := by
  unfold ddS
  rw [foldS_mem]
  simp
theorem ddS_len (ns : List Str) : (ddS ns).length ≤ ns.length := by
  have h := foldS_len ns []
  unfold ddS
  simpa using h
theorem flat_take {ds : List PyData} {ks : PyData → List Str} {i : Nat} {d : PyData} (h : ds[i]? = some d) : (ds.take (i + 1)).flatMap ks = (ds.take i).flatMap ks ++ ks d := by
  rw [take_snoc h, List.flatMap_append]
  simp
section
variable {G : List Addr} {K : PySem.W.Frag} {σ : L2.St} {H H' : Hp} {ta tb tc te te1 : TE} {tA : TA} {d e f : PyData} {ds es : List PyData}
theorem dkR_mkT : ∀ zs : List Str, DkR K H (mkT zs) (zs.map fun x => ((Sum.inr x : Key), PyData.bool true))
  | [] => .nil
  | _ :: r => .cons (.bl true) (dkR_mkT r)
/-- {x: True for d in t for x in u} -/
theorem edx_dc2 {i j : Nat} {vs vs1 : List Nat} {ks : PyData → List Str} (tG : TabsG G H) (hl : (ds.flatMap ks).length < sizeLine) (h : Ed G K te σ H (.tuple ds)) (hi : i ∈ vs) (hj : j ∈ vs1) (hjl : j < σ.length)
    (hb : ∀ d v H1, d ∈ ds → Ext G H H1 → TabsG G H1 → Dp K H1 v d → Ed G K te1 ((wipe σ vs).set i (some v)) H1 (.tuple ((ks d).map PyData.str))) :
    EdX G K (tDc2 (iTup K te) (gName i) tYes (iTup K te1) (gName j) tYes (tVar j) (tC (.bl true)) vs vs1) σ H (.k ((ddS (ds.flatMap ks)).map fun x => ((Sum.inr x : Key), PyData.bool true))) := fun H1 x Q q =>
  h H1 x _ fun v H2 x2 rv => by
    obtain ⟨a, xs, rfl, hs, hr⟩ := dp_tup rv
    have len := dpA_len hr
    have t2 := (tG.ext x).ext x2
    refine ⟨a, rfl, ⟨xs, hs⟩, fun D hD => ?_⟩
    refine ⟨fun k m Hk => m = xs.length - k ∧ k ≤ xs.length ∧ Ext G H2 Hk ∧ Hk D = some (.dK (mkT (ddS ((ds.take k).flatMap ks)))), ⟨xs.length, rfl, Nat.zero_le _, Ext.new hD, by rw [List.take_zero]; exact upd_same⟩, ?_⟩
    rintro k m Hk ⟨rfl, hk, y1, e1⟩
    have qk : SqT K Hk a xs := y1.sqT t2 hs
    by_cases hlt : k < xs.length
    · refine .inr ⟨⟨xs, xs[k], qk, by simp [hlt]⟩, fun H' => Ext G H2 H' ∧ H' D = some (.dK (mkT (ddS ((ds.take (k + 1)).flatMap ks)))), fun H' z => ⟨xs.length - (k + 1), by omega, rfl, hlt, z.1, z.2⟩, fun y H' hy => ?_⟩
      obtain ⟨e, hy⟩ := hy
      subst e
      have hk' := hy xs qk
      obtain ⟨d, hd', rd⟩ := dpA_getV hr hk'
      have tk := t2.ext y1
      refine ⟨wipe_set σ vs i (some y) hi, ?_⟩
      dsimp only [tYes]
      refine iteT ?_
      refine hb d y _ (List.mem_of_getElem? hd') ((x.trans x2).trans y1) tk (dp_ext y1 t2 rd) _ (Ext.refl G _) _ fun w H4 y4 rw_ => ?_
      obtain ⟨b, ys, rfl, hsb, hrb⟩ := dp_tup rw_
      have e4 : H4 D = some (.dK (mkT (ddS ((ds.take k).flatMap ks)))) := y4.at tk e1 (fun ps z => by cases z)
      have lenb := dpA_len hrb
      rw [List.length_map] at lenb
      have lb : ((ds.take k).flatMap ks ++ ks d).length < sizeLine := by
        rw [← flat_take hd']
        refine Nat.lt_of_le_of_lt ?_ hl
        conv => rhs; rw [← List.take_append_drop (k + 1) ds, List.flatMap_append, List.length_append]
        exact Nat.le_add_right _ _
      refine ⟨b, rfl, ⟨ys, hsb⟩, ?_⟩
      refine ⟨fun l m Hl => m = ys.length - l ∧ l ≤ ys.length ∧ Ext G H2 Hl ∧ SqT K Hl b ys ∧ Hl D = some (.dK (mkT (ddS ((ds.take k).flatMap ks ++ (ks d).take l)))), ⟨ys.length, rfl, Nat.zero_le _, y1.trans y4, hsb, by rw [List.take_zero, List.append_nil]; exact e4⟩, ?_⟩
      rintro l m Hl ⟨rfl, hl', z1, z2, z3⟩
      by_cases hlt2 : l < ys.length
      · refine .inr ⟨⟨ys, ys[l], z2, by simp [hlt2]⟩, fun H' => Ext G H2 H' ∧ SqT K H' b ys ∧ H' D = some (.dK (mkT (ddS ((ds.take k).flatMap ks ++ (ks d).take (l + 1))))), fun H' z => ⟨ys.length - (l + 1), by omega, rfl, hlt2, z.1, z.2.1, z.2.2⟩, fun u H' hu => ?_⟩
        obtain ⟨e, hu⟩ := hu
        subst e
        have hu' := hu ys z2
        obtain ⟨d2, hd2, rd2⟩ := dpA_getV hrb hu'
        rw [List.getElem?_map] at hd2
        obtain ⟨c, hc, rfl⟩ := Option.map_eq_some_iff.mp hd2
        rw [dp_str rd2]
        refine ⟨wipe_set _ vs1 j (some (.str c)) hj, ?_⟩
        dsimp only [tYes]
        refine iteT ?_
        refine ⟨.str c, ?_, mkT (ddS ((ds.take k).flatMap ks ++ (ks d).take l)), .inr c, rfl, z3, ?_, ?_, ?_, ?_⟩
        · rw [List.getElem?_set]
          rw [if_pos rfl, if_pos]
          rw [wipe_length, List.length_set, wipe_length]
          exact hjl
        · unfold mkT
          rw [List.length_map]
          refine Nat.lt_of_le_of_lt (ddS_len _) (Nat.lt_of_le_of_lt ?_ lb)
          rw [List.length_append, List.length_append]
          have := List.length_take_le l (ks d)
          omega
        · exact z1.mut hD z3 (fun ps z => by cases z)
        · exact sqT_updD z3 z2
        · rw [upd_same, putK_mkT, take_snoc hc, ← List.append_assoc]
          unfold ddS
          rw [List.foldl_append (l' := [c])]
          rfl
      · have e : l = (ks d).length := by omega
        subst e
        refine .inl ⟨⟨ys, z2, by omega⟩, z1, ?_⟩
        rw [List.take_length] at z3
        rw [flat_take hd']
        exact z3
    · have e : k = ds.length := by omega
      subst e
      refine .inl ⟨⟨xs, qk, by omega⟩, q _ Hk (x2.trans y1) ⟨D, _, rfl, e1, ?_⟩⟩
      rw [List.take_length]
      exact dkR_mkT _
end
/-! sorted texts -/
theorem cps_ext {x y : Str} (h : x.cps.toList = y.cps.toList) : x = y := Str.ext' (Array.toList_inj.mp h)
def leS (a b : Str) : Bool := !ltCps b.cps.toList a.cps.toList
theorem leS_iff {a b : Str} : leS a b = true ↔ a.cps.toList ≤ b.cps.toList := by
  unfold leS
  rw [ltCps_eq, Bool.not_eq_true', decide_eq_false_iff_not]
  exact Iff.rfl
theorem leS_trans (a b c : Str) (h1 : leS a b = true) (h2 : leS b c = true) : leS a c = true := leS_iff.mpr (List.le_trans (leS_iff.mp h1) (leS_iff.mp h2))
theorem leS_total (a b : Str) : (leS a b || leS b a) = true := by
  rcases List.le_total a.cps.toList b.cps.toList with h | h
  · rw [leS_iff.mpr h]; rfl
  · rw [leS_iff.mpr h, Bool.or_true]
theorem leS_anti {a b : Str} (h1 : leS a b = true) (h2 : leS b a = true) : a = b := cps_ext (List.le_antisymm (leS_iff.mp h1) (leS_iff.mp h2))
def srtS (ks : List Str) : List Str := ks.mergeSort leS
theorem risingS_pw : ∀ (l : List Str) (p : Str), risingS p l = true → (p :: l).Pairwise (fun a b => leS a b = true)
  | [], p, _ => List.pairwise_singleton _ _
  | x :: r, p, h => by
    rw [risingS, Bool.and_eq_true] at h
    have ih := risingS_pw r x h.2
    have hx : leS p x = true := h.1
    refine List.pairwise_cons.mpr ⟨fun y hy => ?_, ih⟩
    rcases List.mem_cons.mp hy with e | hy
    · rw [e]; exact hx
    · exact leS_trans p x y hx ((List.pairwise_cons.mp ih).1 y hy)
theorem sortedS_pw : ∀ l : List Str, sortedS l = true → l.Pairwise (fun a b => leS a b = true)
  | [], _ => .nil
  | x :: r, h => risingS_pw r x h
theorem sorted_is {ys ks : List Str} (p : ys.Perm ks) (h : sortedS ys = true) : ys = srtS ks :=
  List.Perm.eq_of_pairwise (le := fun a b => leS a b = true) (fun a b _ _ h1 h2 => leS_anti h1 h2) (sortedS_pw ys h) (List.pairwise_mergeSort leS_trans leS_total ks) (p.trans (List.mergeSort_perm ks leS).symm)
theorem srtS_mem {ks : List Str} {x : Str} : x ∈ srtS ks ↔ x ∈ ks := (List.mergeSort_perm ks leS).mem_iff
theorem srtS_len {ks : List Str} : (srtS ks).length = ks.length := (List.mergeSort_perm ks leS).length_eq
theorem dpA_strs {K : PySem.W.Frag} {H : Hp} : ∀ ys : List Str, DpAll K H (ys.map V.str) (ys.map PyData.str)
  | [] => .nil
  | _ :: r => .cons (.str _) (dpA_strs r)
theorem dkR_keys {K : PySem.W.Frag} {H : Hp} : ∀ {kvs : List (Key × V)} {es : List (Key × PyData)}, DkR K H kvs es → kvs.map (·.1) = es.map (·.1)
  | _, _, .nil => rfl
  | _, _, .cons _ r => by rw [List.map_cons, List.map_cons, dkR_keys r]
/-- sorted(d), d a dict of texts -/
theorem ed_sortedD {G : List Addr} {K : PySem.W.Frag} {σ : L2.St} {H : Hp} {te : TE} {zs : List Str} {c : Str → PyData} (tG : TabsG G H) (h64 : zs.length < 64) (h : EdX G K te σ H (.k (zs.map fun x => ((Sum.inr x : Key), c x)))) :
    Ed G K (tCB (fun xs H Q => ∃ (a : Addr) (kvs : List (Key × V)) (ks : List Str), xs = [.ref a] ∧ Rd H a (.dK kvs) ∧ kvs.map (·.1) = ks.map Sum.inr ∧ ks.length < 64 ∧ ∀ ys p, ys.Perm ks → sortedS ys = true → H p = none → Q (.ref p) (upd H p (.lst (ys.map V.str)))) (tCons te tNil)) σ H (.list ((srtS zs).map PyData.str)) := fun H1 x Q q =>
  h H1 x _ fun v H2 x2 rv => by
    obtain ⟨a, kvs, rfl, ha, r⟩ := rv
    refine ⟨a, kvs, zs, rfl, .inl ha, by rw [dkR_keys r, List.map_map]; rfl, h64, fun ys p hp hs hn => ?_⟩
    rw [sorted_is hp hs]
    exact q _ _ (x2.trans (Ext.new hn)) (dp_newL hn ((tG.ext x).ext x2) (dpA_strs _))
end Dl
set_option Elab.async false
set_option linter.all false
set_option maxRecDepth 100000
set_option maxHeartbeats 2000000
/-! for i, x in enumerate(t), t a tuple -/
namespace Gx
open PySem PySem.Spec PyProof.Rows L2 GxR
set_option maxHeartbeats 1000000 in
theorem meets_enumerate_B1 {v : Value} {o : Obj} {H : Heap → Prop} (B : Begins v o H) :
    Meets (Builtin.«enumerate.__new__» ⟨[.type "enumerate", v], []⟩) (fun _ R s => H s.heap ∧
      R (.ok (.ret (.ref (s.heap.push o).objs.size))) { s with heap := (s.heap.push o).push { cls := .type "enumerate", data := .fields #[.none, .bool false, .ref s.heap.objs.size, rawInt 0, .none, .none] } }) :=
  .of_wp fun prog w A R s h => by
    obtain ⟨hp, g, d, tk, os⟩ := s; obtain ⟨h1, h⟩ := h
    have hsub := sub_enumerate
    have q1 : ∀ {A' : Around} {E : Value → Shared → Prop} {Q : Value → Shared → Prop}, Q (.ref hp.objs.size) ⟨hp.push o, g, d, tk, os⟩ → wpAny (model prog w) A' (pyIter v) Q E ⟨hp, g, d, tk, os⟩ :=
      fun q => B.iter prog w _ _ ⟨hp, g, d, tk, os⟩ _ h1 q
    wp_walk using q1
    refine wpAny_stack_any fun st => wpAny_pure ?_
    split
    · rename_i c _ _ _ _ _
      cases (c == Value.type "enumerate")
      · wp_walk using q1
        exact ⟨_, rfl, h⟩
      · wp_walk using q1
        exact ⟨_, rfl, h⟩
    · wp_walk using q1
      exact ⟨_, rfl, h⟩
theorem call_enumerate_tup {prog : Program} {w : World} {A : Around} {E : Value → Shared → Prop} {s : Shared} {t : Addr} {items : Array Value} {Q : Value → Shared → Prop} (hT : s.heap.IsTuple t items)
    (h : ∀ h', IsEnum h' (s.heap.objs.size + 1) s.heap.objs.size 0 .none → h'.IsTupleIter s.heap.objs.size t 0 → h'.objs.size = s.heap.objs.size + 2 →
      (∀ b o, s.heap.get? b = some o → h'.get? b = some o) → Q (.ref (s.heap.objs.size + 1)) { s with heap := h' }) :
    wpAny (model prog w) A (call (.type "enumerate") [.ref t]) Q E s := by
  refine callType_new F.called_enumerate (by decide) (F.typeCall_enumerate_1 _) (F.newCall_enumerate_1 _) (fun obj => F.args_object_init_2 obj _) F.entry_enumerate_new
    (meets_enumerate_B1 (begins_tuple t items)) ⟨hT, ?_⟩
  have hz : (s.heap.push { cls := .type "tuple_iterator", data := .fields #[.ref t, .int 0 0] }).objs.size = s.heap.objs.size + 1 := Heap.size_push ..
  show _ ∧ _
  rw [hz]
  have he : IsEnum ((s.heap.push { cls := .type "tuple_iterator", data := .fields #[.ref t, .int 0 0] }).push
      { cls := .type "enumerate", data := .fields #[.none, .bool false, .ref s.heap.objs.size, rawInt 0, .none, .none] }) (s.heap.objs.size + 1) s.heap.objs.size 0 .none := by
    have := Heap.get?_push_size (s.heap.push { cls := .type "tuple_iterator", data := .fields #[.ref t, .int 0 0] })
      (o := { cls := .type "enumerate", data := .fields #[.none, .bool false, .ref s.heap.objs.size, rawInt 0, .none, .none] }) rfl
    rw [hz] at this; exact this
  refine ⟨⟨_, he, rfl⟩, h _ he ⟨_, Heap.get?_push_of_some _ (Heap.get?_push_size _ rfl), rfl, rfl⟩ (by rw [Heap.size_push, hz]) fun b o x => Heap.get?_push_of_some _ (Heap.get?_push_of_some _ x)⟩
def IteT (K : PySem.W.Frag) (a : Addr) : It :=
  ⟨fun i H => ∃ (xs : List V) (x : V), SqT K H a xs ∧ xs[i]? = some x, fun i H v H' => ∃ T x, v = .ref T ∧ H T = none ∧ H' = upd H T (.tup [.int (i : Nat), x]) ∧ ∀ xs, SqT K H a xs → xs[i]? = some x, fun i H => ∃ xs : List V, SqT K H a xs ∧ xs.length = i⟩
theorem isTuple_of {h : Heap} {a : Addr} {its : Array Value} (t : IsTup h a its) : h.IsTuple a its := by
  obtain ⟨o, e, c, n, d⟩ := t
  exact ⟨o, e, c, n, d⟩
theorem turn_enumT {P : Program} {w : World} {K : PySem.W.Frag} {elts : List Expr} {kk : Nat} {tpos : Pos} (a e it : Addr) :
    Turn P w K (.Tuple elts kk tpos) (IteT K a) [e, it] e (fun i h => (∃ old, IsEnum h e it ((i : Nat) : Int) old) ∧ h.IsTupleIter it a i ∧ e ≠ it) where
  mem := by simp
  obj := fun i h st b hb => by
    obtain ⟨⟨old, he⟩, ⟨o, ho, hc, hd⟩, _⟩ := st
    have e' : b = e ∨ b = it := by simpa using hb
    rcases e' with z | z
    · rw [z]; exact ⟨_, he, fun v q => nomatch q⟩
    · rw [z]; exact ⟨o, ho, fun v q => by rw [hd] at q; cases q⟩
  keep := fun i h h' st k => let ⟨⟨old, he⟩, hi, hne⟩ := st; ⟨⟨old, k e (by simp) _ he⟩, hi.at fun o q => k it (by simp) o q, hne⟩
  item := by
    intro X hP hw hK hc i pins s σ H E I hf st hg
    subst hP hw hK
    obtain ⟨⟨old, he⟩, hit, hne⟩ := st
    obtain ⟨xs, x, hq, hx⟩ := hg
    obtain ⟨its, rv, p, hz⟩ := I.tuple hq
    obtain ⟨u, hu, ru⟩ := rv.get hx
    have hel : e < s.heap.objs.size := Heap.lt_size he
    have hil : it < s.heap.objs.size := by obtain ⟨_, q, _⟩ := hit; exact Heap.lt_size q
    have hT := isTuple_of p
    have hei : e ∉ [it, a] := by
      intro hm
      rcases List.mem_cons.mp hm with z | hm
      · exact hne z
      · have z := List.mem_singleton.mp hm
        obtain ⟨o, ho, hc2, _⟩ := hT
        rw [← z, he] at ho
        cases ho
        injection hc2 with hc2
        exact absurd hc2 (by decide)
    have hai : a ≠ it := by
      intro z
      obtain ⟨o, ho, hc2, _⟩ := hT
      obtain ⟨o', ho', hc3, _⟩ := hit
      rw [z, ho'] at ho
      cases ho
      rw [hc3] at hc2
      injection hc2 with hc2
      exact absurd hc2 (by decide)
    have lt : i < its.toArray.size := by
      have := (List.getElem?_eq_some_iff.mp hu).1
      simpa using this
    refine wpAny_pyNext_enum_itemD (Draws.tuple (show X.A.in1.handled = none from I.ok.hd hc) it a hai its.toArray) he ⟨hit, hT⟩ lt hne hei fun y h' tk hy ho hit' hT' hsz hk => ?_
    have ey : y = u := by
      have h1 : its.toArray[i]? = some y := hy
      rw [List.getElem?_toArray, hu] at h1
      exact (Option.some.inj h1).symm
    subst ey
    refine ⟨_, rfl, wpAny_letOwnedTupleGo_enum (s := { s with heap := h', toks := tk + 1 }) ho fun h'' he' sb => ?_⟩
    have hT2 : h''.get? s.heap.objs.size = some { cls := .type "tuple", data := .seq #[.int i tk, y] } := (sb.2 _ (Nat.ne_of_gt hel)).trans hT'
    have new : ObjOk X.prog X.w (upd H s.heap.objs.size (.tup [.int (i : Nat), x])) h'' s.heap.objs.size (.tup [.int (i : Nat), x]) :=
      ⟨by show 2 ≤ sizeLine; decide, [.int i tk, y], .cons ⟨_, rfl⟩ (.cons ru .nil), ⟨_, hT2, rfl, _, rfl⟩⟩
    have I1 : Inv X pins σ (upd H s.heap.objs.size (.tup [.int (i : Nat), x])) { s with heap := h'', toks := tk + 1 } :=
      I.turnedNew (ch := [e, it]) (fun b ob hb q => (sb.2 b (fun z => hb (by simp [z]))).trans (hk b ob (fun z => hb (by simp [z])) (fun z => hb (by simp [z])) q)) hf (Nat.le_refl _) new
    refine ⟨.ref s.heap.objs.size, _, I1, rfl, ⟨_, x, rfl, I.hok.fresh (Nat.le_refl _), rfl, fun ys hy => by rw [I.tuple_inj hy hq]; exact hx⟩, ⟨⟨y, ?_⟩, hit'.1.at fun o q => (sb.2 it (Ne.symm hne)).trans q, hne⟩, fun b hb => ?_⟩
    · have e1 : ((i + 1 : Nat) : Int) = (i : Int) + 1 := by omega
      rw [e1]; exact he'
    · have hb' : b < s.heap.objs.size := by
        have e' : b = e ∨ b = it := by simpa using hb
        rcases e' with z | z
        · rw [z]; exact hel
        · rw [z]; exact hil
      rw [upd_ne (Nat.ne_of_lt hb')]
      exact (hf b hb).1
  done := by
    intro X hP hw hK hc i pins s σ H E I hf st hg
    subst hP hw hK
    obtain ⟨⟨old, he⟩, hit, hne⟩ := st
    obtain ⟨xs, hq, hx⟩ := hg
    obtain ⟨its, rv, p, hz⟩ := I.tuple hq
    obtain ⟨f0, f1, f2, f3, f4, f5⟩ := hf it (by simp)
    have hl := rv.length
    have hT := isTuple_of p
    have hai : a ≠ it := by
      intro z
      obtain ⟨o, ho, hc2, _⟩ := hT
      obtain ⟨o', ho', hc3, _⟩ := hit
      rw [z, ho'] at ho
      cases ho
      rw [hc3] at hc2
      injection hc2 with hc2
      exact absurd hc2 (by decide)
    have e2 : its.toArray.size = i := by rw [List.size_toArray, ← hl]; exact hx
    exact wpAny_pyNext_enum_endD (Draws.tuple (show X.A.in1.handled = none from I.ok.hd hc) it a hai its.toArray) he ⟨by rw [e2]; exact hit, hT⟩ fun h' eb => ⟨rfl, I.turned (t' := s.toks) (fun b o hb q => eb b o hb q) f0 f1 f3 f4 f5⟩
  self := fun A i s Q E st h => let ⟨⟨_, he⟩, _⟩ := st; wpAny_pyIter_enum he h
def iEnumT (K : PySem.W.Frag) (ta : TA) : TI := fun σ H R => ta σ H fun vs H1 => ∃ a xs, vs = [.ref a] ∧ SqT K H1 a xs ∧ R (IteT K a) H1
theorem pi_enumT {X : Cx} {e : Expr} {ta : TA} {p pos tpos : Pos} {elts : List Expr} {kk : Nat} (hg : Gl X "enumerate") (hm : X.mg "enumerate" = none) (ha : PA X [e] ta) (hs : starEach [e] X.env = [(false, eval e X.env)] := by rfl) :
    PI X (.Tuple elts kk tpos) (.Call (.Name "enumerate" p) [e] [] pos) (iEnumT X.K ta) := by
  refine ⟨fun pins s σ H R I h => ?_⟩
  refine Call_ (ld_blt I hg hm boot_enumerate (PyProof.Rows.callWith_type1 (thn (ha.run pos pins s σ H _ I h) fun us s1 ⟨vs, H1, I1, r1, q1⟩ => ?_) hs rfl))
  obtain ⟨a, xs, ex, hq, q⟩ := q1
  subst ex
  cases r1 with
  | cons r rr =>
    cases rr
    cases r
    obtain ⟨its, rv, p', hz⟩ := I1.tuple hq
    refine call_enumerate_tup (isTuple_of p') fun h' he hit hsz hk => wpAny_pyIter_enum he ?_
    have I2 : Inv X pins σ H1 { s1 with heap := h' } := I1.kept (t' := s1.toks) hk
    refine ⟨s1.heap.objs.size + 1, [s1.heap.objs.size + 1, s1.heap.objs.size], _, _, H1, rfl, I2, turn_enumT a (s1.heap.objs.size + 1) s1.heap.objs.size, ⟨⟨.none, he⟩, hit, Nat.succ_ne_self _⟩, fun b hb => ?_, q⟩
    have e' : b = s1.heap.objs.size + 1 ∨ b = s1.heap.objs.size := by simpa using hb
    have hle : s1.heap.objs.size ≤ b := by
      rcases e' with z | z
      · rw [z]; exact Nat.le_add_right _ _
      · rw [z]; exact Nat.le_refl _
    exact I1.fpOk hle (I1.hok.fresh hle)
end Gx
set_option Elab.async false
set_option linter.all false
set_option maxRecDepth 100000
set_option maxHeartbeats 2000000
namespace Dl
open PySem PySem.Spec PyProof.Rows L2 GxR Gx
section
variable {G : List Addr} {K : PySem.W.Frag} {σ : L2.St} {H H' : Hp} {ta tb tc te te1 : TE} {tA : TA} {d e f : PyData} {ds es : List PyData}
/-- for x in t; the invariant sees the heap -/
theorem s_forTH {tb : TS} {D : Ends} {g : TG} (tG : TabsG G H) (h : Ed G K te σ H (.tuple ds)) (Pv : Nat → L2.St → Hp → Prop) (h0 : ∀ H1, Ext G H H1 → Pv 0 σ H1)
    (hs : ∀ i d v σ' H' (N : L2.St → Hp → Prop), ds[i]? = some d → Pv i σ' H' → Ext G H H' → Dp K H' v d → TabsG G H' → (∀ σ2 H2, Ext G H' H2 → Pv (i + 1) σ2 H2 → N σ2 H2) → g v σ' H' fun σ2 H2 => tb { D with nx := N, ct := N, bk := D.nx } σ2 H2)
    (hd : ∀ σ' H', Ext G H H' → Pv ds.length σ' H' → D.nx σ' H') : tFor (iTup K te) g tb D σ H := h H (Ext.refl G H) _ fun v H2 x2 rv => by
  obtain ⟨a, xs, rfl, q, r⟩ := dp_tup rv
  have t2 := tG.ext x2
  have len := dpA_len r
  refine ⟨a, rfl, ⟨xs, q⟩, for_tup (a := a) (xs := xs) (fun i σ' H' => Pv i σ' H' ∧ Ext G H2 H') ⟨h0 H2 x2, Ext.refl G H2⟩ (fun i σ' H' _ p => p.2.sqT t2 q) (fun i x σ' H' hx p => ?_) (fun σ' H' p => hd σ' H' (x2.trans p.2) (by rw [← len]; exact p.1))⟩
  obtain ⟨d, hd', rd⟩ := dpA_getV r hx
  exact hs i d x σ' H' _ hd' p.1 (x2.trans p.2) (dp_ext p.2 t2 rd) (t2.ext p.2) fun σ2 H3 y w => ⟨w, p.2.trans y⟩
end
def flatE (f : Nat → PyData → List PyData) : Nat → List PyData → List PyData
  | _, [] => []
  | i, d :: r => f i d ++ flatE f (i + 1) r
theorem flatE_take (f : Nat → PyData → List PyData) : ∀ (ds : List PyData) (o n : Nat) (d : PyData), ds[n]? = some d → flatE f o (ds.take (n + 1)) = flatE f o (ds.take n) ++ f (o + n) d
  | [], _, n, _, h => by simp at h
  | x :: r, o, 0, d, h => by
    have e := Option.some.inj h
    subst e
    simp [flatE]
  | x :: r, o, n + 1, d, h => by
    have ih := flatE_take f r (o + 1) n d h
    rw [List.take_succ_cons, List.take_succ_cons, flatE, flatE, ih, List.append_assoc, show o + 1 + n = o + (n + 1) by omega]
theorem flatE_le (f : Nat → PyData → List PyData) : ∀ (ds : List PyData) (o n : Nat), (flatE f o (ds.take n)).length ≤ (flatE f o ds).length
  | [], _, n => by simp
  | x :: r, o, 0 => by simp [flatE]
  | x :: r, o, n + 1 => by
    rw [List.take_succ_cons, flatE, flatE, List.length_append, List.length_append]
    exact Nat.add_le_add_left (flatE_le f r (o + 1) n) _
theorem flatE_mem (f : Nat → PyData → List PyData) : ∀ (ds : List PyData) (o : Nat) (z : PyData), z ∈ flatE f o ds → ∃ n d, ds[n]? = some d ∧ z ∈ f (o + n) d
  | [], _, z, h => by simp [flatE] at h
  | x :: r, o, z, h => by
    rw [flatE, List.mem_append] at h
    rcases h with h | h
    · exact ⟨0, x, rfl, h⟩
    · obtain ⟨n, d, h1, h2⟩ := flatE_mem f r (o + 1) z h
      exact ⟨n + 1, d, h1, by rw [show o + (n + 1) = o + 1 + n by omega]; exact h2⟩
theorem wipe_setG (σ : L2.St) (vs : List Nat) (i : Nat) (x : Option V) (hi : i ∈ vs) : wipe (σ.set i x) vs = wipe σ vs := by
  apply List.ext_getElem?
  intro k
  rw [wipe_at, wipe_at, List.length_set]
  by_cases hk : k ∈ vs ∧ k < σ.length
  · rw [if_pos hk, if_pos hk]
  · rw [if_neg hk, if_neg hk, List.getElem?_set]
    by_cases e : i = k
    · subst e
      have : ¬ i < σ.length := fun z => hk ⟨hi, z⟩
      simp [this]
    · rw [if_neg e]
section
variable {G : List Addr} {K : PySem.W.Frag} {σ : L2.St} {H H' : Hp} {ta tb tc te te1 : TE} {tA : TA} {d e f : PyData} {ds es : List PyData}
/-- [e for i, x in enumerate(t) for y in u] -/
theorem ed_lc2E {i j k : Nat} {vs vs1 : List Nat} {ks : Nat → PyData → List PyData} {g : Nat → PyData → PyData → PyData} (tG : TabsG G H) (hl : (flatE (fun n d => (ks n d).map (g n d)) 0 ds).length < sizeLine)
    (h : Ed G K te σ H (.tuple ds)) (hi : i ∈ vs) (hj : j ∈ vs) (hk : k ∈ vs1) (hp : ∀ n d e, ds[n]? = some d → e ∈ ks n d → Pu e = true ∧ Pu (g n d e) = true)
    (hb : ∀ (n : Nat) d v H1, ds[n]? = some d → Ext G H H1 → TabsG G H1 → Dp K H1 v d → Ed G K te1 (((wipe σ vs).set i (some (.int n))).set j (some v)) H1 (.tuple (ks n d)))
    (he : ∀ (n : Nat) d e v w H1, ds[n]? = some d → e ∈ ks n d → Ext G H H1 → TabsG G H1 → Dp K H1 v d → Dp K H1 w e → Ed G K tc ((wipe (((wipe σ vs).set i (some (.int n))).set j (some v)) vs1).set k (some w)) H1 (g n d e)) :
    Ed G K (tLc2 (iEnumT K (tCons te tNil)) (gTup K 2 (gCons (gName i) (gCons (gName j) gNil))) tYes (iTup K te1) (gName k) tYes tc vs vs1) σ H (.list (flatE (fun n d => (ks n d).map (g n d)) 0 ds)) := fun H1 x Q q =>
  h H1 x _ fun v H2 x2 rv => by
    obtain ⟨a, xs, rfl, hs, hr⟩ := dp_tup rv
    have len := dpA_len hr
    have t2 := (tG.ext x).ext x2
    refine ⟨a, xs, rfl, hs, fun D hD => ?_⟩
    refine ⟨fun n m Hk => m = xs.length - n ∧ n ≤ xs.length ∧ Ext G H2 Hk ∧ ∃ acc, Hk D = some (.lst acc) ∧ DpAll K Hk acc (flatE (fun n d => (ks n d).map (g n d)) 0 (ds.take n)), ⟨xs.length, rfl, Nat.zero_le _, Ext.new hD, [], upd_same, by rw [List.take_zero]; exact .nil⟩, ?_⟩
    rintro n m Hk ⟨rfl, hn, y1, acc, e1, r1⟩
    have qk : SqT K Hk a xs := y1.sqT t2 hs
    have tk := t2.ext y1
    by_cases hlt : n < xs.length
    · refine .inr ⟨⟨xs, xs[n], qk, by simp [hlt]⟩, fun H' => Ext G H2 H' ∧ ∃ acc, H' D = some (.lst acc) ∧ DpAll K H' acc (flatE (fun n d => (ks n d).map (g n d)) 0 (ds.take (n + 1))), fun H' z => ⟨xs.length - (n + 1), by omega, rfl, hlt, z.1, z.2⟩, fun y H' hy => ?_⟩
      obtain ⟨T, y, rfl, hT, rfl, hy⟩ := hy
      have hk' := hy xs qk
      obtain ⟨d, hd', rd⟩ := dpA_getV hr hk'
      have xT : Ext G Hk (upd Hk T (.tup [.int n, y])) := Ext.new hT
      refine ⟨T, [.int n, y], rfl, .inl (.inl upd_same), rfl, .int n, [y], rfl, y, [], rfl, rfl, ?_⟩
      refine ⟨by rw [wipe_setG _ _ _ _ hj, wipe_setG _ _ _ _ hi, wipe_wipe], ?_⟩
      dsimp only [tYes]
      refine iteT ?_
      have tT := tk.ext xT
      refine hb n d y _ hd' ((x.trans x2).trans (y1.trans xT)) tT (dp_ext (y1.trans xT) t2 rd) _ (Ext.refl G _) _ fun w H4 y4 rw_ => ?_
      obtain ⟨b, ys, rfl, hsb, hrb⟩ := dp_tup rw_
      have y5 := xT.trans y4
      have e4 : H4 D = some (.lst acc) := y5.at tk e1 (fun ps z => by cases z)
      have r4 := dpA_ext y5 tk r1
      have lenb := dpA_len hrb
      refine ⟨b, rfl, ⟨ys, hsb⟩, ?_⟩
      refine ⟨fun l m Hl => m = ys.length - l ∧ l ≤ ys.length ∧ Ext G H2 Hl ∧ SqT K Hl b ys ∧ DpAll K Hl ys (ks n d) ∧ ∃ acc, Hl D = some (.lst acc) ∧ DpAll K Hl acc (flatE (fun n d => (ks n d).map (g n d)) 0 (ds.take n) ++ ((ks n d).take l).map (g n d)), ⟨ys.length, rfl, Nat.zero_le _, y1.trans y5, hsb, hrb, acc, e4, by rw [List.take_zero, List.map_nil, List.append_nil]; exact r4⟩, ?_⟩
      rintro l m Hl ⟨rfl, hl', z1, z2, z3, acc2, z4, z5⟩
      by_cases hlt2 : l < ys.length
      · refine .inr ⟨⟨ys, ys[l], z2, by simp [hlt2]⟩, fun H' => Ext G H2 H' ∧ SqT K H' b ys ∧ DpAll K H' ys (ks n d) ∧ ∃ acc, H' D = some (.lst acc) ∧ DpAll K H' acc (flatE (fun n d => (ks n d).map (g n d)) 0 (ds.take n) ++ ((ks n d).take (l + 1)).map (g n d)), fun H' z => ⟨ys.length - (l + 1), by omega, rfl, hlt2, z.1, z.2.1, z.2.2.1, z.2.2.2⟩, fun u H' hu => ?_⟩
        obtain ⟨e, hu⟩ := hu
        subst e
        have hu' := hu ys z2
        obtain ⟨d2, hd2, rd2⟩ := dpA_getV z3 hu'
        have hm2 := List.mem_of_getElem? hd2
        refine ⟨wipe_set _ vs1 k (some u) hk, ?_⟩
        dsimp only [tYes]
        refine iteT ?_
        have tl := t2.ext z1
        refine he n d d2 y u _ hd' hm2 ((x.trans x2).trans z1) tl (dp_ext z1 t2 rd) rd2 _ (Ext.refl G _) _ fun w5 H6 y6 rw5 => ?_
        have e6 := y6.at tl z4 (fun ps z => by cases z)
        have hpu := hp n d d2 hd' hm2
        have snoc : (flatE (fun n d => (ks n d).map (g n d)) 0 (ds.take n) ++ ((ks n d).take (l + 1)).map (g n d)) = (flatE (fun n d => (ks n d).map (g n d)) 0 (ds.take n) ++ ((ks n d).take l).map (g n d)) ++ [g n d d2] := by
          rw [take_snoc hd2, List.map_append, ← List.append_assoc]
          rfl
        have hle : (flatE (fun n d => (ks n d).map (g n d)) 0 (ds.take n) ++ ((ks n d).take (l + 1)).map (g n d)).length < sizeLine := by
          refine Nat.lt_of_le_of_lt ?_ hl
          refine Nat.le_trans ?_ (flatE_le (fun n d => (ks n d).map (g n d)) ds 0 (n + 1))
          rw [flatE_take _ _ _ _ _ hd', List.length_append, List.length_append, List.length_map, Nat.zero_add, List.length_map]
          have := List.length_take_le (l + 1) (ks n d)
          have h2 : ((ks n d).take (l + 1)).length ≤ (ks n d).length := by rw [List.length_take]; omega
          omega
        refine ⟨acc2, e6, ?_, ?_, ?_, ?_, acc2 ++ [w5], upd_same, ?_⟩
        · have := dpA_len z5
          rw [snoc, List.length_append, List.length_singleton] at hle
          omega
        · exact (z1.trans y6).mut hD e6 (fun ps z => by cases z)
        · exact sqT_upd e6 (y6.sqT tl z2)
        · exact dpA_tups (fun a xs q => sqT_upd e6 q) (puA_all.mpr fun z hz => (hp n d z hd' hz).1) (dpA_ext y6 tl z3)
        · rw [snoc]
          refine dpA_tups (fun a xs q => sqT_upd e6 q) (puA_all.mpr fun z hz => ?_) (dpA_app (dpA_ext y6 tl z5) (.cons rw5 .nil))
          have hg : ∀ d0 n0, ds[n0]? = some d0 → ∀ z, z ∈ (ks n0 d0).map (g n0 d0) → Pu z = true := fun d0 n0 h0 z hz => by
            obtain ⟨e0, he0, rfl⟩ := List.mem_map.mp hz
            exact (hp n0 d0 e0 h0 he0).2
          rcases List.mem_append.mp hz with hz | hz
          · rcases List.mem_append.mp hz with hz | hz
            · obtain ⟨n0, d0, h0, hz⟩ := flatE_mem _ _ _ _ hz
              have h0' : ds[n0]? = some d0 := by
                rw [List.getElem?_take] at h0
                split at h0
                · exact h0
                · cases h0
              rw [Nat.zero_add] at hz
              exact hg d0 n0 h0' z hz
            · refine hg d n hd' z ?_
              obtain ⟨e0, he0, rfl⟩ := List.mem_map.mp hz
              exact List.mem_map.mpr ⟨e0, List.mem_of_mem_take he0, rfl⟩
          · rw [List.mem_singleton.mp hz]
            exact hpu.2
      · have e : l = (ks n d).length := by omega
        subst e
        refine .inl ⟨⟨ys, z2, by omega⟩, z1, acc2, z4, ?_⟩
        rw [List.take_length] at z5
        rw [flatE_take _ _ _ _ _ hd', Nat.zero_add]
        exact z5
    · have e : n = ds.length := by omega
      subst e
      rw [List.take_length] at r1
      exact .inl ⟨⟨xs, qk, len⟩, q _ Hk (x2.trans y1) (.lst (.inl (.inl e1)) r1)⟩
end
end Dl
set_option Elab.async false
set_option linter.all false
set_option maxRecDepth 100000
set_option maxHeartbeats 1000000
/-! more that is told as data: new lists, comprehensions with a test, slices -/
namespace Dl
open PySem PySem.Spec PyProof.Rows L2 GxR Gx
/-- a reading that yields a list that is tracked -/
def EdL (G : List Addr) (K : PySem.W.Frag) (te : TE) (σ : L2.St) (H : Hp) (ds : List PyData) : Prop := ∀ H1, Ext G H H1 → ∀ Q : VK, (∀ p vs H2, Ext G H1 H2 → H2 p = some (.lst vs) → DpAll K H2 vs ds → Q (.ref p) H2) → te σ H1 Q
section
variable {G : List Addr} {K : PySem.W.Frag} {σ : L2.St} {H H' : Hp} {ta tb te : TE} {tA : TA} {tt : TT} {d e f : PyData} {ds es : List PyData} {b c : Bool}
theorem EdL.ed (h : EdL G K te σ H ds) : Ed G K te σ H (.list ds) := fun H1 x Q q => h H1 x Q fun p vs H2 x2 e r => q _ H2 x2 (.lst (.inl (.inl e)) r)
theorem EdL.mono (x : Ext G H H') (h : EdL G K te σ H ds) : EdL G K te σ H' ds := fun H1 a Q q => h H1 (x.trans a) Q q
theorem edl_is (h : EdL G K te σ H ds) (e' : ds = es) : EdL G K te σ H es := e' ▸ h
theorem edl_lst (tG : TabsG G H) (h : EdA G K tA σ H ds) (hl : ds.length ≤ sizeLine) : EdL G K (tLst tA) σ H ds := fun H1 x Q q =>
  h H1 x _ fun vs H2 x2 rs => ⟨by rw [dpA_len rs]; exact hl, fun p hp => q p vs _ (x2.trans (Ext.new hp)) upd_same (dpA_ext (Ext.new (G := G) hp) ((tG.ext x).ext x2) rs)⟩
theorem edl_cat (tG : TabsG G H) (ha : EdL G K ta σ H ds) (hb : EdL G K tb σ H es) (hl : ds.length + es.length ≤ sizeLine) : EdL G K (tOp rCat ta tb) σ H (ds ++ es) := fun H1 x Q q =>
  ha H1 x _ fun p vs H2 x2 e2 r2 => hb H2 (x.trans x2) _ fun b zs H3 x3 e3 r3 => by
    have t2 := (tG.ext x).ext x2
    have r2' := dpA_ext x3 t2 r2
    refine ⟨p, b, vs, zs, rfl, rfl, x3.at t2 e2 (fun ps z => by cases z), e3, by rw [dpA_len r2', dpA_len r3]; exact hl, fun c hc => ?_⟩
    have x4 : Ext G H3 (upd H3 c (.lst (vs ++ zs))) := Ext.new hc
    exact q c _ _ ((x2.trans x3).trans x4) upd_same (dpA_ext x4 (t2.ext x3) (dpA_app r2' r3))
theorem filter_snoc {α : Type} {p : α → Bool} {l : List α} {k : Nat} {x : α} (h : l[k]? = some x) : (l.take (k + 1)).filter p = (l.take k).filter p ++ (if p x = true then [x] else []) := by
  rw [take_snoc h, List.filter_append]
  cases e : p x <;> simp [e]
/-- one turn of a comprehension -/
theorem lc_turn {H2 Hk : Hp} {D : Addr} {acc : List V} {g : PyData → PyData} {p : PyData → Bool} {k : Nat} {σ' : L2.St} {tt : TT} {tb : TE} (tG : TabsG G H2) (hD : H2 D = none) (y1 : Ext G H2 Hk) (e1 : Hk D = some (.lst acc)) (el : acc.length ≤ k) (hk : k < sizeLine) (e3 : DpAll K Hk acc (((ds.take k).filter p).map g)) (hd : ds[k]? = some d)
    (hp : ∀ d ∈ ds, Pu (g d) = true) (ht : EdT G tt σ' Hk (p d)) (hb : p d = true → Ed G K tb σ' Hk (g d)) :
    tt σ' Hk fun b H3 => if b = true then tb σ' H3 fun y H4 => ∃ acc, H4 D = some (.lst acc) ∧ acc.length < sizeLine ∧ (Ext G H2 (upd H4 D (.lst (acc ++ [y]))) ∧ ∃ acc', (upd H4 D (.lst (acc ++ [y]))) D = some (.lst acc') ∧ acc'.length ≤ k + 1 ∧ DpAll K (upd H4 D (.lst (acc ++ [y]))) acc' (((ds.take (k + 1)).filter p).map g))
      else Ext G H2 H3 ∧ ∃ acc', H3 D = some (.lst acc') ∧ acc'.length ≤ k + 1 ∧ DpAll K H3 acc' (((ds.take (k + 1)).filter p).map g) := by
  have td := tG.ext y1
  refine ht Hk (Ext.refl G Hk) _ fun H3 x3 => ?_
  have e3' : H3 D = some (.lst acc) := x3.at td e1 (fun ps z => by cases z)
  cases hpd : p d with
  | true =>
    rw [if_pos rfl]
    refine hb hpd H3 x3 _ fun w H4 y4 rw_ => ?_
    have e4 : H4 D = some (.lst acc) := y4.at (td.ext x3) e3' (fun ps z => by cases z)
    have xx := x3.trans y4
    refine ⟨acc, e4, by omega, (y1.trans xx).mut hD e4 (fun ps z => by cases z), acc ++ [w], upd_same, by rw [List.length_append]; simp; omega, ?_⟩
    rw [filter_snoc hd, if_pos hpd, List.map_append]
    refine dpA_tups (fun a xs q => sqT_upd e4 q) (puA_all.mpr fun z hz => ?_) (dpA_app (dpA_ext xx td e3) (.cons rw_ .nil))
    rcases List.mem_append.mp hz with hz | hz
    · obtain ⟨d', hd', rfl⟩ := List.mem_map.mp hz
      exact hp d' (List.mem_of_mem_take (List.mem_filter.mp hd').1)
    · obtain ⟨d', hd', rfl⟩ := List.mem_map.mp hz
      rw [List.mem_singleton.mp hd']
      exact hp d (List.mem_of_getElem? hd)
  | false =>
    rw [if_neg Bool.false_ne_true]
    refine ⟨y1.trans x3, acc, e3', by omega, ?_⟩
    rw [filter_snoc hd, if_neg (by rw [hpd]; decide), List.append_nil]
    exact dpA_ext x3 td e3
/-- [.. for x in t if ..], t a tuple -/
theorem edl_lcTF {i : Nat} {vs : List Nat} {g : PyData → PyData} {p : PyData → Bool} (tG : TabsG G H) (hl : ds.length ≤ sizeLine) (h : Ed G K te σ H (.tuple ds)) (hi : i ∈ vs) (hp : ∀ d ∈ ds, Pu (g d) = true)
    (ht : ∀ d v H1, d ∈ ds → Ext G H H1 → TabsG G H1 → Dp K H1 v d → EdT G tt ((wipe σ vs).set i (some v)) H1 (p d))
    (hb : ∀ d v H1, d ∈ ds → p d = true → Ext G H H1 → TabsG G H1 → Dp K H1 v d → Ed G K tb ((wipe σ vs).set i (some v)) H1 (g d)) : EdL G K (tLc (iTup K te) (gName i) tt tb vs) σ H ((ds.filter p).map g) := fun H1 x Q q =>
  h H1 x _ fun v H2 x2 rv => by
    obtain ⟨a, xs, rfl, hs, hr⟩ := dp_tup rv
    have len := dpA_len hr
    have t2 := (tG.ext x).ext x2
    refine ⟨a, rfl, ⟨xs, hs⟩, fun D hD => ?_⟩
    refine lc_tup (a := a) (xs := xs) (fun k Hk => Ext G H2 Hk ∧ ∃ acc, Hk D = some (.lst acc) ∧ acc.length ≤ k ∧ DpAll K Hk acc (((ds.take k).filter p).map g))
      ⟨Ext.new hD, [], upd_same, Nat.le_refl _, .nil⟩ (fun k Hk _ z => z.1.sqT t2 hs) (fun k y Hk hk z => ?_) (fun Hk z => ?_)
    · obtain ⟨y1, acc, e1, e2, e3⟩ := z
      obtain ⟨d, hd, rd⟩ := dpA_getV hr hk
      have td := t2.ext y1
      have rd' := dp_ext y1 t2 rd
      have md := List.mem_of_getElem? hd
      have hk' := (List.getElem?_eq_some_iff.mp hk).1
      exact ⟨wipe_set σ vs i (some y) hi, lc_turn t2 hD y1 e1 e2 (by omega) e3 hd hp (ht d y Hk md ((x.trans x2).trans y1) td rd') fun hpd => hb d y Hk md hpd ((x.trans x2).trans y1) td rd'⟩
    · obtain ⟨y1, acc, e1, e2, e3⟩ := z
      rw [len, List.take_length] at e3
      exact q D acc Hk (x2.trans y1) e1 e3
/-- the same over a list that stays -/
theorem edl_lcLF {i : Nat} {vs : List Nat} {g : PyData → PyData} {p : PyData → Bool} (tG : TabsG G H) (hl : ds.length ≤ sizeLine) (h : Ed G K te σ H (.list ds)) (hi : i ∈ vs) (hp : ∀ d ∈ ds, Pu (g d) = true)
    (ht : ∀ d v H1, d ∈ ds → Ext G H H1 → TabsG G H1 → Dp K H1 v d → EdT G tt ((wipe σ vs).set i (some v)) H1 (p d))
    (hb : ∀ d v H1, d ∈ ds → p d = true → Ext G H H1 → TabsG G H1 → Dp K H1 v d → Ed G K tb ((wipe σ vs).set i (some v)) H1 (g d)) : EdL G K (tLc (iList K te) (gName i) tt tb vs) σ H ((ds.filter p).map g) := fun H1 x Q q =>
  h H1 x _ fun v H2 x2 rv => by
    obtain ⟨a, xs, rfl, hs, hr⟩ := dp_lst rv
    have len := dpA_len hr
    have t2 := (tG.ext x).ext x2
    refine ⟨a, rfl, ⟨xs, hs⟩, fun D hD => ?_⟩
    refine lc_list (a := a) (xs := xs) (fun k Hk => Ext G H2 Hk ∧ ∃ acc, Hk D = some (.lst acc) ∧ acc.length ≤ k ∧ DpAll K Hk acc (((ds.take k).filter p).map g))
      ⟨Ext.new hD, [], upd_same, Nat.le_refl _, .nil⟩ (fun k Hk _ z => z.1.sqL t2 hs) (fun k y Hk hk z => ?_) (fun Hk z => ?_)
    · obtain ⟨y1, acc, e1, e2, e3⟩ := z
      obtain ⟨d, hd, rd⟩ := dpA_getV hr hk
      have td := t2.ext y1
      have rd' := dp_ext y1 t2 rd
      have md := List.mem_of_getElem? hd
      have hk' := (List.getElem?_eq_some_iff.mp hk).1
      exact ⟨wipe_set σ vs i (some y) hi, lc_turn t2 hD y1 e1 e2 (by omega) e3 hd hp (ht d y Hk md ((x.trans x2).trans y1) td rd') fun hpd => hb d y Hk md hpd ((x.trans x2).trans y1) td rd'⟩
    · obtain ⟨y1, acc, e1, e2, e3⟩ := z
      rw [len, List.take_length] at e3
      exact q D acc Hk (x2.trans y1) e1 e3
/-- .. over range(n) -/
theorem edl_lcRF {i n : Nat} {vs : List Nat} {g : PyData → PyData} {p : PyData → Bool} (tG : TabsG G H) (hn : n < 1000000) (h : EdA G K tA σ H [.int n]) (hi : i ∈ vs) (hp : ∀ k : Nat, Pu (g (.int k)) = true)
    (ht : ∀ (k : Nat) H1, k < n → Ext G H H1 → TabsG G H1 → EdT G tt ((wipe σ vs).set i (some (.int k))) H1 (p (.int k)))
    (hb : ∀ (k : Nat) H1, k < n → p (.int k) = true → Ext G H H1 → TabsG G H1 → Ed G K tb ((wipe σ vs).set i (some (.int k))) H1 (g (.int k))) : EdL G K (tLc (iRng1 tA) (gName i) tt tb vs) σ H ((((List.range n).map fun k : Nat => PyData.int k).filter p).map g) := fun H1 x Q q =>
  h H1 x _ fun ws H2 x2 rs => by
    obtain ⟨v, rfl, rv⟩ := dpA_one rs
    rw [dp_int rv]
    have t2 := (tG.ext x).ext x2
    refine ⟨n, rfl, by omega, by omega, fun D hD => ?_⟩
    have hlen : ((List.range n).map fun k : Nat => PyData.int k).length = n := by simp
    have e0 : ((n : Int)).toNat = n := Int.toNat_natCast n
    rw [e0]
    refine lc_range (lo := 0) (n := n) (fun k Hk => Ext G H2 Hk ∧ ∃ acc, Hk D = some (.lst acc) ∧ acc.length ≤ k ∧ DpAll K Hk acc (((((List.range n).map fun k : Nat => PyData.int k).take k).filter p).map g))
      ⟨Ext.new hD, [], upd_same, Nat.le_refl _, .nil⟩ (fun k Hk hk z => ?_) (fun Hk z => ?_)
    · obtain ⟨y1, acc, e1, e2, e3⟩ := z
      have td := t2.ext y1
      have hd : ((List.range n).map fun k : Nat => PyData.int k)[k]? = some (.int k) := by simp [hk]
      have ek : (0 : Int) + (k : Int) = k := by omega
      rw [ek]
      refine ⟨wipe_set σ vs i _ hi, lc_turn t2 hD y1 e1 e2 (Nat.lt_of_lt_of_le (show k < 1000000 by omega) (by decide)) e3 hd (fun d hd => ?_) (ht k Hk hk ((x.trans x2).trans y1) td) fun hpd => hb k Hk hk hpd ((x.trans x2).trans y1) td⟩
      obtain ⟨j, _, rfl⟩ := List.mem_map.mp hd
      exact hp j
    · obtain ⟨y1, acc, e1, e2, e3⟩ := z
      rw [List.take_of_length_le (by rw [hlen]; exact Nat.le_refl _)] at e3
      exact q D acc Hk (x2.trans y1) e1 e3
theorem edt_yes : EdT G tYes σ H true := fun H1 _ Q q => q H1 (Ext.refl G H1)

/-! slices -/
def cutD (ds : List PyData) (lo hi : Option Int) : List PyData := (ds.drop (HT.sIx ds.length 0 lo)).take (HT.sIx ds.length ds.length hi - HT.sIx ds.length 0 lo)
def EdO (G : List Addr) (tl : TO) (σ : L2.St) (H : Hp) (lo : Option Int) : Prop := ∀ H1, Ext G H H1 → ∀ Q : Option Int → Hp → Prop, (∀ H2, Ext G H1 H2 → Q lo H2) → tl σ H1 Q
theorem edo_none : EdO G tNoPart σ H none := fun H1 _ Q q => q H1 (Ext.refl G H1)
theorem edo_some {i : Int} (h : Ed G K te σ H (.int i)) : EdO G (tPart te) σ H (some i) := fun H1 x Q q => h H1 x _ fun v H2 x2 rv => ⟨i, dp_int rv, q H2 x2⟩
theorem ed_slT {tl th : TO} {lo hi : Option Int} (tG : TabsG G H) (h : Ed G K te σ H (.tuple ds)) (h1 : EdO G tl σ H lo) (h2 : EdO G th σ H hi) : Ed G K (tSl (rSlA K) te tl th) σ H (.tuple (cutD ds lo hi)) := fun H1 x Q q =>
  h H1 x _ fun v H2 x2 rv => h1 H2 (x.trans x2) _ fun H3 x3 => h2 H3 ((x.trans x2).trans x3) _ fun H4 x4 => by
    have t2 := (tG.ext x).ext x2
    have y := x3.trans x4
    have rv4 := dp_ext y t2 rv
    have t4 := t2.ext y
    obtain ⟨a, vs, rfl, hs, hr⟩ := dp_tup rv4
    have len := dpA_len hr
    have yy := x2.trans y
    refine ⟨a, vs, rfl, hs, fun e => ?_, fun e p hp => ?_⟩
    · have ec : cutD ds lo hi = ds := by
        unfold cutD
        rw [← len, e.1, e.2, List.drop_zero, Nat.sub_zero, len, List.take_length]
      rw [ec] at q
      exact q _ H4 yy rv4
    · refine q _ _ (yy.trans (Ext.new hp)) ?_
      have hc : DpAll K H4 (cutV vs lo hi) (cutD ds lo hi) := by
        unfold cutV cutD
        rw [len]
        exact dpA_take _ (dpA_drop _ hr)
      exact dp_new hp t4 hc
theorem cutD_to (ds : List PyData) (k : Nat) : cutD ds none (some (k : Int)) = ds.take k := by
  unfold cutD
  rw [HT.sIx_none, HT.sIx_nat, List.drop_zero, Nat.sub_zero]
  by_cases h : k ≤ ds.length
  · rw [Nat.min_eq_left h]
  · rw [Nat.min_eq_right (by omega), List.take_length, List.take_of_length_le (by omega)]
theorem cutD_from (ds : List PyData) (k : Nat) : cutD ds (some (k : Int)) none = ds.drop k := by
  unfold cutD
  rw [HT.sIx_none, HT.sIx_nat]
  by_cases h : k ≤ ds.length
  · rw [Nat.min_eq_left h, List.take_of_length_le (by rw [List.length_drop]; exact Nat.le_refl _)]
  · rw [Nat.min_eq_right (by omega), List.drop_length, List.drop_eq_nil_of_le (by omega), List.take_nil]
theorem sum_ints : ∀ {ws : List V} {ns : List Int} {H1 : Hp}, DpAll K H1 ws (ns.map PyData.int) → ws = ns.map V.int
  | [], [], _, _ => rfl
  | _ :: _, n :: r2, _, .cons a b => by rw [dp_int a, sum_ints b]; rfl
/-- max of a list of numbers -/
theorem rdc_max {ns : List Int} {m : Int} (h0 : 0 < ns.length) (hm : ∀ k, k ∈ ns → (∀ y, y ∈ ns → y ≤ k) → k = m) : RdC G K (rMax K) [.list (ns.map PyData.int)] (.int m) H := fun H1 x vs rs Q q => by
  obtain ⟨v, rfl, rv⟩ := dpA_one rs
  obtain ⟨a, ws, rfl, hs, hr⟩ := dp_lst rv
  refine ⟨a, ns, rfl, by rw [sum_ints hr] at hs; exact hs, h0, fun k hk hle => ?_⟩
  rw [hm k hk hle]
  exact q _ H1 (Ext.refl G H1) (.int m)
end
end Dl
set_option Elab.async false
set_option linter.all false
set_option maxRecDepth 100000
set_option maxHeartbeats 1000000
/-! dicts as answers; walks over dicts -/
namespace Dl
open PySem PySem.Spec PyProof.Rows L2 GxR Gx LiI
/-- a promise whose answer may be a dict -/
def spB (G : List Addr) (K : PySem.W.Frag) (R : List Ar → Ar → Prop) : Sp := fun vs H Q _ => TabsG G H ∧ ∃ as a, ArA K H vs as ∧ R as a ∧ ∀ v H', Ext G H H' → ArR K H' v a → Q v H'
def keyD : Key → PyData
  | .inl i => .int i
  | .inr s => .str s
def pairD (e : Key × PyData) : PyData := .tuple [keyD e.1, e.2]
section
variable {P : Program} {w : World} {K : PySem.W.Frag} {mg : Str → Option Value} {base : Heap} {G : List Addr}
theorem DefF.clB {x : Str} {k : Nat} {st : Stmt} {f : Addr} {fd : FuncData} {N ps : List Str} {R : List Ar → Ar → Prop} (D : DefF K mg base G x st ps f fd) (S : FnScope N ps (defScope st)) (len : ∀ ds d, R ds d → ds.length = ps.length)
    (hbody : ∀ (c Pt : Addr) (A : Around) (outer : List Env) (s : Shared) (H : Hp) (vs : List V) (ds : List Ar) (d : Ar) (Q : VK) (E : XK), TabB base mg c Pt → Pt ∈ G → Room k (A.deeper (envOfC x (defScope st) s.heap.objs.size f (.ref c))) →
      TabsG G H → ArA K H vs ds → R ds d → (∀ v H', Ext G H H' → ArR K H' v d → Q v H') →
      ∃ t, PSs (cxOf CX0 P w K mg base N x (defScope st) f (.ref c) A outer s H E).nox (defBody st) t ∧ t { nx := fun _ H' => Q .non H', rt := Q } (start N vs) H) : Cl0 P w K mg base (k + 1) x (spB G K R) := by
  obtain ⟨c, Pt, F, TB, hP⟩ := D.cP
  refine ⟨f, fd, ps, ?_, D.m, F.kp, D.b⟩
  obtain ⟨oc, od, kV, doc, pm, an, ct, osl, rfl, lk, hcd⟩ := F.ex
  refine fn_of lk hcd S (fun vs H Q E ⟨_, ds, d, h1, h2, _⟩ => (arA_len h1).trans (len ds d h2)) fun A outer s H vs Q E hr hsp => ?_
  obtain ⟨tG, ds, d, h1, h2, q⟩ := hsp
  obtain ⟨t, h, q⟩ := hbody c Pt A outer s H vs ds d Q E TB hP hr tG h1 h2 q
  exact ⟨t, h.nox, q⟩
theorem DefF.noneB {x : Str} {st : Stmt} {ps : List Str} {f : Addr} {fd : FuncData} {R : List Ar → Ar → Prop} (D : DefF K mg base G x st ps f fd) (h : ∀ as a, ¬ R as a) : Cl0 P w K mg base 0 x (spB G K R) := by
  obtain ⟨c, Pt, F, TB, hP⟩ := D.cP
  exact ⟨f, fd, ps, ⟨fun vs H Q E ⟨_, as, d, _, r, _⟩ => absurd r (h as d), fun A outer s H args us vs Q E _ _ _ _ ⟨_, as, d, _, r, _⟩ => absurd r (h as d)⟩, D.m, F.kp, D.b⟩
end
section
variable {G : List Addr} {K : PySem.W.Frag} {σ : L2.St} {H H' : Hp} {ta tb te : TE} {tA : TA} {t : TT} {d e f : PyData} {ds : List PyData} {es : List (Key × PyData)} {a : Ar} {b c : Bool}
theorem eb_call {R : List Ar → Ar → Prop} {as : List Ar} {E : XK} (tG : TabsG G H) (h : EdXA G K tA σ H as) (r : R as a) : EdX G K (tCall (spB G K R) [] E tA) σ H a := fun H1 x Q q =>
  h H1 x _ fun vs H2 x2 rs => by
    show spB G K R (vs ++ []) H2 Q E
    rw [List.append_nil]
    exact ⟨(tG.ext x).ext x2, as, a, rs, r, fun v H3 x3 rv => q v H3 (x2.trans x3) rv⟩
theorem edx_is {a' : Ar} (h : EdX G K te σ H a) (e' : a = a') : EdX G K te σ H a' := e' ▸ h
theorem edx_if (ht : EdT G t σ H b) (h1 : b = true → EdX G K ta σ H a) (h2 : b = false → EdX G K tb σ H a) : EdX G K (tIf t ta tb) σ H a := fun H1 x Q q => ht H1 x _ fun H2 x2 => by
  cases b with
  | true =>
    show ta σ H2 Q
    exact h1 rfl H2 (x.trans x2) Q fun w H3 x3 r => q w H3 (x2.trans x3) r
  | false =>
    show tb σ H2 Q
    exact h2 rfl H2 (x.trans x2) Q fun w H3 x3 r => q w H3 (x2.trans x3) r
theorem sx_ret {D : Ends} (h : EdX G K te σ H a) (q : ∀ v H', Ext G H H' → ArR K H' v a → D.rt v H') : tRet te D σ H := h H (Ext.refl G H) D.rt q
theorem sx_set {i : Nat} {D : Ends} (h : EdX G K te σ H a) (q : ∀ v H', Ext G H H' → ArR K H' v a → D.nx (σ.set i (some v)) H') : tAsg te (gName i) D σ H := h H (Ext.refl G H) _ fun v H2 x2 r => q v H2 x2 r
def isNoneA : Ar → Bool
  | .d .none => true
  | _ => false
theorem arR_none {v : V} (h : ArR K H v a) : decide (v = .non) = isNoneA a := by
  cases a with
  | k es =>
    obtain ⟨p, kvs, rfl, _⟩ := h
    rfl
  | d x =>
    have h' : Dp K H v x := h
    cases h' <;> rfl
theorem ed_isN (h : EdX G K te σ H a) : Ed G K (tIsN te) σ H (.bool (isNoneA a)) := fun H1 x Q q => h H1 x _ fun v H2 x2 r => by
  rw [arR_none r]
  exact q _ H2 x2 (.bl _)
theorem ed_notN (h : EdX G K te σ H a) : Ed G K (tNotN te) σ H (.bool (!isNoneA a)) := fun H1 x Q q => h H1 x _ fun v H2 x2 r => by
  rw [arR_none r]
  exact q _ H2 x2 (.bl _)
theorem ed_din {x : Str} (tG : TabsG G H) (hk : Ed G K tb σ H (.str x)) (h : EdX G K ta σ H (.k es)) : Ed G K (tDIn tb ta) σ H (.bool (valD es (.inr x)).isSome) := fun H1 z Q q =>
  hk H1 z _ fun u H2 x2 ru => h H2 (z.trans x2) _ fun v H3 x3 rv => by
    obtain ⟨a, kvs, rfl, ha, r⟩ := rv
    rw [dp_str ru]
    refine ⟨a, valV kvs (.inr x), rfl, DGet.k (k := .inr x) ha, q _ H3 (x2.trans x3) ?_⟩
    have dv := dkR_val (.inr x) r
    cases hx : valD es (.inr x) with
    | none => rw [dv.1 hx]; exact .bl _
    | some d' =>
      obtain ⟨w, hw, _⟩ := dv.2 d' hx
      rw [hw]
      exact .bl _
theorem dkR_len : ∀ {ks : List (Key × V)} {es : List (Key × PyData)}, DkR K H ks es → ks.length = es.length
  | _, _, .nil => rfl
  | _, _, .cons _ r => congrArg (· + 1) (dkR_len r)
theorem dp_key (k : Key) : Dp K H (kV k) (keyD k) := by
  cases k with
  | inl i => exact .int i
  | inr s => exact .str s
theorem items_dp {H' : Hp} {ts : List Addr} {kvs : List (Key × V)} {es : List (Key × PyData)} (pr : Paired (fun (t : Addr) (q : Key × V) => H' t = some (.tup [kV q.1, q.2])) ts kvs) (r : DkR K H' kvs es) : DpAll K H' (ts.map V.ref) (es.map pairD) := by
  induction pr generalizing es with
  | nil => cases r; exact .nil
  | cons h1 t ih =>
    cases r with
    | cons a b => exact .cons (.tup (.inl (.inl h1)) (.cons (dp_key _) (.cons a .nil))) (ih b)
/-- list(d.items()) -/
theorem edl_items (tG : TabsG G H) (h : EdX G K te σ H (.k es)) : EdL G K (tListItems te) σ H (es.map pairD) := fun H1 x Q q =>
  h H1 x _ fun v H2 x2 rv => by
    obtain ⟨a, kvs, rfl, ha, r⟩ := rv
    have t2 := (tG.ext x).ext x2
    refine ⟨a, kvs, rfl, ha, fun H' p ts keep newp newt pt ep pr => ?_⟩
    have x3 : Ext G H2 H' := ⟨fun a _ o e => keep a o e, fun P _ ⟨ps, e, z⟩ => ⟨ps, keep P _ e, z⟩⟩
    exact q p _ H' (x2.trans x3) ep (items_dp pr (dkR_ext x3 t2 r))
def putE (es : List (Key × PyData)) (k : Key) (d : PyData) : List (Key × PyData) := if (es.any fun kv => decide (kv.1 = k)) = true then es.map (fun kv => if kv.1 = k then (kv.1, d) else kv) else es ++ [(k, d)]
def mergeE (es more : List (Key × PyData)) : List (Key × PyData) := more.foldl (fun acc kv => putE acc kv.1 kv.2) es
theorem dkR_any (k : Key) : ∀ {ks : List (Key × V)} {es : List (Key × PyData)}, DkR K H ks es → (ks.any fun kv => decide (kv.1 = k)) = es.any fun kv => decide (kv.1 = k)
  | _, _, .nil => rfl
  | _, _, .cons _ r => by
    rw [List.any_cons, List.any_cons, dkR_any k r]
theorem dkR_app : ∀ {ks js : List (Key × V)} {es fs : List (Key × PyData)}, DkR K H ks es → DkR K H js fs → DkR K H (ks ++ js) (es ++ fs)
  | _, _, _, _, .nil, b => b
  | _, _, _, _, .cons a r, b => .cons a (dkR_app r b)
theorem dkR_repl {k : Key} {v : V} (h : Dp K H v d) : ∀ {ks : List (Key × V)} {es : List (Key × PyData)}, DkR K H ks es → DkR K H (ks.map fun kv => if kv.1 = k then (kv.1, v) else kv) (es.map fun kv => if kv.1 = k then (kv.1, d) else kv)
  | _, _, .nil => .nil
  | _, _, .cons (k := j) a r => by
    by_cases e : j = k
    · simp only [List.map_cons, if_pos e]
      exact .cons h (dkR_repl h r)
    · simp only [List.map_cons, if_neg e]
      exact .cons a (dkR_repl h r)
theorem dkR_put {k : Key} {v : V} {ks : List (Key × V)} {es : List (Key × PyData)} (r : DkR K H ks es) (h : Dp K H v d) : DkR K H (putK ks k v) (putE es k d) := by
  unfold putK putE
  rw [dkR_any k r]
  split
  · exact dkR_repl h r
  · exact dkR_app r (.cons h .nil)
theorem dkR_merge {js ks : List (Key × V)} {fs es : List (Key × PyData)} (r : DkR K H ks es) (h : DkR K H js fs) : DkR K H (mergeK ks js) (mergeE es fs) := by
  induction h generalizing ks es with
  | nil => exact r
  | cons a _ ih => exact ih (dkR_put r a)
theorem putE_new {es : List (Key × PyData)} {k : Key} (h : k ∉ es.map (·.1)) : putE es k d = es ++ [(k, d)] := by
  unfold putE
  rw [if_neg]
  intro z
  obtain ⟨kv, h1, h2⟩ := List.any_eq_true.mp z
  exact h (List.mem_map.mpr ⟨kv, h1, of_decide_eq_true h2⟩)
theorem mergeE_nodup : ∀ {fs es : List (Key × PyData)}, ((es ++ fs).map (·.1)).Nodup → mergeE es fs = es ++ fs
  | [], es, _ => by rw [List.append_nil]; rfl
  | f :: fs, es, h => by
    have h1 : f.1 ∉ es.map (·.1) := by
      rw [List.map_append, List.map_cons, List.nodup_append] at h
      exact fun z => h.2.2 _ z _ List.mem_cons_self rfl
    show mergeE (putE es f.1 f.2) fs = _
    rw [putE_new h1, mergeE_nodup (by rw [List.append_assoc]; exact h), List.append_assoc]
    rfl
theorem putE_len (es : List (Key × PyData)) (k : Key) (d : PyData) : (putE es k d).length ≤ es.length + 1 := by
  unfold putE
  split
  · rw [List.length_map]; omega
  · rw [List.length_append]; simp
/-- dict(pairs), a list of pairs -/
theorem edx_dictL (tG : TabsG G H) (h : EdL G K te σ H (es.map pairD)) : EdX G K (tCB (fun xs H Q => ∃ (a : Addr) (ps : List Addr) (kvs : List (Key × V)), xs = [.ref a] ∧ SqL K H a (ps.map V.ref) ∧ Paired (fun p kv => SqT K H p [kV kv.1, kv.2]) ps kvs ∧ ∀ p, H p = none → Q (.ref p) (upd H p (.dK (mergeK [] kvs)))) (tCons te tNil)) σ H (.k (mergeE [] es)) := fun H1 x Q q =>
  h H1 x _ fun p vs H2 x2 e2 r2 => by
    have t2 := (tG.ext x).ext x2
    have key : ∀ {vs : List V} {es : List (Key × PyData)}, DpAll K H2 vs (es.map pairD) → ∃ (ps : List Addr) (kvs : List (Key × V)), vs = ps.map V.ref ∧ Paired (fun p kv => SqT K H2 p [kV kv.1, kv.2]) ps kvs ∧ DkR K H2 kvs es := fun {vs} => by
      induction vs with
      | nil => intro es r; cases es with
        | nil => exact ⟨[], [], rfl, .nil, .nil⟩
        | cons e es => cases r
      | cons v vs ih => intro es r; cases es with
        | nil => cases r
        | cons e es =>
          cases r with
          | cons a b =>
            obtain ⟨ps, kvs, rfl, h1, h2⟩ := ih b
            obtain ⟨t, us, rfl, hs, hr⟩ := dp_tup a
            obtain ⟨u1, u2, rfl, r1, r2⟩ := dpA_two hr
            obtain ⟨k, d⟩ := e
            have ek : u1 = kV k := by
              cases k with
              | inl i => exact dp_int r1
              | inr s => exact dp_str r1
            subst ek
            exact ⟨t :: ps, (k, u2) :: kvs, rfl, .cons hs h1, .cons r2 h2⟩
    obtain ⟨ps, kvs, rfl, h1, h2⟩ := key r2
    refine ⟨p, ps, kvs, rfl, SqL.of e2, h1, fun c hc => ?_⟩
    have x4 : Ext G H2 (upd H2 c (.dK (mergeK [] kvs))) := Ext.new hc
    exact q _ _ (x2.trans x4) ⟨c, _, rfl, upd_same, dkR_ext x4 t2 (dkR_merge .nil h2)⟩
theorem ed_lenD (h : EdX G K te σ H (.k es)) : Ed G K (tCB (fun xs H Q => ∃ a kvs, xs = [V.ref a] ∧ H a = some (.dK kvs) ∧ Q (.int kvs.length) H) (tCons te tNil)) σ H (.int es.length) := fun H1 x Q q =>
  h H1 x _ fun v H2 x2 rv => by
    obtain ⟨a, kvs, rfl, ha, r⟩ := rv
    refine ⟨a, kvs, rfl, ha, q _ H2 x2 ?_⟩
    rw [dkR_len r]
    exact .int _
/-- for a, b in zip(t, u); the invariant sees the heap -/
theorem s_forZH {ds2 : List PyData} {tb : TS} {D : Ends} {g : TG} (tG : TabsG G H) (h : EdA G K tA σ H [.tuple ds, .tuple ds2]) (hlen : ds.length = ds2.length) (Pv : Nat → L2.St → Hp → Prop) (h0 : ∀ H1, Ext G H H1 → Pv 0 σ H1) (hPn : ∀ i σ' H1 H2, Ext G H1 H2 → TabsG G H1 → Pv i σ' H1 → Pv i σ' H2)
    (hs : ∀ i d d2 v u T σ' H' (N : L2.St → Hp → Prop), ds[i]? = some d → ds2[i]? = some d2 → Pv i σ' H' → Ext G H H' → Dp K H' v d → Dp K H' u d2 → H' T = some (.tup [v, u]) → TabsG G H' → (∀ σ2 H2, Ext G H' H2 → Pv (i + 1) σ2 H2 → N σ2 H2) → g (.ref T) σ' H' fun σ2 H2 => tb { D with nx := N, ct := N, bk := D.nx } σ2 H2)
    (hd : ∀ σ' H', Ext G H H' → Pv ds.length σ' H' → D.nx σ' H') : tFor (RZ.iZipA K tA) g tb D σ H := h H (Ext.refl G H) _ fun vs H2 x2 rs => by
  obtain ⟨v, u, rfl, rv, ru⟩ := dpA_two rs
  obtain ⟨a, xs, rfl, q, r⟩ := dp_tup rv
  obtain ⟨b, ys, rfl, q2, r2⟩ := dp_tup ru
  have t2 := tG.ext x2
  have len := dpA_len r
  have len2 := dpA_len r2
  refine ⟨a, b, xs, ys, rfl, .inr ⟨q, q2, RZ.for_zipT (a := a) (b := b) (xs := xs) (ys := ys) (by omega) (fun i σ' H' => Pv i σ' H' ∧ Ext G H2 H') ⟨h0 H2 x2, Ext.refl G H2⟩ (fun i σ' H' p => ⟨p.2.sqT t2 q, p.2.sqT t2 q2⟩) (fun i x y T σ' H' hx hy p hT => ?_) (fun σ' H' p => hd σ' H' (x2.trans p.2) (by rw [← len]; exact p.1))⟩⟩
  obtain ⟨d, hd', rd⟩ := dpA_getV r hx
  obtain ⟨d2, hd2, rd2⟩ := dpA_getV r2 hy
  have x3 : Ext G H' (upd H' T (.tup [x, y])) := Ext.new hT
  have x4 := p.2.trans x3
  exact hs i d d2 x y T σ' _ _ hd' hd2 (hPn _ _ _ _ x3 (t2.ext p.2) p.1) (x2.trans x4) (dp_ext x4 t2 rd) (dp_ext x4 t2 rd2) upd_same (t2.ext x4) fun σ2 H3 y w => ⟨w, x4.trans y⟩
end
end Dl
set_option Elab.async false
set_option linter.all false
set_option maxRecDepth 100000
set_option maxHeartbeats 1000000
/-! walks over a dict, which is locked meanwhile -/
namespace Dl
open PySem PySem.Spec PyProof.Rows L2 GxR Gx LiI
section
variable {X : Cx}
/-- name = {..}, a dict comprehension, on one line, the name a local -/
theorem ps_setDc {i : Nat} {y : Str} {py : Pos} {kx vx tg iter : Expr} {ifs : List Expr} {scope : Scope} {own : List (Str × Nat)} {pos spos : Pos} {wi : TI} {g : TG} {tt : TT} {tk tv : TE} (hc : X.calm = true) (hN : X.N.Nodup) (hy : X.N[i]? = some y) (hyl : X.env.scope.names.lookup y = some .local)
    (hsw : swapsWith (.DictComp kx vx [⟨tg, iter, ifs, 0⟩] scope pos) (some (.Name y py)) spos.line X.env = pure true) (hi : PI X tg iter wi) (ok : BlkOk X.N X.env.scope scope own)
    (hg : ∀ (s : Shared) (H : Hp) (C : Addr) (cl : List (Str × Addr)) (fp : List Addr), PG (X.blk s H scope (compEnvC scope cl C X.env) fp) tg g) (ht : ∀ (s : Shared) (H : Hp) (C : Addr) (cl : List (Str × Addr)) (fp : List Addr), PTs (X.blk s H scope (compEnvC scope cl C X.env) fp) ifs tt)
    (hk : ∀ (s : Shared) (H : Hp) (C : Addr) (cl : List (Str × Addr)) (fp : List Addr), PE (X.blk s H scope (compEnvC scope cl C X.env) fp) kx tk)
    (he : ∀ (s : Shared) (H : Hp) (C : Addr) (cl : List (Str × Addr)) (fp : List Addr), PE (X.blk s H scope (compEnvC scope cl C X.env) fp) vx tv) (hs : ∀ x, foldedSetIterable iter X.env x = pure x := by intro _; rfl) :
    PS X (.Assign [.Name y py] (.DictComp kx vx [⟨tg, iter, ifs, 0⟩] scope pos) spos) (tAsg (tDc wi g tt tk tv (own.map (·.2))) (gName i)) := by
  refine ⟨fun pins s σ H D I h => ?_⟩
  rw [exec_Assign_Name_used _ _ _ _ hsw]
  have h2 : tDc wi g tt tk tv (own.map (·.2)) σ H (fun x H1 => gName i x σ H1 D.nx) := h
  refine wpAny_bind (wpAny_standAt (wpAny_bind ?_))
  show wpAny _ X.A (do let _ ← comprehension (.DictComp kx vx [⟨tg, iter, ifs, 0⟩] scope pos) scope X.env (firstIterPos [⟨tg, iter, ifs, 0⟩] pos) newDict false (eval iter X.env) (some (assign (.Name y py) X.env))) _ _ s
  refine wpAny_bind (thn (dc_core (Qf := fun _ s' => SP X pins D .next s') hc hN I hi ok hg ht hk he hs h2 fun L C s' m H' I' q hn f => ?_) fun _ s' hq => wpAny_pure (wpAny_pure hq))
  show wpAny _ _ (assign (.Name y py) X.env (.ref L)) _ _ _
  refine wpAny_assign_Name (store_ok2 (v := V.ref L) I' hN hy (.inl hyl) rfl (fun s2 I2 ⟨a, sb, ha⟩ => ?_) (.inr hyl))
  obtain ⟨g0, g1, g2, g3, g4, g5⟩ := f
  have off : C ≠ a := by
    rcases ha with z | z
    · exact z ▸ g1
    · exact fun e => g4 y a z e.symm
  exact ⟨m, hn.sameBut sb off, fun h3 sb3 => ⟨_, H', I2.turned (t' := s2.toks) (fun b o hb e => (sb3.2 b hb).trans e) g0 g1 g3 g4 g5, q⟩⟩
theorem sw_trueD {kx vx : Expr} {gs : List Comprehension} {scope : Scope} {pos py : Pos} {y : Str} {l : Nat} {env : Env} (hk : env.scope.kind = .function) (hy : env.scope.names.lookup y = some .local) (hl : (py.line == pos.line) = true)
    (ha : (scope.names.any fun (n, k) => n == y && (k == .local || k == .cell)) = false) : swapsWith (.DictComp kx vx gs scope pos) (some (.Name y py)) l env = pure true := by
  have ky : env.kindOf y = some .local := hy
  have hb : env.blockKind = .function := by unfold Env.blockKind; rw [hk]; rfl
  unfold swapsWith
  simp only [hb, ky, ha, Expr.pos, hl]
  rfl
end
/-- from H on, with the dict at d locked -/
structure LockE (G : List Addr) (d : Addr) (H H1 : Hp) : Prop where
  ex : ∃ H0 od kvs, Ext G H H0 ∧ TabsG G H0 ∧ H0 d = some (.dK kvs) ∧ Ext G (upd H0 d (.frz od (.dK kvs))) H1
section
variable {G : List Addr} {K : PySem.W.Frag} {σ : L2.St} {H H' H0 H1 Hk : Hp} {ta tb te tk tv : TE} {tA : TA} {tt : TT} {d : Addr} {od : Obj} {kvs : List (Key × V)} {ds : List PyData} {es : List (Key × PyData)} {a : Ar} {b c : Bool}
theorem ext_unlock (t : TabsG G H0) (hd : H0 d = some (.dK kvs)) (x : Ext G (upd H0 d (.frz od (.dK kvs))) Hk) : Ext G H0 (upd Hk d (.dK kvs)) := by
  refine ⟨fun a n o e => ?_, fun P hP tb => ?_⟩
  · by_cases h : a = d
    · subst h
      rw [hd] at e
      cases e
      exact upd_same
    · rw [upd_ne h]
      exact x.keep a n o (by rw [upd_ne h]; exact e)
  · obtain ⟨ps, e, z⟩ := tb
    have ne : P ≠ d := fun y => by rw [y, hd] at e; cases e
    obtain ⟨ps', e', z'⟩ := x.tab P hP ⟨ps, by rw [upd_ne ne]; exact e, z⟩
    exact ⟨ps', by rw [upd_ne ne]; exact e', z'⟩
theorem tabs_lock (t : TabsG G H0) (hd : H0 d = some (.dK kvs)) {o : HO} : TabsG G (upd H0 d o) := mut_tabs (H := H0) t hd (fun ps z => by cases z)
theorem ext_lock {o : HO} (x : Ext G H0 H1) (t : TabsG G H0) (hd : H0 d = some (.dK kvs)) : Ext G (upd H0 d o) (upd H1 d o) := by
  have hd1 := x.at t hd (fun ps z => by cases z)
  refine ⟨fun a n o' e => ?_, fun P hP tb => ?_⟩
  · by_cases h : a = d
    · subst h; rw [upd_same] at e ⊢; exact e
    · rw [upd_ne h] at e ⊢; exact x.keep a n o' e
  · have ne : P ≠ d := fun y => by
      obtain ⟨ps, e, _⟩ := t P hP
      rw [y, hd] at e
      cases e
    obtain ⟨ps, e, z⟩ := tb
    rw [upd_ne ne] at e
    obtain ⟨ps', e', z'⟩ := x.tab P hP ⟨ps, e, z⟩
    exact ⟨ps', by rw [upd_ne ne]; exact e', z'⟩
theorem LockE.tabs (l : LockE G d H H1) : TabsG G H1 := by
  obtain ⟨H0, od, kvs, x, t, hd, y⟩ := l.ex
  exact (tabs_lock t hd).ext y
theorem LockE.dp (l : LockE G d H H1) (t : TabsG G H) {v : V} {e : PyData} (hp : Pu e = true) (h : Dp K H v e) : Dp K H1 v e := by
  obtain ⟨H0, od, kvs, x, t0, hd, y⟩ := l.ex
  exact dp_ext y (tabs_lock t0 hd) (dp_tups (fun _ _ q => sqT_updD hd q) hp (dp_ext x t h))
theorem dkR_tups (k : ∀ a xs, SqT K H a xs → SqT K H' a xs) : ∀ {ks : List (Key × V)} {es : List (Key × PyData)}, (∀ e ∈ es, Pu e.2 = true) → DkR K H ks es → DkR K H' ks es
  | _, _, _, .nil => .nil
  | _, _, hp, .cons a r => .cons (dp_tups k (hp _ List.mem_cons_self) a) (dkR_tups k (fun e he => hp e (List.mem_cons_of_mem _ he)) r)
/-- another dict than the locked one -/
theorem LockE.ar (l : LockE G d H H1) (t : TabsG G H) {a : Addr} (ne : a ≠ d) (hp : ∀ e ∈ es, Pu e.2 = true) (h : ArR K H (.ref a) (.k es)) : ArR K H1 (.ref a) (.k es) := by
  obtain ⟨H0, od, kvs, x, t0, hd, y⟩ := l.ex
  obtain ⟨a', ks, e, ha, r⟩ := ar_ext x t h
  cases e
  have tl := tabs_lock t0 hd (o := .frz od (.dK kvs))
  refine ⟨a, ks, rfl, y.at tl (by rw [upd_ne ne]; exact ha) (fun ps z => by cases z), dkR_ext y tl (dkR_tups (fun _ _ q => sqT_updD hd q) hp r)⟩
theorem dkR_getV : ∀ {ks : List (Key × V)} {es : List (Key × PyData)} {i : Nat} {p : Key × V}, DkR K H ks es → ks[i]? = some p → ∃ e, es[i]? = some e ∧ p.1 = e.1 ∧ Dp K H p.2 e.2
  | _, _, _, _, .nil, h => by cases h
  | _, _, 0, _, .cons a _, h => by cases h; exact ⟨_, rfl, rfl, a⟩
  | _, _, i + 1, _, .cons _ r, h => dkR_getV (i := i) r h
/-- all(.. for x in d.values()) -/
theorem ed_allVals {P : Addr} {i j : Nat} {vs : List Nat} {v : V} {p : Key × PyData → Bool} (hP : P ∈ G) (tG : TabsG G H) (hv : σ[j]? = some (some v)) (r : ArR K H v (.k es)) (hi : i ∈ vs) (hp : ∀ e ∈ es, Pu e.2 = true)
    (hb : ∀ e u H1, e ∈ es → (∀ d, v = .ref d → LockE G d H H1) → TabsG G H1 → Dp K H1 u e.2 → Ed G K tb ((wipe σ vs).set i (some u)) H1 (.bool (p e))) : Ed G K (tLockE (tAllG P (iVals (tVar j)) (gName i) tYes tb vs)) σ H (.bool (es.all p)) := fun H0 x Q q => by
  obtain ⟨d, kvs, rfl, hd, dk⟩ := ar_ext x tG r
  have t0 := tG.ext x
  refine ⟨d, .dK kvs, hd, trivial, fun od => ?_⟩
  have tl := tabs_lock t0 hd (o := .frz od (.dK kvs))
  have hl : (upd H0 d (.frz od (.dK kvs))) d = some (.frz od (.dK kvs)) := upd_same
  have dl := dkR_tups (fun _ _ q => sqT_updD hd q) hp dk (H' := upd H0 d (.frz od (.dK kvs)))
  have fin : ∀ (b : Bool) Hk, Ext G (upd H0 d (.frz od (.dK kvs))) Hk → Hk d = some (.frz od (.dK kvs)) ∧ Q (.bl b) (upd Hk d (.dK kvs)) ∨ b ≠ es.all p := fun b Hk y => by
    by_cases hb : b = es.all p
    · refine .inl ⟨y.at tl hl (fun ps z => by cases z), q _ _ (ext_unlock t0 hd y) ?_⟩
      rw [hb]
      exact .bl _
    · exact .inr hb
  have len := dkR_len dl
  refine ⟨.ref d, hv, d, od, kvs, rfl, hl, tl P hP, fun H3 hT => ?_⟩
  have x3 : Ext G (upd H0 d (.frz od (.dK kvs))) H3 := Ext.tabbed hP hT
  refine ⟨fun k m al Hk => m = kvs.length - k ∧ k ≤ kvs.length ∧ Ext G (upd H0 d (.frz od (.dK kvs))) Hk ∧ ∀ e ∈ es.take k, p e = true, ⟨kvs.length, fun tk => ⟨rfl, Nat.zero_le _, x3, fun e he => by simp at he⟩⟩, ?_⟩
  rintro k m al Hk ⟨rfl, hk, y1, hpk⟩
  have hdk := y1.at tl hl (fun ps z => by cases z)
  by_cases hlt : k < kvs.length
  · refine .inr ⟨⟨hdk, hlt⟩, fun al' H' => Ext G Hk H' ∧ ∀ e ∈ es.take (k + 1), p e = true, fun al' H' z => ⟨kvs.length - (k + 1), by omega, rfl, hlt, y1.trans z.1, z.2⟩, fun y H' hy => ?_⟩
    obtain ⟨e1, kk, e2⟩ := hy
    subst e1
    obtain ⟨e, he, e3, rd⟩ := dkR_getV dl e2
    refine ⟨wipe_set σ vs i (some y) hi, ?_⟩
    dsimp only [tYes]
    refine iteT ?_
    have tk := tl.ext y1
    refine hb e y _ (List.mem_of_getElem? he) (fun d' hd' => by cases hd'; exact ⟨H0, od, kvs, x, t0, hd, y1⟩) tk (dp_ext y1 tl rd) _ (Ext.refl G _) _ fun w H4 y4 rw_ => ⟨p e, dp_bl rw_, ?_⟩
    cases hpd : p e with
    | true =>
      rw [if_pos rfl]
      refine ⟨y4, fun e' he' => ?_⟩
      rw [take_snoc he] at he'
      rcases List.mem_append.mp he' with z | z
      · exact hpk e' z
      · rw [List.mem_singleton.mp z]; exact hpd
    | false =>
      rw [if_neg Bool.false_ne_true]
      have ea : es.all p = false := by
        rw [List.all_eq_false]
        exact ⟨e, List.mem_of_getElem? he, by rw [hpd]; exact Bool.false_ne_true⟩
      rcases fin false H4 (y1.trans y4) with z | z
      · exact z
      · exact absurd ea.symm z
  · have e : k = kvs.length := by omega
    subst e
    refine .inl ⟨⟨hdk, Nat.le_refl _⟩, ?_⟩
    rw [len, List.take_length] at hpk
    rcases fin true Hk y1 with z | z
    · exact z
    · exact absurd (List.all_eq_true.mpr hpk).symm z
theorem putE_pu {es : List (Key × PyData)} {k : Key} {x : PyData} (hp : ∀ e ∈ es, Pu e.2 = true) (hx : Pu x = true) : ∀ e ∈ putE es k x, Pu e.2 = true := by
  intro e he
  unfold putE at he
  split at he
  · obtain ⟨f, hf, rfl⟩ := List.mem_map.mp he
    split
    · exact hx
    · exact hp f hf
  · rcases List.mem_append.mp he with z | z
    · exact hp e z
    · rw [List.mem_singleton.mp z]; exact hx
theorem mergeE_snoc (es fs : List (Key × PyData)) (f : Key × PyData) : mergeE es (fs ++ [f]) = putE (mergeE es fs) f.1 f.2 := by
  unfold mergeE
  rw [List.foldl_append]
  rfl
theorem mergeE_len : ∀ (fs es : List (Key × PyData)), (mergeE es fs).length ≤ es.length + fs.length
  | [], es => by show es.length ≤ _; simp
  | f :: fs, es => by
    have := mergeE_len fs (putE es f.1 f.2)
    have := putE_len es f.1 f.2
    show (mergeE (putE es f.1 f.2) fs).length ≤ _
    rw [List.length_cons]
    omega
/-- one turn of a dict comprehension -/
theorem dc_turn {HL Hk : Hp} {D : Addr} {acc : List (Key × V)} {fs : List (Key × PyData)} {n : Nat} {σ' : L2.St} {tt : TT} {tk tv : TE} {kf : Key} {gf : PyData} {b : Bool} (tG : TabsG G HL) (hD : HL D = none) (y1 : Ext G HL Hk) (e1 : Hk D = some (.dK acc)) (e3 : DkR K Hk acc (mergeE [] fs)) (el : fs.length ≤ n) (hn : n < sizeLine) (hp : ∀ e ∈ mergeE [] fs, Pu e.2 = true) (hg : Pu gf = true)
    (ht : EdT G tt σ' Hk b) (hk : b = true → Ed G K tk σ' Hk (keyD kf)) (hv : b = true → Ed G K tv σ' Hk gf) :
    tt σ' Hk fun b' H3 => if b' = true then tk σ' H3 fun y H4 => tv σ' H4 fun z H5 => ∃ kvs k, y = kV k ∧ H5 D = some (.dK kvs) ∧ kvs.length < sizeLine ∧ (Ext G HL (upd H5 D (.dK (putK kvs k z))) ∧ ∃ acc', (upd H5 D (.dK (putK kvs k z))) D = some (.dK acc') ∧ DkR K (upd H5 D (.dK (putK kvs k z))) acc' (mergeE [] (if b = true then fs ++ [(kf, gf)] else fs)))
      else Ext G HL H3 ∧ ∃ acc', H3 D = some (.dK acc') ∧ DkR K H3 acc' (mergeE [] (if b = true then fs ++ [(kf, gf)] else fs)) := by
  have tk1 := tG.ext y1
  refine ht Hk (Ext.refl G Hk) _ fun H3 x3 => ?_
  cases hb : b with
  | true =>
    rw [if_pos rfl, if_pos rfl]
    refine hk hb H3 x3 _ fun y H4 x4 ry => ?_
    have xx := x3.trans x4
    refine hv hb H4 xx _ fun z H5 x5 rz => ?_
    have yy := xx.trans x5
    have e5 : H5 D = some (.dK acc) := yy.at tk1 e1 (fun ps z => by cases z)
    have ek : y = kV kf := by
      cases kf with
      | inl i => exact dp_int ry
      | inr s => exact dp_str ry
    have d5 := dkR_ext yy tk1 e3
    have hlen : acc.length < sizeLine := by
      rw [dkR_len d5]
      have := mergeE_len fs []
      simp at this
      omega
    refine ⟨acc, kf, ek, e5, hlen, (y1.trans yy).mut hD e5 (fun ps z => by cases z), _, upd_same, ?_⟩
    rw [mergeE_snoc]
    exact dkR_tups (fun _ _ q => sqT_updD e5 q) (putE_pu hp hg) (dkR_put d5 rz)
  | false =>
    rw [if_neg Bool.false_ne_true, if_neg Bool.false_ne_true]
    exact ⟨y1.trans x3, acc, x3.at tk1 e1 (fun ps z => by cases z), dkR_ext x3 tk1 e3⟩
def dcOut (es : List (Key × PyData)) (p : Key × PyData → Bool) (kf : Key × PyData → Key) (gf : Key × PyData → PyData) : List (Key × PyData) := (es.filter p).map fun e => (kf e, gf e)
theorem dcOut_snoc {p : Key × PyData → Bool} {kf : Key × PyData → Key} {gf : Key × PyData → PyData} {k : Nat} {e : Key × PyData} (h : es[k]? = some e) : dcOut (es.take (k + 1)) p kf gf = if p e = true then dcOut (es.take k) p kf gf ++ [(kf e, gf e)] else dcOut (es.take k) p kf gf := by
  unfold dcOut
  rw [take_snoc h, List.filter_append]
  cases e : p e <;> simp [e]
theorem mergeE_pu : ∀ {fs es : List (Key × PyData)}, (∀ e ∈ es, Pu e.2 = true) → (∀ e ∈ fs, Pu e.2 = true) → ∀ e ∈ mergeE es fs, Pu e.2 = true
  | [], es, h, _ => h
  | f :: fs, es, h, h2 => mergeE_pu (fs := fs) (putE_pu h (h2 f List.mem_cons_self)) fun e he => h2 e (List.mem_cons_of_mem _ he)
theorem dcOut_pu {p : Key × PyData → Bool} {kf : Key × PyData → Key} {gf : Key × PyData → PyData} (h : ∀ e ∈ es, Pu (gf e) = true) (k : Nat) : ∀ e ∈ mergeE [] (dcOut (es.take k) p kf gf), Pu e.2 = true := mergeE_pu (fun e he => by cases he) fun e he => by
  obtain ⟨f, hf, rfl⟩ := List.mem_map.mp he
  exact h f (List.mem_of_mem_take (List.mem_filter.mp hf).1)
theorem dcOut_len (p : Key × PyData → Bool) (kf : Key × PyData → Key) (gf : Key × PyData → PyData) (k : Nat) : (dcOut (es.take k) p kf gf).length ≤ k := by
  unfold dcOut
  rw [List.length_map]
  have h1 := List.length_filter_le p (es.take k)
  have h2 := List.length_take_le k es
  omega
/-- a reading that yields a new dict -/
def EdXN (G : List Addr) (K : PySem.W.Frag) (te : TE) (σ : L2.St) (H : Hp) (es : List (Key × PyData)) : Prop := ∀ H1, Ext G H H1 → ∀ Q : VK, (∀ p kvs H2, H1 p = none → Ext G H1 H2 → H2 p = some (.dK kvs) → DkR K H2 kvs es → Q (.ref p) H2) → te σ H1 Q
theorem EdXN.edx (h : EdXN G K te σ H es) : EdX G K te σ H (.k es) := fun H1 x Q q => h H1 x Q fun p kvs H2 _ x2 e r => q _ H2 x2 ⟨p, kvs, rfl, e, r⟩
/-- {.. for x, y in d.items() if ..} -/
theorem edxn_dcItems {i1 i2 j : Nat} {vs : List Nat} {v : V} {p : Key × PyData → Bool} {kf : Key × PyData → Key} {gf : Key × PyData → PyData} (tG : TabsG G H) (hv : σ[j]? = some (some v)) (r : ArR K H v (.k es)) (h1 : i1 ∈ vs) (h2 : i2 ∈ vs) (hl : es.length ≤ 100000) (hp : ∀ e ∈ es, Pu e.2 = true) (hg : ∀ e ∈ es, Pu (gf e) = true)
    (ht : ∀ e u H1, e ∈ es → (∀ d, v = .ref d → LockE G d H H1) → TabsG G H1 → Dp K H1 u e.2 → EdT G tt (((wipe σ vs).set i1 (some (kV e.1))).set i2 (some u)) H1 (p e))
    (hk : ∀ e u H1, e ∈ es → p e = true → (∀ d, v = .ref d → LockE G d H H1) → TabsG G H1 → Dp K H1 u e.2 → Ed G K tk (((wipe σ vs).set i1 (some (kV e.1))).set i2 (some u)) H1 (keyD (kf e)))
    (hb : ∀ e u H1, e ∈ es → p e = true → (∀ d, v = .ref d → LockE G d H H1) → TabsG G H1 → Dp K H1 u e.2 → Ed G K tv (((wipe σ vs).set i1 (some (kV e.1))).set i2 (some u)) H1 (gf e)) :
    EdXN G K (tLockE (tDc (iItems (tVar j)) (gTup K 2 (gCons (gName i1) (gCons (gName i2) gNil))) tt tk tv vs)) σ H (mergeE [] (dcOut es p kf gf)) := fun H0 x Q q => by
  obtain ⟨d, kvs, rfl, hd, dk⟩ := ar_ext x tG r
  have t0 := tG.ext x
  refine ⟨d, .dK kvs, hd, trivial, fun od => ?_⟩
  have tl := tabs_lock t0 hd (o := .frz od (.dK kvs))
  have hl2 : (upd H0 d (.frz od (.dK kvs))) d = some (.frz od (.dK kvs)) := upd_same
  have dl := dkR_tups (fun _ _ q => sqT_updD hd q) hp dk (H' := upd H0 d (.frz od (.dK kvs)))
  have len := dkR_len dl
  refine ⟨.ref d, hv, d, od, kvs, rfl, hl2, fun D hD => ?_⟩
  refine ⟨fun k m Hk => m = kvs.length - k ∧ k ≤ kvs.length ∧ Ext G (upd H0 d (.frz od (.dK kvs))) Hk ∧ ∃ acc, Hk D = some (.dK acc) ∧ DkR K Hk acc (mergeE [] (dcOut (es.take k) p kf gf)), ⟨kvs.length, rfl, Nat.zero_le _, Ext.new hD, [], upd_same, .nil⟩, ?_⟩
  rintro k m Hk ⟨rfl, hk', y1, acc, e1, e3⟩
  have hdk := y1.at tl hl2 (fun ps z => by cases z)
  by_cases hlt : k < kvs.length
  · refine .inr ⟨⟨hdk, hlt⟩, fun H' => Ext G (upd H0 d (.frz od (.dK kvs))) H' ∧ ∃ acc', H' D = some (.dK acc') ∧ DkR K H' acc' (mergeE [] (dcOut (es.take (k + 1)) p kf gf)), fun H' z => ⟨kvs.length - (k + 1), by omega, rfl, hlt, z.1, z.2⟩, fun y H' hy => ?_⟩
    obtain ⟨T, kk, vv, e2, rfl, hT, rfl⟩ := hy
    obtain ⟨e, he, e4, rd⟩ := dkR_getV dl e2
    have e4' : kk = e.1 := e4
    subst e4'
    have me := List.mem_of_getElem? he
    have y2 : Ext G Hk (upd Hk T (.tup [kV e.1, vv])) := Ext.new hT
    have yy := y1.trans y2
    have tk1 := tl.ext yy
    have rd' := dp_ext yy tl rd
    have lk : ∀ d', V.ref d = .ref d' → LockE G d' H (upd Hk T (.tup [kV e.1, vv])) := fun d' hd' => by cases hd'; exact ⟨H0, od, kvs, x, t0, hd, yy⟩
    refine ⟨T, [kV e.1, vv], rfl, .inl (.inl upd_same), rfl, kV e.1, [vv], rfl, vv, [], rfl, rfl, ?_⟩
    refine ⟨by rw [wipe_setG _ _ _ _ h2, wipe_setG _ _ _ _ h1, wipe_wipe], ?_⟩
    rw [dcOut_snoc he]
    exact dc_turn (n := k) (fs := dcOut (es.take k) p kf gf) tl hD yy (y2.at (tl.ext y1) e1 (fun ps z => by cases z)) (dkR_ext y2 (tl.ext y1) e3) (dcOut_len p kf gf k) (Nat.lt_of_lt_of_le (show k < 100001 by omega) (by decide)) (dcOut_pu hg k) (hg e me) (ht e vv _ me lk tk1 rd') (fun hb' => hk e vv _ me hb' lk tk1 rd') fun hb' => hb e vv _ me hb' lk tk1 rd'
  · have ee : k = kvs.length := by omega
    subst ee
    rw [len, List.take_length] at e3
    have ne : D ≠ d := fun z => by rw [z] at hD; rw [hl2] at hD; cases hD
    refine .inl ⟨⟨hdk, Nat.le_refl _⟩, hdk, q D acc _ (by rw [← hD, upd_ne ne]) (ext_unlock t0 hd y1) (by rw [upd_ne ne]; exact e1) ?_⟩
    refine dkR_tups (fun a xs qq => ?_) ?_ e3
    · rcases qq with qq | qq
      · rcases qq with qq | ⟨ob, qq⟩
        · exact .inl (.inl (by rw [upd_ne (fun z => by rw [z, hdk] at qq; cases qq)]; exact qq))
        · exact .inl (.inr ⟨ob, by rw [upd_ne (fun z => by rw [z, hdk] at qq; cases qq)]; exact qq⟩)
      · exact .inr qq
    · have := dcOut_pu (es := es) (p := p) (kf := kf) hg es.length
      rw [List.take_length] at this
      exact this
/-- {.. for x in d.values() ..} -/
theorem edx_dcVals {i j : Nat} {vs : List Nat} {v : V} {p : Key × PyData → Bool} {kf : Key × PyData → Key} {gf : Key × PyData → PyData} (tG : TabsG G H) (hv : σ[j]? = some (some v)) (r : ArR K H v (.k es)) (h1 : i ∈ vs) (hl : es.length ≤ 100000) (hp : ∀ e ∈ es, Pu e.2 = true) (hg : ∀ e ∈ es, Pu (gf e) = true)
    (ht : ∀ e u H1, e ∈ es → (∀ d, v = .ref d → LockE G d H H1) → TabsG G H1 → Dp K H1 u e.2 → EdT G tt ((wipe σ vs).set i (some u)) H1 (p e))
    (hk : ∀ e u H1, e ∈ es → p e = true → (∀ d, v = .ref d → LockE G d H H1) → TabsG G H1 → Dp K H1 u e.2 → Ed G K tk ((wipe σ vs).set i (some u)) H1 (keyD (kf e)))
    (hb : ∀ e u H1, e ∈ es → p e = true → (∀ d, v = .ref d → LockE G d H H1) → TabsG G H1 → Dp K H1 u e.2 → Ed G K tv ((wipe σ vs).set i (some u)) H1 (gf e)) :
    EdX G K (tLockE (tDc (iVals (tVar j)) (gName i) tt tk tv vs)) σ H (.k (mergeE [] (dcOut es p kf gf))) := fun H0 x Q q => by
  obtain ⟨d, kvs, rfl, hd, dk⟩ := ar_ext x tG r
  have t0 := tG.ext x
  refine ⟨d, .dK kvs, hd, trivial, fun od => ?_⟩
  have tl := tabs_lock t0 hd (o := .frz od (.dK kvs))
  have hl2 : (upd H0 d (.frz od (.dK kvs))) d = some (.frz od (.dK kvs)) := upd_same
  have dl := dkR_tups (fun _ _ q => sqT_updD hd q) hp dk (H' := upd H0 d (.frz od (.dK kvs)))
  have len := dkR_len dl
  refine ⟨.ref d, hv, d, od, kvs, rfl, hl2, fun D hD => ?_⟩
  refine ⟨fun k m Hk => m = kvs.length - k ∧ k ≤ kvs.length ∧ Ext G (upd H0 d (.frz od (.dK kvs))) Hk ∧ ∃ acc, Hk D = some (.dK acc) ∧ DkR K Hk acc (mergeE [] (dcOut (es.take k) p kf gf)), ⟨kvs.length, rfl, Nat.zero_le _, Ext.new hD, [], upd_same, .nil⟩, ?_⟩
  rintro k m Hk ⟨rfl, hk', y1, acc, e1, e3⟩
  have hdk := y1.at tl hl2 (fun ps z => by cases z)
  by_cases hlt : k < kvs.length
  · refine .inr ⟨⟨hdk, hlt⟩, fun H' => Ext G (upd H0 d (.frz od (.dK kvs))) H' ∧ ∃ acc', H' D = some (.dK acc') ∧ DkR K H' acc' (mergeE [] (dcOut (es.take (k + 1)) p kf gf)), fun H' z => ⟨kvs.length - (k + 1), by omega, rfl, hlt, z.1, z.2⟩, fun y H' hy => ?_⟩
    obtain ⟨rfl, kk, e2⟩ := hy
    obtain ⟨e, he, e4, rd⟩ := dkR_getV dl e2
    have me := List.mem_of_getElem? he
    have tk1 := tl.ext y1
    have rd' := dp_ext y1 tl rd
    have lk : ∀ d', V.ref d = .ref d' → LockE G d' H H' := fun d' hd' => by cases hd'; exact ⟨H0, od, kvs, x, t0, hd, y1⟩
    refine ⟨wipe_set σ vs i (some y) h1, ?_⟩
    rw [dcOut_snoc he]
    exact dc_turn (n := k) (fs := dcOut (es.take k) p kf gf) tl hD y1 e1 e3 (dcOut_len p kf gf k) (Nat.lt_of_lt_of_le (show k < 100001 by omega) (by decide)) (dcOut_pu hg k) (hg e me) (ht e y _ me lk tk1 rd') (fun hb' => hk e y _ me hb' lk tk1 rd') fun hb' => hb e y _ me hb' lk tk1 rd'
  · have ee : k = kvs.length := by omega
    subst ee
    rw [len, List.take_length] at e3
    have ne : D ≠ d := fun z => by rw [z] at hD; rw [hl2] at hD; cases hD
    refine .inl ⟨⟨hdk, Nat.le_refl _⟩, hdk, q _ _ (ext_unlock t0 hd y1) ⟨D, acc, rfl, by rw [upd_ne ne]; exact e1, ?_⟩⟩
    refine dkR_tups (fun a xs qq => ?_) ?_ e3
    · rcases qq with qq | qq
      · rcases qq with qq | ⟨ob, qq⟩
        · exact .inl (.inl (by rw [upd_ne (fun z => by rw [z, hdk] at qq; cases qq)]; exact qq))
        · exact .inl (.inr ⟨ob, by rw [upd_ne (fun z => by rw [z, hdk] at qq; cases qq)]; exact qq⟩)
      · exact .inr qq
    · have := dcOut_pu (es := es) (p := p) (kf := kf) hg es.length
      rw [List.take_length] at this
      exact this
end
end Dl
set_option Elab.async false
set_option linter.all false
set_option maxRecDepth 100000
set_option maxHeartbeats 1000000
/-! sorted of data -/
namespace Dl
open PySem PySem.Spec PyProof.Rows L2 GxR Gx LiI
def sortD (ds : List PyData) : List PyData := ds.mergeSort (PySem.W.dataLe false fun d => d)
theorem sortD_perm (ds : List PyData) : (sortD ds).Perm ds := List.mergeSort_perm _ _
section
variable {K : PySem.W.Frag} {H : Hp}
/-- the pairs of a value and what it is -/
theorem each_zip : ∀ {xs : List V} {ds : List PyData} {us : List Value}, DpAll K H xs ds → Vals xs us → PySem.W.EachIs (fun v (b : V × PyData) => RelV b.1 v) us (xs.zip ds)
  | _, _, _, .nil, .nil => .nil
  | _, _, _, .cons _ r, .cons h t => .cons h (each_zip r t)
theorem zip_dp : ∀ {xs : List V} {ds : List PyData}, DpAll K H xs ds → ∀ b ∈ xs.zip ds, Dp K H b.1 b.2
  | _, _, .nil, b, h => by simp at h
  | _, _, .cons a r, b, h => by
    rw [List.zip_cons_cons, List.mem_cons] at h
    rcases h with h | h
    · rw [h]; exact a
    · exact zip_dp r b h
theorem zip_snd : ∀ {xs : List V} {ds : List PyData}, DpAll K H xs ds → (xs.zip ds).map Prod.snd = ds
  | _, _, .nil => rfl
  | _, _, .cons a r => by rw [List.zip_cons_cons, List.map_cons, zip_snd r]
theorem dp_unzip : ∀ {bs : List (V × PyData)}, (∀ b ∈ bs, Dp K H b.1 b.2) → DpAll K H (bs.map Prod.fst) (bs.map Prod.snd)
  | [], _ => .nil
  | b :: r, h => .cons (h b List.mem_cons_self) (dp_unzip fun b hb => h b (List.mem_cons_of_mem _ hb))
theorem each_vals : ∀ {us : List Value} {bs : List (V × PyData)}, PySem.W.EachIs (fun v (b : V × PyData) => RelV b.1 v) us bs → Vals (bs.map Prod.fst) us
  | _, _, .nil => .nil
  | _, _, .cons h t => .cons h (each_vals t)
theorem sort_snd (bs : List (V × PyData)) : (bs.mergeSort (PySem.W.dataLe false Prod.snd)).map Prod.snd = sortD (bs.map Prod.snd) := PySem.W.sort_maps Prod.snd fun a _ b _ => rfl
end
section
variable {X : Cx}
theorem each_reads {pins : List (Addr × Obj)} {σ : L2.St} {H : Hp} {s : Shared} (I : Inv X pins σ H s) : ∀ {xs : List V} {ds : List PyData} {us : List Value}, DpAll X.K H xs ds → Vals xs us → PySem.W.EachIs (fun v (b : V × PyData) => ∃ as, Reads s.heap v b.2 as) us (xs.zip ds)
  | _, _, _, .nil, .nil => .nil
  | _, _, _, .cons a r, .cons h t => .cons (Dp.reads I _ _ _ a h) (each_reads I r t)
def rSortedDa (K : PySem.W.Frag) : List V → Hp → VK → Prop := fun vs H Q => ∃ (a : Addr) (xs : List V) (ds : List PyData), vs = [.ref a] ∧ SqL K H a xs ∧ DpAll K H xs ds ∧ PySem.W.AllAlike ds ∧ PySem.W.Sortable ds ∧ (∀ d ∈ ds, d.depth ≤ 60) ∧ ∀ ys p, DpAll K H ys (sortD ds) → H p = none → Q (.ref p) (upd H p (.lst ys))
/-- sorted(xs), xs a list of data -/
theorem cr_sortedDa (hu : X.A.units + 64 < cLine) : CallR X (.builtin "sorted") (rSortedDa X.K) := by
  intro pins s σ H vs us Q I r h
  obtain ⟨a, xs, ds, rfl, hs, hd, hal, hso, hdp, q⟩ := h
  obtain ⟨its, rv, hl, hz⟩ := I.list hs
  rw [Vals.ref1 r]
  have ez := zip_snd hd
  have lz : (xs.zip ds).length = xs.length := by rw [List.length_zip, ← dpA_len hd, Nat.min_self]
  refine PySem.W.sorted_data (enc := Prod.snd) hl.isList (each_zip hd rv) (each_reads I hd rv) (by rw [ez]; exact hal) (by rw [ez]; exact hso) (by rw [lz]; exact hz) (fun b hb => ?_) fun out hlen he => ?_
  · have hm : b.2 ∈ ds := by rw [← ez]; exact List.mem_map.mpr ⟨b, hb, rfl⟩
    have := hdp _ hm
    omega
  · obtain ⟨ep, hat⟩ := PyProof.Rows.sortedAll_at s.heap its out.toArray
    have perm := List.mergeSort_perm (xs.zip ds) (PySem.W.dataLe false Prod.snd)
    have hys := dp_unzip (K := X.K) (H := H) (bs := (xs.zip ds).mergeSort (PySem.W.dataLe false Prod.snd)) fun b hb => zip_dp hd b (perm.mem_iff.mp hb)
    rw [sort_snd, ez] at hys
    have hll : (((xs.zip ds).mergeSort (PySem.W.dataLe false Prod.snd)).map Prod.fst).length ≤ sizeLine := by
      rw [List.length_map, perm.length_eq, lz]
      exact hz
    exact ⟨.ref _, upd H (s.heap.objs.size + 1) (.lst (((xs.zip ds).mergeSort (PySem.W.dataLe false Prod.snd)).map Prod.fst)), I.laid (t' := s.toks) (fun _ _ => PyProof.Rows.sortedAll_old) (Nat.le_succ _) ⟨hll, out, ep, each_vals he, hat⟩, rfl, q _ _ hys (I.hok.fresh (Nat.le_succ _))⟩
end
end Dl
set_option Elab.async false
set_option linter.all false
set_option maxRecDepth 100000
set_option maxHeartbeats 1000000
/-! sorted of a dict with tuple keys; a dict display with one tuple key -/
namespace Dl
open PySem PySem.Spec PyProof.Rows L2 GxR Gx LiI
def kDa : L2.Key → PyData
  | .inl i => .int i
  | .inr x => .str x
def ksD (ks : List L2.Key) : PyData := .tuple (ks.map kDa)
theorem dp_kDa {K : PySem.W.Frag} {H : Hp} (k : L2.Key) : Dp K H (kV k) (kDa k) := by
  cases k with
  | inl i => exact .int i
  | inr x => exact .str x
theorem dpA_kDa {K : PySem.W.Frag} {H : Hp} : ∀ ks : List L2.Key, DpAll K H (ks.map kV) (ks.map kDa)
  | [] => .nil
  | k :: r => .cons (dp_kDa k) (dpA_kDa r)
theorem dp_ksD {K : PySem.W.Frag} {H : Hp} {b : Addr} {ks : List L2.Key} (h : H b = some (.tup (ks.map kV))) : Dp K H (.ref b) (ksD ks) := .tup (.inl (.inl h)) (dpA_kDa ks)
theorem reads_kDa {h : Heap} : ∀ {ks : List L2.Key} {us : List Value} {as : List Addr}, ReadsAll h us (ks.map kDa) as → as = []
  | [], us, as, r => by
    cases r
    rfl
  | .inl i :: ks, us, as, r => by
    rw [List.map_cons] at r
    cases r with
    | cons a b =>
      cases a
      rw [reads_kDa b]
      rfl
  | .inr x :: ks, us, as, r => by
    rw [List.map_cons] at r
    cases r with
    | cons a b =>
      cases a
      rw [reads_kDa b]
      rfl
theorem reads_ksD {h : Heap} {u : Value} {ks : List L2.Key} {as : List Addr} (r : Reads h u (ksD ks) as) : as = [] := by
  cases r with
  | tuple a b c d => exact reads_kDa d
section
variable {K : PySem.W.Frag} {H : Hp}
/-- a tracked key tuple and its data -/
def TrD (H : Hp) (v : V) (d : PyData) : Prop := ∃ (a : Addr) (k : List L2.Key), v = .ref a ∧ d = ksD k ∧ H a = some (.tup (k.map kV))
inductive TrA (H : Hp) : List V → List PyData → Prop
  | nil : TrA H [] []
  | cons {v : V} {vs : List V} {d : PyData} {ds : List PyData} : TrD H v d → TrA H vs ds → TrA H (v :: vs) (d :: ds)
theorem TrA.dp : ∀ {xs : List V} {ds : List PyData}, TrA H xs ds → DpAll K H xs ds
  | _, _, .nil => .nil
  | _, _, .cons ⟨a, k, e1, e2, h⟩ t => by
    subst e1 e2
    exact .cons (dp_ksD h) t.dp
theorem TrA.zip : ∀ {xs : List V} {ds : List PyData}, TrA H xs ds → ∀ b ∈ xs.zip ds, TrD H b.1 b.2
  | _, _, .nil, b, h => by simp at h
  | _, _, .cons a r, b, h => by
    rw [List.zip_cons_cons, List.mem_cons] at h
    rcases h with h | h
    · rw [h]; exact a
    · exact TrA.zip r b h
theorem TrA.unzip : ∀ {bs : List (V × PyData)}, (∀ b ∈ bs, TrD H b.1 b.2) → TrA H (bs.map Prod.fst) (bs.map Prod.snd)
  | [], _ => .nil
  | b :: r, h => .cons (h b List.mem_cons_self) (TrA.unzip fun b hb => h b (List.mem_cons_of_mem _ hb))
theorem TrA.len : ∀ {xs : List V} {ds : List PyData}, TrA H xs ds → xs.length = ds.length
  | _, _, .nil => rfl
  | _, _, .cons a r => by rw [List.length_cons, List.length_cons, r.len]
theorem TrA.get : ∀ {xs : List V} {ds : List PyData} {i : Nat} {v : V}, TrA H xs ds → xs[i]? = some v → ∃ d, ds[i]? = some d ∧ TrD H v d
  | _, _, i, v, .nil, h => by simp at h
  | _, _, 0, v, .cons a r, h => by
    cases h
    exact ⟨_, rfl, a⟩
  | _, _, i + 1, v, .cons a r, h => by
    obtain ⟨d, h1, h2⟩ := r.get (i := i) (by simpa using h)
    exact ⟨d, by simpa using h1, h2⟩
theorem TrA.mono {H' : Hp} (f : ∀ a k, H a = some (.tup k) → H' a = some (.tup k)) : ∀ {xs : List V} {ds : List PyData}, TrA H xs ds → TrA H' xs ds
  | _, _, .nil => .nil
  | _, _, .cons ⟨a, k, e1, e2, h⟩ t => .cons ⟨a, k, e1, e2, f _ _ h⟩ (t.mono f)
theorem ksD_inj {a b : List L2.Key} (h : ksD a = ksD b) : a = b := by
  have e : a.map kDa = b.map kDa := by injection h
  induction a generalizing b with
  | nil => cases b with
    | nil => rfl
    | cons _ _ => cases e
  | cons x a ih => cases b with
    | nil => cases e
    | cons y b =>
      rw [List.map_cons, List.map_cons] at e
      injection e with e1 e2
      rw [ih (by unfold ksD; rw [e2]) e2]
      congr 1
      cases x <;> cases y <;> simp_all [kDa]
theorem isKeys_tr : ∀ {kvs : List (List L2.Key × V)} {bs : List Addr}, IsKeys H kvs bs → TrA H (bs.map V.ref) (kvs.map fun p => ksD p.1)
  | _, _, .nil => .nil
  | _, _, .cons h t => .cons ⟨_, _, rfl, rfl, h⟩ (isKeys_tr t)
theorem isKeys_dp : ∀ {kvs : List (List L2.Key × V)} {bs : List Addr}, IsKeys H kvs bs → DpAll K H (bs.map V.ref) (kvs.map fun p => ksD p.1)
  | _, _, .nil => .nil
  | _, _, .cons h t => .cons (dp_ksD h) (isKeys_dp t)
def rSortedT (K : PySem.W.Frag) : List V → Hp → VK → Prop := fun vs H Q => ∃ (d : Addr) (kvs : List (List L2.Key × V)), vs = [.ref d] ∧ Rd H d (.dT kvs) ∧ PySem.W.AllAlike (kvs.map fun p => ksD p.1) ∧ PySem.W.Sortable (kvs.map fun p => ksD p.1) ∧
  (∀ p ∈ kvs, (ksD p.1).depth ≤ 50) ∧ ∀ ys p, TrA H ys (sortD (kvs.map fun p => ksD p.1)) → H p = none → Q (.ref p) (upd H p (.lst ys))
end
section
variable {X : Cx}
theorem each_reads0 {h : Heap} : ∀ {xs : List V} {us : List Value} {kss : List (List L2.Key)}, (∀ (x : V) (u : Value) (ks : List L2.Key), RelV x u → (x, ksD ks) ∈ xs.zip (kss.map ksD) → ∃ as, Reads h u (ksD ks) as) → Vals xs us → xs.length = kss.length →
    PySem.W.EachIs (fun v (b : V × PyData) => ∃ as, Reads h v b.2 as ∧ h.objs.size ∉ as) us (xs.zip (kss.map ksD))
  | [], _, [], _, .nil, _ => .nil
  | x :: xs, _, k :: kss, f, .cons h t, e => by
    obtain ⟨as, r⟩ := f x _ k h (by rw [List.map_cons, List.zip_cons_cons]; exact List.mem_cons_self)
    have := reads_ksD r
    subst this
    rw [List.map_cons, List.zip_cons_cons]
    refine .cons ⟨[], r, by simp⟩ (each_reads0 (fun x u ks a b => f x u ks a (by rw [List.map_cons, List.zip_cons_cons]; exact List.mem_cons_of_mem _ b)) t (by simpa using e))
theorem each_reads1 {h h' : Heap} (hk : ∀ b o, h.get? b = some o → h'.get? b = some o) {us : List Value} {bs : List (V × PyData)} {a : Addr} (e : PySem.W.EachIs (fun v (b : V × PyData) => ∃ as, Reads h v b.2 as ∧ a ∉ as) us bs) :
    PySem.W.EachIs (fun v (b : V × PyData) => ∃ as, Reads h' v b.2 as ∧ a ∉ as) us bs := e.mono fun _ _ ⟨as, r, n⟩ => ⟨as, PyProof.Rows.Reads.keeps hk r, n⟩
/-- sorted(d), d with tuple keys -/
theorem cr_sortedT (hc : X.calm = true) (hu : X.A.units + 64 < cLine) : CallR X (.builtin "sorted") (rSortedT X.K) := by
  intro pins s σ H xs us Q I r q
  obtain ⟨d, kvs, rfl, hd, hal0, hso, hdp, q⟩ := q
  obtain ⟨u, rfl, rx⟩ := r.one
  cases rx
  obtain ⟨z, hs, ks, pr, o, es, ep, ho, hx, hdt, he, hn⟩ := (show ObjOk X.prog X.w H s.heap d (.dT kvs) from hd.ok I.hok)
  have l1 : es.size = ks.length := size_of_entries he
  have l2 : kvs.length = ks.length := Paired.length pr
  refine Calls.call_function_entry PyProof.Rows.kind_sorted PyProof.Rows.plain_sorted PyProof.Rows.entry_sorted (PyProof.Rows.args_sorted1 _) ?_
  unfold Builtin.«sorted»
  refine wpAny_bind (m := checkCount "sorted" 1 1 _) (wpAny_pure ?_)
  refine wpAny_bind (PySem.W.kdu_collect (A := X.A.in1) (kdl_raw hs hx hdt) (I.ok.hd hc) ho (by omega) fun h' tk acc hk it => ?_)
  have hl : acc.toList.length = ks.length := by rw [Array.length_toList, it.1]; exact l1
  have ea : acc.toList = ks.map fun x => Value.ref x.2.1 := by
    apply List.ext_getElem?
    intro j
    rw [List.getElem?_map]
    cases hj : acc.toList[j]? with
    | none =>
      have h1 := List.getElem?_eq_none_iff.mp hj
      rw [List.getElem?_eq_none (by omega)]
      all_goals rfl
    | some v =>
      obtain ⟨en, hen, hv⟩ := it.2 j v (by rw [← Array.getElem?_toList]; exact hj)
      have qe := entry_at he j
      rw [hen] at qe
      cases hb : ks[j]? with
      | none =>
        rw [hb] at qe
        exact nomatch (show some en = none from qe)
      | some b =>
        rw [hb] at qe
        have e2 : en = entryOfKey (tupleKind (mixKind X.prog X.w)) b := Option.some.inj qe
        rw [hv, e2]
        all_goals rfl
  have eb : acc.toList = (ks.map fun x => x.2.1).map Value.ref := by rw [ea, List.map_map]; all_goals rfl
  have rv : Vals ((ks.map fun x => x.2.1).map V.ref) acc.toList := by rw [eb]; exact L2.vals_refs _
  have ik : IsKeys H kvs (ks.map fun x => x.2.1) := isKeys_of pr
  have I1 : Inv X pins σ H { s with heap := h', toks := tk } := I.kept hk
  have hd1 : DpAll X.K H ((ks.map fun x => x.2.1).map V.ref) (kvs.map fun p => ksD p.1) := isKeys_dp ik
  have htr : TrA H ((ks.map fun x => x.2.1).map V.ref) (kvs.map fun p => ksD p.1) := isKeys_tr ik
  generalize hxs : (ks.map fun x => x.2.1).map V.ref = xs at rv hd1 htr
  have hxl : xs.length = kvs.length := by rw [← hxs, List.length_map, List.length_map, l2]
  refine wpAny_bind (wpAny_newList ?_ (by rw [hl]; omega))
  have hoL : (h'.push (seqObj "list" acc.toList.toArray 0)).get? h'.objs.size = some (seqObj "list" acc.toList.toArray 0) := Heap.get?_push_size _ rfl
  show wpAny _ _ _ _ _ { s with heap := h'.push (seqObj "list" acc.toList.toArray 0), toks := tk }
  have ez := zip_snd hd1
  have ez2 : (kvs.map fun p => ksD p.1) = (kvs.map (·.1)).map ksD := by rw [List.map_map]; all_goals rfl
  have er : PySem.W.EachIs (fun v (b : V × PyData) => ∃ as, Reads h' v b.2 as ∧ h'.objs.size ∉ as) acc.toList (xs.zip (kvs.map fun p => ksD p.1)) := by
    rw [ez2]
    rw [ez2] at hd1
    exact each_reads0 (fun x u k rx hm => Dp.reads I1 _ _ _ (zip_dp hd1 _ hm) rx) rv (by rw [hxl, List.length_map])
  have lz : (xs.zip (kvs.map fun p => ksD p.1)).length = kvs.length := by rw [List.length_zip, List.length_map, hxl, Nat.min_self]
  refine wpAny_bind (wpAny_holding (PySem.W.list_sort_data (s := { s with heap := h'.push (seqObj "list" acc.toList.toArray 0), toks := tk }) (enc := Prod.snd) hoL (each_zip hd1 rv) (each_reads1 (fun _ _ q => Heap.get?_push_of_some _ q) er) (by rw [ez]; exact hal0) (by rw [ez]; exact hso) (by rw [lz]; exact z) (fun b hb => ?_) fun out hlen e => ?_))
  · have hm : b.2 ∈ kvs.map fun p => ksD p.1 := by rw [← ez]; exact List.mem_map.mpr ⟨b, hb, rfl⟩
    obtain ⟨p, hp, e⟩ := List.mem_map.mp hm
    have := hdp p hp
    rw [← e]
    have e1 : X.A.in1.units ≤ X.A.units + 1 := by first | exact Nat.le_refl _ | (simp [Around.in1]) | decide
    omega
  · obtain ⟨e', he'⟩ := PyProof.Rows.sortedHeap_at (vs := acc.toList) (out := out.toArray) hoL
    have perm := List.mergeSort_perm (xs.zip (kvs.map fun p => ksD p.1)) (PySem.W.dataLe false Prod.snd)
    have hys := TrA.unzip (H := H) (bs := (xs.zip (kvs.map fun p => ksD p.1)).mergeSort (PySem.W.dataLe false Prod.snd)) fun b hb => htr.zip b (perm.mem_iff.mp hb)
    rw [sort_snd, ez] at hys
    have hll : (((xs.zip (kvs.map fun p => ksD p.1)).mergeSort (PySem.W.dataLe false Prod.snd)).map Prod.fst).length ≤ sizeLine := by
      rw [List.length_map, perm.length_eq, lz]
      exact z
    refine wpAny_pure ⟨_, rfl, .ref h'.objs.size, upd H h'.objs.size (.lst (((xs.zip (kvs.map fun p => ksD p.1)).mergeSort (PySem.W.dataLe false Prod.snd)).map Prod.fst)), I1.laid (t' := tk) (fun b u e => ?_) (Nat.le_refl _)
      ⟨hll, out, e', each_vals e, he'⟩, rfl, q _ _ hys (I1.hok.fresh (Nat.le_refl _))⟩
    have hb : b < h'.objs.size := Heap.lt_size e
    rw [PyProof.Rows.sortedHeap_old (Nat.ne_of_lt hb) (by rw [size_push']; exact Nat.lt_succ_of_lt hb)]
    exact Heap.get?_push_of_some _ e
/-- {k: v} with a tuple key -/
def tDispT (tk tv : TE) : TE := fun σ H Q => ∀ p, H p = none → tk σ (upd H p (.dT [])) fun x H1 => tv σ H1 fun y H2 => H2 p = some (.dT []) ∧ ∃ ks b, x = .ref b ∧ H2 b = some (.tup (ks.map kV)) ∧ Q (.ref p) (upd H2 p (.dT [(ks, y)]))
theorem pe_dispT {pos : Pos} {k v : Expr} {tk tv : TE} (hu : X.A.units + 64 < cLine) (hk : PE X k tk) (hv : PE X v tv) : PE X (.Dict [some k] [v] pos) (tDispT tk tv) := by
  refine ⟨fun pins s σ H Q I q => ?_⟩
  have hn := I.hok.fresh (Nat.le_refl s.heap.objs.size)
  have I1 := I.laid (a := s.heap.objs.size) (o := .dT []) (h' := s.heap.push { cls := .type "dict", data := .dict #[] }) (t' := s.toks) (fun _ _ q => Heap.get?_push_of_some _ q) (Nat.le_refl _) (dt_empty s.heap I.big)
  rw [arm_eval_Dict, zip_pairTrees [some k] [v] X.env pos rfl rfl, dictDisplay_pairs (pairTrees [some k] [v] X.env pos) (by intro e; exact nomatch e) (show 1 < 17 by decide)]
  refine wpAny_bind (wpAny_standAt (wpAny_bind (wpAny_subDictH (knd := tupleKind (mixKind X.prog X.w)) (Q := fun d s' => wpAny (model X.prog X.w) X.A (pure (Value.ref d)) _ X.xe s') (show X.A.units < cLine by omega) (show 1 ≤ 15 by decide) ?_)))
  refine pairTrees_cons_walk (thn (hk.run pins _ σ _ _ I1 (q _ hn)) fun u s1 ⟨x, H1, I2, rx, q1⟩ => thn (hv.run pins s1 σ H1 _ I2 q1) fun w2 s2 ⟨y, H2, I3, ry, q2⟩ => pairTrees_nil_walk ?_)
  obtain ⟨e, ks, b, rfl, hb, q3⟩ := q2
  cases (show u = Value.ref b from rx)
  obtain ⟨z, hd, xs0, r0, dd⟩ := dt_of I3.hok e
  cases r0
  refine ⟨[(ks, b, w2)], ⟨rfl, rfl, key_of I3.hok hb, trivial⟩, dd, fun h' tk' dk hs => wpAny_pure ⟨.ref s.heap.objs.size, _, ?_, rfl, q3⟩⟩
  obtain ⟨o, es, ep, h1, h2, h3, h4, h5, h6⟩ := dk
  refine d_write I3 (by rw [e]; exact True.intro) hs ⟨o, h1⟩ ⟨by rw [List.length_singleton, sizeLine_eq]; omega, hd, [(ks, b, w2)], .cons ⟨rfl, ?_, ry⟩ .nil, o, es, ep, h1, h2, h3, h4, h6⟩
  have hne : b ≠ s.heap.objs.size := fun x => by
    rw [x, e] at hb
    cases hb
  show upd H2 _ _ b = _
  rw [upd_ne hne]
  exact hb
end
end Dl
set_option Elab.async false
set_option linter.all false
set_option maxRecDepth 100000
set_option maxHeartbeats 2000000
/-! list(d.items()), d with tuple keys -/
namespace DT
open PySem PySem.W PySem.Calls PyProof.Rows PyProof.V PySem.Spec
section
variable {prog : Program} {w : World} {A : Around} {E : Value → Shared → Prop} {s : Shared} {r d : Addr} {es : Array DictEntry} {ep : Nat}
theorem initI {R : Result → Shared → Prop} (hh : A.handled = none) (hv : s.heap.IsItemsView r d) (hm : Raw s.heap d es ep) (S : Addr) (hSr : S ≠ r) (hSd : d ≠ S) (hS : s.heap.get? S = some { cls := .type "list", data := .seq #[] })
    (hR : ∀ h' tk acc c as, (∀ b o, b ≠ S → s.heap.get? b = some o → h'.get? b = some o) → h'.get? S = some { cls := .type "list", dict := none, data := .seq acc c, slots := #[] } → as.length = es.size → Made es S h' as →
      acc.toList = as.map Value.ref → R (.ok (.ret .none)) { s with heap := h', toks := tk }) (hn : es.size ≤ sizeLine) :
    wpAny (model prog w) A.in1 (Builtin.«list.__init__» ⟨[.ref S, .ref r], []⟩)
      (fun fin s' => match fin with | .done f => R (.ok f) s' | .again c' => c'.quiet = true ∧ codeAny (model prog w) A c' R s') (fun e s' => R (.error e) s') s := by
  show wpAny _ _ (do let old ← Builtin.List.listItems (.ref S); Builtin.List.listUpdate (.ref S) (fun _ => #[]); letGo old.toList.reverse; Builtin.List.listExtendWith (.ref S) (.ref r) .none) _ _ s
  refine wpAny_bind ?_
  unfold Builtin.List.listItems
  refine wpAny_bind (wpAny_seqItems hS rfl (wpAny_pure ?_))
  show wpAny _ _ (updateSeq S (fun _ => #[]) >>= fun _ => letGo (#[] : Array Value).toList.reverse >>= fun _ => Builtin.List.listExtendWith (.ref S) (.ref r) .none) _ _ s
  refine wpAny_bind (wpAny_updateSeq hS rfl ?_)
  have hS₂ := Heap.get?_update_self (Obj.mapSeq (fun _ => (#[] : Array Value))) hS rfl
  have oth : ∀ b o, b ≠ S → s.heap.get? b = some o → (s.heap.update S (Obj.mapSeq (fun _ => (#[] : Array Value)))).get? b = some o :=
    fun b o hb e => (Heap.get?_update_other _ _ (Ne.symm hb)).trans e
  refine wpAny_bind (wpAny_letGo ?_)
  refine extI (es := es) (ep := ep) hh (let ⟨o, ho, x⟩ := hv; ⟨o, oth r o hSr.symm ho, x⟩) (hm.at' fun o e => oth d o hSd e) S hSr hSd .none _ hS₂ (fun h' tk acc c as hk hS' hl hG hacc => ?_) hn
  exact hR h' tk acc c as (fun b o hb e => hk b o hb (oth b o hb e)) hS' hl (hG.low (Nat.le_of_lt (Heap.lt_size hS₂))) hacc
theorem callListI {Q : Value → Shared → Prop} (hh : A.handled = none) (hv : s.heap.IsItemsView r d) (hm : Raw s.heap d es ep) (hn : es.size ≤ sizeLine)
    (hQ : ∀ h' tk acc c as, (∀ b o, s.heap.get? b = some o → h'.get? b = some o) → h'.get? s.heap.objs.size = some { cls := .type "list", dict := none, data := .seq acc c, slots := #[] } → as.length = es.size → Made es s.heap.objs.size h' as →
      acc.toList = as.map Value.ref → Q (.ref s.heap.objs.size) { s with heap := h', toks := tk }) :
    wpAny (model prog w) A (call (.type "list") [.ref r]) Q E s := by
  refine callType_codes (Q₁ := fun obj s₁ => obj = .ref s.heap.objs.size ∧ s₁ = { s with heap := s.heap.push { cls := .type "list", data := .seq #[] } }) PySem.F.called_list (PySem.F.typeCall_list_1 _) PySem.F.entry_list_init
    (code_list_new _ ⟨rfl, rfl⟩) fun obj s₁ h₁ => ?_
  obtain ⟨rfl, rfl⟩ := h₁
  have hS : (s.heap.push { cls := .type "list", data := .seq #[] }).get? s.heap.objs.size = some { cls := .type "list", data := .seq #[] } := Heap.get?_push_size _ rfl
  have hr : r < s.heap.objs.size := let ⟨_, ho, _⟩ := hv; Heap.lt_size ho
  have hd : d < s.heap.objs.size := hm.lt
  refine ⟨⟨_, hS, rfl⟩, PySem.F.args_list_init_2 _ _, initI (es := es) (ep := ep) (A := A.in1) hh (let ⟨o, ho, x⟩ := hv; ⟨o, Heap.get?_push_of_some _ ho, x⟩) (hm.push _) _ (Nat.ne_of_gt hr) (Nat.ne_of_lt hd) hS (fun h' tk acc c as hk hS' hl hG hacc => ?_) hn⟩
  exact ⟨rfl, hQ h' tk acc c as (fun b o e => hk b o (Nat.ne_of_lt (Heap.lt_size e)) (Heap.get?_push_of_some _ e)) hS' hl hG hacc⟩
end
end DT
namespace Dl
open PySem PySem.Spec PyProof.Rows L2 L2.DX GxR Gx LiI
/-- a tracked pair (key tuple, value) -/
def PairT (H : Hp) (t : Addr) (p : List L2.Key × V) : Prop := ∃ b : Addr, H t = some (.tup [.ref b, p.2]) ∧ H b = some (.tup (p.1.map kV))
/-- tuples tracked at their addresses -/
def putG : Hp → List Addr → List (List V) → Hp
  | H, a :: as, p :: ps => putG (upd H a (.tup p)) as ps
  | H, _, _ => H
theorem putG_off {b : Addr} : ∀ (as : List Addr) (ps : List (List V)) (H : Hp), b ∉ as → putG H as ps b = H b
  | [], _, _, _ => rfl
  | _ :: _, [], _, _ => rfl
  | a :: as, p :: ps, H, h => by
    show putG (upd H a (.tup p)) as ps b = H b
    rw [putG_off as ps _ (fun z => h (List.mem_cons_of_mem _ z)), upd_ne (fun z => h (by rw [z]; exact List.mem_cons_self))]
theorem putG_at : ∀ (as : List Addr) (ps : List (List V)) (H : Hp), as.length = ps.length → as.Nodup → Paired (fun (t : Addr) (p : List V) => putG H as ps t = some (.tup p)) as ps
  | [], [], _, _, _ => .nil
  | [], _ :: _, _, h, _ => by cases h
  | _ :: _, [], _, h, _ => by cases h
  | a :: as, p :: ps, H, h, hn => by
    have hn' := List.nodup_cons.mp hn
    have ih := putG_at as ps (upd H a (.tup p)) (Nat.succ.inj h) hn'.2
    refine .cons ?_ ih
    show putG (upd H a (.tup p)) as ps a = some (.tup p)
    rw [putG_off as ps _ hn'.1, upd_same]
section
variable {X : Cx}
def rListItT : List V → Hp → VK → Prop := fun xs H Q => ∃ (p a : Addr) (kvs : List (List L2.Key × V)), xs = [.ref p] ∧ H p = some (itemsO p a) ∧ H a = some (.dT kvs) ∧
  ∀ (H' : Hp) (l : Addr) (ts : List Addr), (∀ b o, H b = some o → H' b = some o) → H l = none → H' l = some (.lst (ts.map V.ref)) → Paired (PairT H') ts kvs → Q (.ref l) H'
theorem paired_of {α β : Type} {F : α → β → Prop} : ∀ (xs : List α) (ys : List β), xs.length = ys.length → (∀ (j : Nat) x y, xs[j]? = some x → ys[j]? = some y → F x y) → Paired F xs ys
  | [], [], _, _ => .nil
  | [], _ :: _, h, _ => by cases h
  | _ :: _, [], h, _ => by cases h
  | x :: xs, y :: ys, h, f => .cons (f 0 x y rfl rfl) (paired_of xs ys (Nat.succ.inj h) fun j a b e1 e2 => f (j + 1) a b e1 e2)
theorem call_listItT (hc : X.calm = true) : CallR X (.type "list") rListItT := by
  intro pins s σ H xs us Q I r h
  obtain ⟨p, a, kvs, rfl, hp, ha, q⟩ := h
  obtain ⟨u, rfl, rx⟩ := r.one
  obtain rfl : u = Value.ref p := rx
  have hv : s.heap.IsItemsView p a := (I.hok p _ hp).1
  obtain ⟨z, hd, ys, rel, o, es, ep, ho, hx, hdat, hes, hnd⟩ := (show ObjOk X.prog X.w H s.heap a (.dT kvs) from I.hok a _ ha)
  have lk : kvs.length = ys.length := Paired.length rel
  have sz : es.size = ys.length := by rw [← Array.length_toList, hes, List.length_map]
  refine DT.callListI (es := es) (ep := ep) (I.ok.hd hc) hv ⟨o, ho, hx, hdat⟩ (by omega) fun h' tk acc c as hk hS hl hG hacc => ?_
  have hSn : s.heap.objs.size ∉ as := fun y => Nat.lt_irrefl _ (hG.above _ y)
  have nd : as.Nodup := List.Pairwise.imp (fun {a b} (h : a < b) => Nat.ne_of_lt h) hG.rise
  have new : ∀ t ∈ as, H t = none := fun t ht => I.hok.fresh (Nat.le_of_lt (hG.above t ht))
  have newS : H s.heap.objs.size = none := I.hok.fresh (Nat.le_refl _)
  have lv : as.length = ((kvs.zip ys).map fun z => [V.ref z.2.2.1, z.1.2]).length := by rw [List.length_map, List.length_zip, ← lk, Nat.min_self, hl, sz, lk]
  have atP := putG_at as ((kvs.zip ys).map fun z => [V.ref z.2.2.1, z.1.2]) (upd H s.heap.objs.size (.lst (as.map V.ref))) lv nd
  generalize hH : putG (upd H s.heap.objs.size (.lst (as.map V.ref))) as ((kvs.zip ys).map fun z => [V.ref z.2.2.1, z.1.2]) = H' at atP
  have off : ∀ b, b ∉ as → b ≠ s.heap.objs.size → H' b = H b := fun b h1 h2 => by rw [← hH, putG_off as _ _ h1, upd_ne h2]
  have low : ∀ b o, s.heap.get? b = some o → b ∉ as ∧ b ≠ s.heap.objs.size := fun b o e => ⟨fun y => absurd (Heap.lt_size e) (Nat.not_lt.mpr (Nat.le_of_lt (hG.above b y))), Nat.ne_of_lt (Heap.lt_size e)⟩
  have kp : ∀ b u, H b = some u → H' b = some u := fun b u e => by
    rw [off b (fun y => by rw [new b y] at e; cases e) (fun y => by rw [y, newS] at e; cases e)]
    exact e
  have eS : H' s.heap.objs.size = some (.lst (as.map V.ref)) := by rw [← hH, putG_off as _ _ hSn, upd_same]
  -- the j-th entry
  have ent : ∀ (j : Nat) (t : Addr), as[j]? = some t → ∃ kv y, kvs[j]? = some kv ∧ ys[j]? = some y ∧ kv.1 = y.1 ∧ H y.2.1 = some (.tup (kv.1.map kV)) ∧ RelV kv.2 y.2.2 ∧ H' t = some (.tup [.ref y.2.1, kv.2]) ∧ h'.get? t = some { cls := .type "tuple", data := .seq #[.ref y.2.1, y.2.2] } := fun j t hj => by
    obtain ⟨e, e1, e2⟩ := hG.pairs j t hj
    have hjl : j < ys.length := by
      have := (List.getElem?_eq_some_iff.mp hj).1
      omega
    have ey : ys[j]? = some ys[j] := List.getElem?_eq_getElem hjl
    obtain ⟨kv, ek, f1, f2, f3⟩ := pget rel ey
    obtain ⟨pz, g1, g2⟩ := LiI.paired_get atP hj
    rw [List.getElem?_map] at g1
    have ez : (kvs.zip ys)[j]? = some (kv, ys[j]) := List.getElem?_zip_eq_some.mpr ⟨ek, ey⟩
    rw [ez] at g1
    have g1' := Option.some.inj g1
    have ee : e = entryOfKey (tupleKind (mixKind X.prog X.w)) ys[j] := by
      have q1 : es.toList[j]? = some e := by rw [Array.getElem?_toList]; exact e1
      rw [hes, List.getElem?_map, ey] at q1
      exact (Option.some.inj q1).symm
    subst ee
    refine ⟨kv, ys[j], ek, ey, f1, f2, f3, ?_, e2⟩
    rw [g2, ← g1']
  have J : Inv X pins σ H' { s with heap := h', toks := tk } := by
    refine I.call' (ch := []) rfl ⟨fun b o q _ _ _ => hk b o q, fun b o q _ _ _ => ⟨o.slots, hk b o q⟩, fun b o q n _ => ?_, fun b o q _ => ⟨o, hk b o q⟩, fun b xs q => kp b _ q, fun b o u q => kp b _ q, fun b ps q => ⟨#[], by rw [kp b _ q]; simp⟩⟩ (fun b u q => ?_) I.bare fun b z => by simp at z
    · obtain ⟨z1, z2⟩ := low b o q
      rw [off b z1 z2]
      exact n
    · by_cases hb : b ∈ as
      · obtain ⟨j, hj⟩ := List.mem_iff_getElem?.mp hb
        obtain ⟨kv, y, _, _, _, _, f3, g, e2⟩ := ent j b hj
        rw [g] at q
        cases q
        exact ⟨by show 2 ≤ sizeLine; decide, [.ref y.2.1, y.2.2], .cons rfl (.cons f3 .nil), ⟨_, e2, rfl, _, rfl⟩⟩
      · by_cases hb2 : b = s.heap.objs.size
        · rw [hb2] at q ⊢
          rw [eS] at q
          cases q
          refine ⟨by rw [List.length_map]; omega, acc.toList, c, by rw [hacc]; exact LiI.vals_refs as, ?_⟩
          rw [Array.toArray_toList]
          exact hS
        · rw [off b hb hb2] at q
          exact (I.hok b u q).stay (fun d v _ y => hk d v y) (fun d y => kp d _ y) fun d xs y => kp d _ y
  refine ⟨.ref _, H', J, rfl, q H' _ as kp newS eS (paired_of as kvs (by omega) fun j t kv hj hk2 => ?_)⟩
  obtain ⟨kv', y, e1, _, e3, e4, _, g, _⟩ := ent j t hj
  rw [e1] at hk2
  cases hk2
  exact ⟨y.2.1, g, kp _ _ e4⟩
end
end Dl
set_option Elab.async false
set_option linter.all false
set_option maxRecDepth 100000
set_option maxHeartbeats 2000000
/-! a tuple whose object is known; dict of a tuple of pairs, keys tuples -/
namespace Dl
open PySem PySem.Spec PyProof.Rows L2 L2.DX GxR Gx LiI
/-- a plain tuple's object -/
def TupO (o : Obj) : Prop := o.cls = .type "tuple" ∧ o.dict = none
section
variable {X : Cx}
theorem call_tupleF : CallR X (.type "tuple") (fun xs H Q => ∃ p ys, xs = [.ref p] ∧ SqL X.K H p ys ∧ ∀ l o, TupO o → H l = none → Q (.ref l) (upd H l (.frz o (.tup ys)))) := by
  intro pins s σ H xs us Q I r h
  obtain ⟨p, ys, rfl, hq, q⟩ := h
  obtain ⟨u, rfl, rx⟩ := r.one
  obtain rfl : u = Value.ref p := rx
  obtain ⟨its, r', pl, hz⟩ := I.list hq
  have hlen := r'.length
  refine call_tuple_list pl.isList (fun h' kp => ?_) (by simp only [List.size_toArray] <;> omega)
  have I1 : Inv X pins σ H { s with heap := h' } := I.kept (t' := s.toks) kp
  have I2 : Inv X pins σ (upd H h'.objs.size (.frz { cls := .type "tuple", data := .seq its.toArray } (.tup ys))) { s with heap := h'.push { cls := .type "tuple", data := .seq its.toArray } } :=
    I1.laid (t' := s.toks) (fun b o e => Heap.get?_push_of_some _ e) (Nat.le_refl _) (show ObjOk X.prog X.w _ _ _ (.frz _ (.tup ys)) from ⟨Heap.get?_push_size _ rfl, hz, its, r', IsTup.new _ _⟩)
  exact ⟨.ref h'.objs.size, _, I2, rfl, q _ _ ⟨rfl, rfl⟩ (I1.hok.fresh (Nat.le_refl _))⟩
theorem pairs_ofT {pins : List (Addr × Obj)} {σ : L2.St} {H : Hp} {s : Shared} (I : Inv X pins σ H s) : ∀ {ts : List Addr} {kvs : List (List L2.Key × V)}, Paired (PairT H) ts kvs →
    ∃ xs : List (List L2.Key × Addr × Value), Paired (fun (p : List L2.Key × V) (q : List L2.Key × Addr × Value) => p.1 = q.1 ∧ H q.2.1 = some (.tup (p.1.map kV)) ∧ RelV p.2 q.2.2) kvs xs ∧ xs.length = ts.length ∧
      ∀ (j : Nat) (q : List L2.Key × Addr × Value), xs[j]? = some q → ∃ t, ts[j]? = some t ∧ IsTup s.heap t #[.ref q.2.1, q.2.2]
  | _, _, .nil => ⟨[], .nil, rfl, fun j q e => by simp at e⟩
  | _, _, .cons (a := t) (b := kv) h r => by
    obtain ⟨xs, r1, hl, hp⟩ := pairs_ofT I r
    obtain ⟨b, h1, h2⟩ := h
    obtain ⟨_, its, rv, ht⟩ := (show ObjOk X.prog X.w H s.heap t (.tup [.ref b, kv.2]) from I.hok t _ h1)
    obtain ⟨u, y, ei, ru, ry⟩ := vals2 rv
    subst ei
    obtain rfl : u = Value.ref b := ru
    refine ⟨(kv.1, b, y) :: xs, .cons ⟨rfl, h2, ry⟩ r1, by rw [List.length_cons, List.length_cons, hl], fun j q e => ?_⟩
    cases j with
    | zero =>
      have e' := Option.some.inj e
      subst e'
      exact ⟨t, rfl, ht⟩
    | succ j =>
      obtain ⟨t', e1, e2⟩ := hp j q (by simpa using e)
      exact ⟨t', by simpa using e1, e2⟩
theorem keys_eq {H : Hp} : ∀ {kvs : List (List L2.Key × V)} {xs : List (List L2.Key × Addr × Value)}, Paired (fun (p : List L2.Key × V) (q : List L2.Key × Addr × Value) => p.1 = q.1 ∧ H q.2.1 = some (.tup (p.1.map kV)) ∧ RelV p.2 q.2.2) kvs xs → kvs.map (·.1) = xs.map (·.1)
  | _, _, .nil => rfl
  | _, _, .cons h t => by rw [List.map_cons, List.map_cons, h.1, keys_eq t]
theorem dictPT {pins : List (Addr × Obj)} {σ : L2.St} {H : Hp} {s : Shared} {a : Addr} {o : Obj} {ts : List Addr} {kvs : List (List L2.Key × V)} {Q : VK} (hc : X.calm = true) (hu : X.A.units + 2 < cLine) (I : Inv X pins σ H s)
    (ha : H a = some (.frz o (.tup (ts.map V.ref)))) (ho : TupO o) (hp : Paired (PairT H) ts kvs) (nd : (kvs.map (·.1)).Nodup)
    (q : ∀ (p : Addr) (s' : Shared) (o' : Obj), H p = none → Inv X pins σ (upd H p (.dT kvs)) s' → Inv X pins σ (upd H p (.frz o' (.dT kvs))) s' → EP X pins σ Q (.ref p) s') :
    wpAny (model X.prog X.w) X.A (call (.type "dict") [.ref a]) (EP X pins σ Q) X.xe s := by
  obtain ⟨hga, hz, its, rv, ob, ga, hcls, n, hdat⟩ := (show ObjOk X.prog X.w H s.heap a (.frz o (.tup (ts.map V.ref))) from I.hok a _ ha)
  rw [hga] at ga
  cases ga
  have ei := refs_at rv
  subst ei
  rw [List.length_map] at hz
  obtain ⟨xs, rel, hl, hps⟩ := pairs_ofT I hp
  have ke := keys_eq rel
  have hlk : kvs.length = xs.length := Paired.length rel
  refine call_dict_pairsH (knd := tupleKind (mixKind X.prog X.w)) (ps := xs) (PairArg.tuple a (ts.map Value.ref).toArray (fun j => ts.getD j 0) (xs.map fun x => (Value.ref x.2.1, x.2.2))) (I.ok.hd hc) hu
    ⟨⟨o, n, hga, hcls, ho.2, hdat⟩, by simp [hl], fun j k v e => ?_⟩ ⟨by rw [List.length_map], fun i k v e => ?_⟩ (fun h' hk x hx => ?_) (by rw [List.length_map, hl]; exact hz) fun h' tk hd' hk => ?_
  · rw [List.getElem?_map] at e
    obtain ⟨x, ex, e2⟩ := Option.map_eq_some_iff.mp e
    cases e2
    obtain ⟨t, et, ht⟩ := hps j x ex
    refine ⟨by simp [et], .inl ?_⟩
    have : ts.getD j 0 = t := by rw [List.getD_eq_getElem?_getD, et]; rfl
    show s.heap.IsTuple (ts.getD j 0) _
    rw [this]
    obtain ⟨ob2, g1, g2, n2, g3⟩ := ht
    exact ⟨ob2, g1, g2, n2, g3⟩
  · have e : (xs.map fun x => (Value.ref x.2.1, x.2.2))[i]? = some (k, v) := e
    rw [List.getElem?_map] at e
    obtain ⟨x, ex, e2⟩ := Option.map_eq_some_iff.mp e
    cases e2
    exact ⟨x.1, x.2.1, ex, rfl⟩
  · obtain ⟨j, hj⟩ := List.mem_iff_getElem?.mp hx
    obtain ⟨kv, _, f1, f2, _⟩ := pget rel hj
    have hok' : HOk X.prog X.w H h' := I.hok.kept fun b u e => hk b u (Nat.ne_of_lt (Heap.lt_size e)) (by simp) e
    rw [← f1]
    exact key_of hok' f2
  · have nx : storedAllH [] xs = xs := storedAllH_nil_of_nodup xs (by rw [← ke]; exact nd)
    rw [nx] at hd'
    obtain ⟨od, es, ep, h1, h2, h3, h4, _, h5⟩ := hd'
    have hm : (s.heap.objs.size == sysModules) = false := beq_eq_false_iff_ne.mpr (Nat.ne_of_gt I.big)
    have hf : H s.heap.objs.size = none := I.hok.fresh (Nat.le_refl _)
    have kept : ∀ (u : HO), Paired (fun (p : List L2.Key × V) (q : List L2.Key × Addr × Value) => p.1 = q.1 ∧ upd H s.heap.objs.size u q.2.1 = some (.tup (p.1.map kV)) ∧ RelV p.2 q.2.2) kvs xs := fun u => Paired.mapP rel fun p q z => ⟨z.1, by rw [upd_ne (ne_of_none z.2.1 hf)]; exact z.2.1, z.2.2⟩
    have base : ∀ u : HO, kvs.length ≤ sizeLine ∧ (s.heap.objs.size == sysModules) = false ∧ ∃ xs : List (List L2.Key × Addr × Value), Paired (fun (p : List L2.Key × V) (q : List L2.Key × Addr × Value) => p.1 = q.1 ∧ upd H s.heap.objs.size u q.2.1 = some (.tup (p.1.map kV)) ∧ RelV p.2 q.2.2) kvs xs ∧
        ∃ o es ep, h'.get? s.heap.objs.size = some o ∧ o.ExactDict ∧ o.data = .dict es ep ∧ es.toList = xs.map (entryOfKey (tupleKind (mixKind X.prog X.w))) ∧ (xs.map (·.1)).Nodup := fun u => ⟨by rw [hlk, hl]; exact hz, hm, xs, kept u, od, es, ep, h1, h2, h3, h4, h5⟩
    have kp : ∀ b o, s.heap.get? b = some o → h'.get? b = some o := fun b o e => hk b o (by simp) e
    have J1 : Inv X pins σ (upd H s.heap.objs.size (.dT kvs)) { s with heap := h', toks := tk } := I.laid (t' := tk) kp (Nat.le_refl _) (show ObjOk X.prog X.w _ _ _ (.dT kvs) from base _)
    have J2 : Inv X pins σ (upd H s.heap.objs.size (.frz od (.dT kvs))) { s with heap := h', toks := tk } := I.laid (t' := tk) kp (Nat.le_refl _) (show ObjOk X.prog X.w _ _ _ (.frz od (.dT kvs)) from ⟨h1, base _⟩)
    exact q _ _ od hf J1 J2
/-- dict(t), t a known tuple of pairs with unlike keys -/
def rDictPT : List V → Hp → VK → Prop := fun vs H Q => ∃ (a : Addr) (o : Obj) (ts : List Addr) (kvs : List (List L2.Key × V)), vs = [.ref a] ∧ H a = some (.frz o (.tup (ts.map V.ref))) ∧ TupO o ∧ Paired (PairT H) ts kvs ∧ (kvs.map (·.1)).Nodup ∧ ∀ p, H p = none → Q (.ref p) (upd H p (.dT kvs))
def rDictPF : List V → Hp → VK → Prop := fun vs H Q => ∃ (a : Addr) (o : Obj) (ts : List Addr) (kvs : List (List L2.Key × V)), vs = [.ref a] ∧ H a = some (.frz o (.tup (ts.map V.ref))) ∧ TupO o ∧ Paired (PairT H) ts kvs ∧ (kvs.map (·.1)).Nodup ∧ ∀ p o, H p = none → Q (.ref p) (upd H p (.frz o (.dT kvs)))
theorem call_dictPT (hc : X.calm = true) (hu : X.A.units + 2 < cLine) : CallR X (.type "dict") rDictPT := by
  intro pins s σ H xs us Q I r h
  obtain ⟨a, o, ts, kvs, rfl, ha, ho, hp, nd, q⟩ := h
  obtain ⟨u, rfl, rx⟩ := r.one
  obtain rfl : u = Value.ref a := rx
  exact dictPT hc hu I ha ho hp nd fun p s' o' hf J1 _ => ⟨.ref p, _, J1, rfl, q p hf⟩
theorem call_dictPF (hc : X.calm = true) (hu : X.A.units + 2 < cLine) : CallR X (.type "dict") rDictPF := by
  intro pins s σ H xs us Q I r h
  obtain ⟨a, o, ts, kvs, rfl, ha, ho, hp, nd, q⟩ := h
  obtain ⟨u, rfl, rx⟩ := r.one
  obtain rfl : u = Value.ref a := rx
  exact dictPT hc hu I ha ho hp nd fun p s' o' hf _ J2 => ⟨.ref p, _, J2, rfl, q p o' hf⟩
end
end Dl
set_option Elab.async false
set_option linter.all false
set_option maxRecDepth 100000
set_option maxHeartbeats 2000000
/-! d.values() of a known dict, keys tuples -/
namespace DT
open PySem PySem.W PySem.Calls PyProof.Rows PyProof.V PySem.Spec
section
variable {prog : Program} {w : World} {A : Around} {E : Value → Shared → Prop} {s : Shared}
theorem meetsValues {d : Addr} {es : Array DictEntry} {ep : Nat} (hd : (d == sysModules) = false) :
    MeetsIn prog w (Builtin.«dict.values» ⟨[.ref d], []⟩) (fun _ R s => Raw s.heap d es ep ∧
      R (.ok (.ret (.ref s.heap.objs.size))) { s with heap := s.heap.push { cls := .type "dict_values", data := .fields #[.ref d] } }) :=
  .of_wp fun A R s ⟨hm, h⟩ => by
    unfold Builtin.«dict.values»
    refine wpAny_bind ?_
    unfold Builtin.Dict.noArgs
    refine wpAny_bind (wpAny_notOrdered_dict hm.typeIs ?_)
    show wpAny _ _ (pure d) _ _ s
    refine wpAny_pure ?_
    show wpAny _ _ (Builtin.Dict.showsAll d >>= _) _ _ s
    unfold Builtin.Dict.showsAll
    rw [if_neg (by rw [hd]; exact Bool.false_ne_true)]
    refine wpAny_bind (wpAny_pure ?_)
    exact wpAny_bind (wpAny_newObj_type (wpAny_pure ⟨_, rfl, h⟩))
end
end DT
namespace Dl
open PySem PySem.Spec PyProof.Rows L2 L2.DX GxR Gx LiI
/-- the values of the known dict at d, keys tuples -/
def ItdT (d : Addr) (o : Obj) (kvs : List (List L2.Key × V)) : It :=
  ⟨fun i H => H d = some (.frz o (.dT kvs)) ∧ i < kvs.length, fun i H x H' => H' = H ∧ ∃ k, kvs[i]? = some (k, x), fun i H => H d = some (.frz o (.dT kvs)) ∧ kvs.length ≤ i⟩
section
variable {P : Program} {w : World} {K : PySem.W.Frag} {X : Cx} {pins : List (Addr × Obj)} {σ : L2.St} {H : Hp} {s : Shared} {d : Addr} {o : Obj} {tg : Expr} {es : Array DictEntry} {ep : Nat}
theorem frzTV {kvs : List (List L2.Key × V)} (I : Inv X pins σ H s) (h : H d = some (.frz o (.dT kvs))) :
    (d == sysModules) = false ∧ s.heap.get? d = some o ∧ o.ExactDict ∧ ∃ (es : Array DictEntry) (ep : Nat), o.data = .dict es ep ∧ es.size = kvs.length ∧
      ∀ (i : Nat) (k : List L2.Key) (v : V), kvs[i]? = some (k, v) → ∃ (en : DictEntry), es[i]? = some en ∧ RelV v en.val := by
  obtain ⟨hd, z, hs, xs, pr, o', es, ep, ho, hx, hdt, he, _⟩ := I.hok d _ h
  rw [hd] at ho
  cases ho
  have l2 : kvs.length = xs.length := Paired.length pr
  refine ⟨hs, hd, hx, es, ep, hdt, by rw [← Array.length_toList, he, List.length_map, l2], fun i k v e => ?_⟩
  obtain ⟨b, hb, e1, e2, e3⟩ := LiI.paired_get pr e
  refine ⟨entryOfKey (tupleKind (mixKind X.prog X.w)) b, ?_, e3⟩
  rw [← Array.getElem?_toList, he, List.getElem?_map, hb]
  rfl
theorem turn_valsT {kvs : List (List L2.Key × V)} (it : Addr) (hod : o.data = .dict es ep) : Turn P w K tg (ItdT d o kvs) [it] it (fun i h => h.get? it = some (DVw.valOb d i kvs.length ep)) where
  mem := by simp
  obj := fun i h st b hb => by
    have e : b = it := by simpa using hb
    subst e
    exact ⟨_, st, fun v z => by cases z⟩
  keep := fun i h h' st k => k it (by simp) _ st
  item := by
    intro X hP hw hK hc i pins s σ H E I hf st hg
    subst hP hw hK
    obtain ⟨hd, hi⟩ := hg
    obtain ⟨f0, f1, f2, f3, f4, f5⟩ := hf it (by simp)
    obtain ⟨hs, hgd, hx, es', ep', hdt, hsz, ent⟩ := frzTV I hd
    obtain ⟨rfl, rfl⟩ := dict_ep hod hdt
    obtain ⟨⟨k, v⟩, hkv⟩ : ∃ p, kvs[i]? = some p := ⟨kvs[i], List.getElem?_eq_getElem hi⟩
    obtain ⟨en, hen, ru⟩ := ent i k v hkv
    refine DVw.val_item st hgd hdt hsz hen fun h' st' sb => ?_
    have I1 : Inv X pins σ H { s with heap := h' } := I.turned (t' := s.toks) (fun b ob hb e => (sb.2 b hb).trans e) f0 f1 f3 f4 f5
    exact ⟨en.val, rfl, go_of (s := { s with heap := h' }) st' rfl rfl (by decide) ⟨v, H, I1, ru, ⟨rfl, k, hkv⟩, st', fun b hb => (hf b hb).1⟩⟩
  done := by
    intro X hP hw hK hc i pins s σ H E I hf st hg
    subst hP hw hK
    obtain ⟨hd, hi⟩ := hg
    obtain ⟨f0, f1, f2, f3, f4, f5⟩ := hf it (by simp)
    obtain ⟨hs, hgd, hx, es', ep', hdt, hsz, ent⟩ := frzTV I hd
    obtain ⟨rfl, rfl⟩ := dict_ep hod hdt
    exact DVw.val_end (I.ok.hd hc) st hgd hdt hsz (Array.getElem?_eq_none (by omega)) fun h' eb => ⟨rfl, I.turned (t' := s.toks) (fun b ob hb e => eb b ob hb e) f0 f1 f3 f4 f5⟩
  self := fun A i s Q E st h => wpAny_pyIter_valiter (show s.heap.IsValIter it d i kvs.length ep from ⟨_, st, rfl, rfl⟩) h
def iValsT (td : TE) : TI := fun σ H R => td σ H fun x H1 => ∃ d o kvs, x = .ref d ∧ H1 d = some (.frz o (.dT kvs)) ∧ R (ItdT d o kvs) H1
theorem pi_valuesT {e : Expr} {td : TE} {apos cpos : Pos} (he : PE X e td) (hbase : attributeBase e "values" X.env (eval e X.env) = eval e X.env := by rfl) (hline : (apos.endLine == cpos.line) = true := by rfl) : PI X tg (.Call (.Attribute e "values" apos) [] [] cpos) (iValsT td) := by
  refine ⟨fun pins s σ H R I h => ?_⟩
  refine wpAny_Call_method (T := "dict") (id := "dict.values") hbase rfl hline F.plainAttrs_dict F.slot_dict_values F.type_dict_values (thn (he.run pins s σ H _ I h) fun u s1 ⟨x, H1, I1, rx, d, o, kvs, ex, hd, q⟩ => ?_)
  subst ex
  obtain rfl : u = Value.ref d := rx
  obtain ⟨hs, hgd, hx, es, ep, hdt, hsz, ent⟩ := frzTV I1 hd
  have hT : s1.TypeIs (.ref d) "dict" := ⟨o, hgd, hx.1⟩
  refine ⟨hT, fun b e => (by cases e; exact ⟨o, hgd, hx.2.1⟩), ?_⟩
  have I2 : Inv X pins σ H1 { s1 with heap := s1.heap.push { cls := .type "dict_values", data := .fields #[.ref d] } } := I1.kept (t' := s1.toks) fun b ob q => Heap.get?_push_of_some _ q
  have fin : wpAny (model X.prog X.w) X.A (pyIter (.ref s1.heap.objs.size)) (PIE X pins σ tg R) X.xe { s1 with heap := s1.heap.push { cls := .type "dict_values", data := .fields #[.ref d] } } := by
    refine DSub.iter_vals (a := d) (ob := o) (es := es) (ep := ep) (Heap.get?_push_size _ rfl) (Heap.get?_push_of_some _ hgd) hdt (pi_one (tk := s1.toks) I2 _ (turn_valsT _ hdt) ?_ q)
    rw [← hsz]
    exact Heap.get?_push_size _ rfl
  show wpAny _ _ (callWith cpos (.builtin "dict.values") [.ref d] [] []) _ X.xe s1
  exact method_meetsIn F.slot_dict_values F.entry_dict_values rfl (PySem.evalArgs_none ⟨rfl, hT, F.args_dict_values_1 _, _, DT.meetsValues (es := es) (ep := ep) hs, ⟨⟨o, hgd, hx, hdt⟩, fin⟩⟩)
end
end Dl
set_option Elab.async false
set_option linter.all false
set_option maxRecDepth 100000
set_option maxHeartbeats 2000000
/-! sorted: the items' relation is kept; of a tuple of texts -/
namespace Dl
open PySem PySem.Spec PyProof.Rows L2 L2.DX GxR Gx LiI
theorem paired_zip {R : V → PyData → Prop} : ∀ {xs : List V} {ds : List PyData}, Paired R xs ds → ∀ b ∈ xs.zip ds, R b.1 b.2
  | _, _, .nil, b, h => by simp at h
  | _, _, .cons a r, b, h => by
    rw [List.zip_cons_cons, List.mem_cons] at h
    rcases h with h | h
    · rw [h]; exact a
    · exact paired_zip r b h
theorem paired_unzip {R : V → PyData → Prop} : ∀ {bs : List (V × PyData)}, (∀ b ∈ bs, R b.1 b.2) → Paired R (bs.map Prod.fst) (bs.map Prod.snd)
  | [], _ => .nil
  | b :: r, h => .cons (h b List.mem_cons_self) (paired_unzip fun b hb => h b (List.mem_cons_of_mem _ hb))
section
variable {X : Cx}
def rSortedR (K : PySem.W.Frag) : List V → Hp → VK → Prop := fun vs H Q => ∃ (a : Addr) (xs : List V) (ds : List PyData), vs = [.ref a] ∧ SqL K H a xs ∧ DpAll K H xs ds ∧ PySem.W.AllAlike ds ∧ PySem.W.Sortable ds ∧ (∀ d ∈ ds, d.depth ≤ 60) ∧
  ∀ ys p, (∀ R : V → PyData → Prop, Paired R xs ds → Paired R ys (sortD ds)) → H p = none → Q (.ref p) (upd H p (.lst ys))
/-- sorted(xs), xs a list of data -/
theorem cr_sortedR (hu : X.A.units + 64 < cLine) : CallR X (.builtin "sorted") (rSortedR X.K) := by
  intro pins s σ H vs us Q I r h
  obtain ⟨a, xs, ds, rfl, hs, hd, hal, hso, hdp, q⟩ := h
  obtain ⟨its, rv, hl, hz⟩ := I.list hs
  rw [Vals.ref1 r]
  have ez := zip_snd hd
  have lz : (xs.zip ds).length = xs.length := by rw [List.length_zip, ← dpA_len hd, Nat.min_self]
  refine PySem.W.sorted_data (enc := Prod.snd) hl.isList (each_zip hd rv) (each_reads I hd rv) (by rw [ez]; exact hal) (by rw [ez]; exact hso) (by rw [lz]; exact hz) (fun b hb => ?_) fun out hlen he => ?_
  · have hm : b.2 ∈ ds := by rw [← ez]; exact List.mem_map.mpr ⟨b, hb, rfl⟩
    have := hdp _ hm
    omega
  · obtain ⟨ep, hat⟩ := PyProof.Rows.sortedAll_at s.heap its out.toArray
    have perm := List.mergeSort_perm (xs.zip ds) (PySem.W.dataLe false Prod.snd)
    have hys : ∀ R : V → PyData → Prop, Paired R xs ds → Paired R (((xs.zip ds).mergeSort (PySem.W.dataLe false Prod.snd)).map Prod.fst) (sortD ds) := fun R hR => by
      have z := paired_unzip (R := R) (bs := (xs.zip ds).mergeSort (PySem.W.dataLe false Prod.snd)) fun b hb => paired_zip hR b (perm.mem_iff.mp hb)
      rwa [sort_snd, ez] at z
    have hll : (((xs.zip ds).mergeSort (PySem.W.dataLe false Prod.snd)).map Prod.fst).length ≤ sizeLine := by
      rw [List.length_map, perm.length_eq, lz]
      exact hz
    exact ⟨.ref _, upd H (s.heap.objs.size + 1) (.lst (((xs.zip ds).mergeSort (PySem.W.dataLe false Prod.snd)).map Prod.fst)), I.laid (t' := s.toks) (fun _ _ => PyProof.Rows.sortedAll_old) (Nat.le_succ _) ⟨hll, out, ep, each_vals he, hat⟩, rfl, q _ _ hys (I.hok.fresh (Nat.le_succ _))⟩
theorem each_str {h : Heap} {n : Addr} : ∀ {us : List Value} {xs : List Str}, Vals (xs.map V.str) us → PySem.W.EachIs (fun v (b : V × PyData) => ∃ as, Reads h v b.2 as ∧ n ∉ as) us ((xs.map V.str).zip (xs.map PyData.str))
  | _, [], .nil => .nil
  | _, x :: xs, .cons a r => by
    obtain ⟨t, rfl⟩ := a
    exact .cons ⟨[], .str x t, by simp⟩ (each_str r)
def rSortedTS (K : PySem.W.Frag) : List V → Hp → VK → Prop := fun vs H Q => ∃ (a : Addr) (xs : List Str), vs = [.ref a] ∧ SqT K H a (xs.map V.str) ∧ ∀ (ys : List Str) (p : Addr), (ys.map PyData.str) = sortD (xs.map PyData.str) → H p = none → Q (.ref p) (upd H p (.lst (ys.map V.str)))
theorem dp_strs {K : PySem.W.Frag} {H : Hp} : ∀ xs : List Str, DpAll K H (xs.map V.str) (xs.map PyData.str)
  | [] => .nil
  | x :: xs => .cons (.str x) (dp_strs xs)
theorem srtStr (xs : List Str) : ∃ ys : List Str, ys.Perm xs ∧ ys.map PyData.str = sortD (xs.map PyData.str) :=
  ⟨xs.mergeSort fun a b => PySem.W.dataLe false (fun d => d) (.str a) (.str b), List.mergeSort_perm _ _, PySem.W.sort_maps PyData.str fun a _ b _ => rfl⟩
theorem dp_strs_inv {K : PySem.W.Frag} {H : Hp} : ∀ {vs : List V} {xs : List Str}, DpAll K H vs (xs.map PyData.str) → vs = xs.map V.str
  | _, [], .nil => rfl
  | _, x :: xs, .cons a r => by
    rw [dp_str a, dp_strs_inv r]
    rfl
/-- sorted(t), t a tuple of texts -/
theorem cr_sortedTS (hu : X.A.units + 64 < cLine) : CallR X (.builtin "sorted") (rSortedTS X.K) := by
  intro pins s σ H vs us Q I r h
  obtain ⟨a, xs, rfl, hs, q⟩ := h
  obtain ⟨u, rfl, rx⟩ := r.one
  obtain rfl : u = Value.ref a := rx
  obtain ⟨its, rv, ⟨o, ho, hc, n, hdat⟩, hz⟩ := I.tuple hs
  have hl := rv.length
  refine Calls.call_function_entry PyProof.Rows.kind_sorted PyProof.Rows.plain_sorted PyProof.Rows.entry_sorted (PyProof.Rows.args_sorted1 _) ?_
  unfold Builtin.«sorted»
  refine wpAny_bind (m := checkCount "sorted" 1 1 _) (wpAny_pure ?_)
  refine wpAny_bind (wpAny_collect_seq (A := X.A.in1) a (.inr rfl) ho hc hdat (fun h' hk => ?_) (by rw [List.size_toArray]; omega))
  have eq1 : its.toArray.toList = its := by simp
  rw [eq1]
  have I1 : Inv X pins σ H { s with heap := h' } := I.kept (t' := s.toks) hk
  refine wpAny_bind (wpAny_newList ?_ (by omega))
  have hoL : (h'.push (seqObj "list" its.toArray 0)).get? h'.objs.size = some (seqObj "list" its.toArray 0) := Heap.get?_push_size _ rfl
  show wpAny _ _ _ _ _ { s with heap := h'.push (seqObj "list" its.toArray 0) }
  have hd1 : DpAll X.K H (xs.map V.str) (xs.map PyData.str) := dp_strs xs
  have ez := zip_snd hd1
  have lz : ((xs.map V.str).zip (xs.map PyData.str)).length = xs.length := by simp
  have hlx : (xs.map V.str).length = xs.length := List.length_map _
  refine wpAny_bind (wpAny_holding (PySem.W.list_sort_data (s := { s with heap := h'.push (seqObj "list" its.toArray 0) }) (enc := Prod.snd) hoL (each_zip hd1 rv) (each_str rv) (by
      rw [ez]
      intro d hd d' hd'
      obtain ⟨x, _, rfl⟩ := List.mem_map.mp hd
      obtain ⟨x', _, rfl⟩ := List.mem_map.mp hd'
      rfl) (by
      rw [ez]
      refine .inr fun d hd => ?_
      obtain ⟨x, _, rfl⟩ := List.mem_map.mp hd
      exact ⟨fun z => (by cases z), fun xs z => (by cases z)⟩) (by rw [lz, ← hlx]; exact hz) (fun b hb => ?_) fun out hlen e => ?_))
  · have hm : b.2 ∈ xs.map PyData.str := by rw [← ez]; exact List.mem_map.mpr ⟨b, hb, rfl⟩
    obtain ⟨x, _, e⟩ := List.mem_map.mp hm
    rw [← e]
    have e1 : X.A.in1.units ≤ X.A.units + 1 := by first | exact Nat.le_refl _ | (simp [Around.in1]) | decide
    have e2 : (PyData.str x).depth = 0 := rfl
    omega
  · obtain ⟨e', he'⟩ := PyProof.Rows.sortedHeap_at (vs := its) (out := out.toArray) hoL
    have perm := List.mergeSort_perm ((xs.map V.str).zip (xs.map PyData.str)) (PySem.W.dataLe false Prod.snd)
    have hys := dp_unzip (K := X.K) (H := H) (bs := ((xs.map V.str).zip (xs.map PyData.str)).mergeSort (PySem.W.dataLe false Prod.snd)) fun b hb => zip_dp hd1 b (perm.mem_iff.mp hb)
    rw [sort_snd, ez] at hys
    obtain ⟨ys, _, hy⟩ := srtStr xs
    rw [← hy] at hys
    have ev := dp_strs_inv hys
    have hll : (ys.map V.str).length ≤ sizeLine := by
      rw [← ev, List.length_map, perm.length_eq, lz, ← hlx]
      exact hz
    have hv := each_vals e
    rw [ev] at hv
    refine wpAny_pure ⟨_, rfl, .ref h'.objs.size, upd H h'.objs.size (.lst (ys.map V.str)), I1.laid (t' := s.toks) (fun b u e => ?_) (Nat.le_refl _)
      ⟨hll, out, e', hv, he'⟩, rfl, q _ _ hy (I1.hok.fresh (Nat.le_refl _))⟩
    have hb : b < h'.objs.size := Heap.lt_size e
    rw [PyProof.Rows.sortedHeap_old (Nat.ne_of_lt hb) (by rw [size_push']; exact Nat.lt_succ_of_lt hb)]
    exact Heap.get?_push_of_some _ e
end
end Dl
set_option Elab.async false
set_option linter.all false
set_option maxRecDepth 100000
set_option maxHeartbeats 2000000
/-! {k: v for .. in .. for .. in .. for .. in ..}, the keys tracked tuples -/
namespace Gx
open PySem PySem.Spec PyProof.Rows L2
theorem d_dictSetT {X : Cx} {pins : List (Addr × Obj)} {σ : L2.St} {H : Hp} {s : Shared} {E : Value → Shared → Prop} {D b : Addr} {kvs : List (List L2.Key × V)} {k : List L2.Key} {v : V} {u r : Value} {Q : Unit → Shared → Prop} (hu : X.A.units < cLine) (I : Inv X pins σ H s) (hD : H D = some (.dT kvs)) (hb : H b = some (.tup (k.map kV))) (hz : kvs.length < sizeLine)
    (ry : RelV (V.ref b) u) (rv : RelV v r) (h : ∀ s', Inv X pins σ (upd H D (.dT (putK kvs k v))) s' → Q () s') : wpAny (model X.prog X.w) X.A (dictSet D u r) Q E s := by
  obtain rfl : u = Value.ref b := ry
  obtain ⟨z, hd, xs, rel, dd⟩ := dt_of I.hok hD
  have hl : (putK kvs k v).length ≤ sizeLine := by have := length_putK kvs k v; omega
  have hzx : xs.length ≤ sizeLine := by rw [← Paired.length rel]; exact z
  refine wpAny_dictSet_heap (hsz := hzx) hu (key_of I.hok hb) dd fun h' dd' hs => h _ ?_
  have he : ∃ q, h'.get? D = some q := let ⟨q, _, _, hq, _⟩ := dd'; ⟨q, hq⟩
  obtain ⟨o, es, ep, h1, h2, h3, h4, _, h5⟩ := dd'
  refine d_write I (by rw [hD]; exact True.intro) hs he ⟨hl, hd, _, (rel.put k hb rv).keeps (fun c ys ec => (by rw [upd_ne (ne_of ec hD (fun z => nomatch z))]; exact ec)), o, es, ep, h1, h2, h3, h4, h5⟩
abbrev dc3 (kx vx t0 i0 t1 i1 t2 i2 : Expr) (scope : Scope) (pos : Pos) : Expr := .DictComp kx vx [⟨t0, i0, [], 0⟩, ⟨t1, i1, [], 0⟩, ⟨t2, i2, [], 0⟩] scope pos
section
variable {kx vx t0 i0 t1 i1 t2 i2 : Expr} {scope : Scope} {pos : Pos}
/-- what the innermost turn leaves -/
abbrev Put3 (D : Addr) (tk tv : TE) (σ : L2.St) (H : Hp) (Nx : Hp → Prop) : Prop := tk σ H fun y H7 => tv σ H7 fun z H8 => ∃ kvs k b, y = .ref b ∧ H8 D = some (.dT kvs) ∧ H8 b = some (.tup (k.map kV)) ∧ kvs.length < sizeLine ∧ Nx (upd H8 D (.dT (putK kvs k z)))
/-- a walk within a walk -/
abbrev Walk3 (wi : TI) (g : TG) (vs : List Nat) (body : L2.St → Hp → (Hp → Prop) → Prop) (σ : L2.St) (H : Hp) (Nx : Hp → Prop) : Prop := wi σ H fun J H4 => ∃ W : Nat → Nat → Hp → Prop, (∃ m, W 0 m H4) ∧ ∀ j k H, W j k H →
  (J.stop j H ∧ Nx H) ∨ (J.go j H ∧ ∃ Nx1 : Hp → Prop, (∀ H', Nx1 H' → ∃ k', k' < k ∧ W (j + 1) k' H') ∧ ∀ x H', J.yld j H x H' → g x (wipe σ vs) H' fun σ3 H5 => wipe σ3 vs = wipe σ vs ∧ body σ3 H5 Nx1)
def tDc3 (wi : TI) (g : TG) (vs : List Nat) (wi1 : TI) (g1 : TG) (vs1 : List Nat) (wi2 : TI) (g2 : TG) (vs2 : List Nat) (tk tv : TE) : TE := fun σ H Q => wi σ H fun J H1 => ∀ D, H1 D = none → ∃ W : Nat → Nat → Hp → Prop, (∃ m, W 0 m (upd H1 D (.dT []))) ∧ ∀ i m H, W i m H →
  (J.stop i H ∧ Q (.ref D) H) ∨ (J.go i H ∧ ∃ Nx : Hp → Prop, (∀ H', Nx H' → ∃ m', m' < m ∧ W (i + 1) m' H') ∧ ∀ x H', J.yld i H x H' → g x (wipe σ vs) H' fun σ2 H2 => wipe σ2 vs = wipe σ vs ∧ Walk3 wi1 g1 vs1 (fun σ H Nx => Walk3 wi2 g2 vs2 (Put3 D tk tv) σ H Nx) σ2 H2 Nx)
/-- what a turn's rest does: from a state where body holds to one where Nx holds; other variables stay -/
def Rest (X : Cx) (vs : List Nat) (body : L2.St → Hp → (Hp → Prop) → Prop) (act : (Unit → Sem PySem.Fin) → Sem PySem.Fin) : Prop := ∀ (pins : List (Addr × Obj)) (σ : L2.St) (H : Hp) (s : Shared) (Nx : Hp → Prop) (K : Unit → Sem PySem.Fin) (Q : PySem.Fin → Shared → Prop), Inv X pins σ H s → body σ H Nx →
  (∀ s' σ' H', Inv X pins σ' H' s' → σ'.length = σ.length → (∀ (j : Nat) v, (wipe σ vs)[j]? = some (some v) → σ'[j]? = some (some v)) → Nx H' → wpAny (model X.prog X.w) X.A (K ()) Q (fun _ _ => False) s') → wpAny (model X.prog X.w) X.A (act K) Q (fun _ _ => False) s

abbrev act2 (kx vx t0 i0 t1 i1 t2 i2 : Expr) (scope : Scope) (pos : Pos) (D : Addr) (X : Cx) (K : Unit → Sem PySem.Fin) : Sem PySem.Fin := (do let kv ← eval kx X.env; let vv ← holding [kv] (eval vx X.env); standAt { kx.pos with endLine := vx.pos.endLine, endCol := vx.pos.endCol }; holding [kv, vv] (dictSet D kv vv)) >>= K
theorem loop2 {X : Cx} {pins : List (Addr × Obj)} {σ : L2.St} {H : Hp} {s : Shared} {D it : Addr} {fp : List Addr} {tn : Nat → Heap → Prop} {J : It} {g : TG} {vs vs' : List Nat} {W : Nat → Nat → Hp → Prop} {m0 : Nat} {Z : Hp → Prop} {body : L2.St → Hp → (Hp → Prop) → Prop}
    (hcalm : X.calm = true) (hxe : X.xe = fun _ _ => False) (T : Turn X.prog X.w X.K t2 J fp it tn) (pg : PG X t2 g) (rest : Rest X vs' body (act2 kx vx t0 i0 t1 i1 t2 i2 scope pos D X)) (hv : ∀ i ∈ vs', i ∈ vs)
    (I : Inv X pins σ H s) (st : tn 0 s.heap) (hf : ∀ b ∈ fp, FpOk X pins H b) (w0 : W 0 m0 H)
    (turn : ∀ i m H, W i m H → (J.stop i H ∧ Z H) ∨ (J.go i H ∧ ∃ Nx : Hp → Prop, (∀ H', Nx H' → ∃ m', m' < m ∧ W (i + 1) m' H') ∧ ∀ x H', J.yld i H x H' → g x (wipe σ vs) H' fun σ3 H5 => wipe σ3 vs = wipe σ vs ∧ body σ3 H5 Nx)) :
    codeAny (model X.prog X.w) X.A (.compLoop (dc3 kx vx t0 i0 t1 i1 t2 i2 scope pos) 2 (.ref it) (.ref D) X.env)
      (fun r s' => match r with | .ok f => f = .next ∧ ∃ H', Inv X pins (wipe σ vs) H' s' ∧ Z H' | .error _ => False) s := by
  refine codeAny_loop rfl (fun n s' => ∃ i H', Inv X pins (wipe σ vs) H' s' ∧ tn i s'.heap ∧ (∀ b ∈ fp, H' b = none) ∧ W i n H') ?_ m0 ⟨0, H, I.weak (wipe_length _ _) (fun j v e => (wipe_some e).1), st, fun b hb => (hf b hb).1, w0⟩
  rintro n s5 ⟨i, H5, I5, st5, n5, w5⟩
  have stat : ∀ {H' : Hp}, (∀ b ∈ fp, H' b = none) → ∀ b ∈ fp, FpOk X pins H' b := fun hn b hb => ⟨hn b hb, (hf b hb).2⟩
  show wpAny _ X.A ((compTurn (dc3 kx vx t0 i0 t1 i1 t2 i2 scope pos) 2 (.ref it) (.ref D) X.env).onRaise (fun x => do noteFrame x X.env; theTreesLotGoes x)) _ _ s5
  refine wpAny_noted ?_
  dsimp only [compTurn, dc3]
  refine wpAny_bind (wpAny_standAt (wpAny_bind ?_))
  rcases turn i n H5 w5 with ⟨stop, qq⟩ | ⟨go, Nx, hNx, step⟩
  · refine thnF (T.done X rfl rfl rfl hcalm i _ s5 _ H5 (fun _ _ => False) I5 (stat n5) st5 stop) fun r s6 ⟨hr, I6⟩ => ?_
    subst hr
    exact wpAny_pure ⟨rfl, H5, I6, qq⟩
  · refine thnF (T.item X rfl rfl rfl hcalm i _ s5 _ H5 (fun _ _ => False) I5 (stat n5) st5 go) fun r s6 ⟨u, hr, h6⟩ => ?_
    subst hr
    refine wpAny_bind (thnF h6 fun _ s7 ⟨x, H7, I7, r7, y7, st7, n7⟩ => ?_)
    have I7' := I7.pinned (stat n7) (T.obj _ _ st7)
    have pgr := pg.run _ s7 _ H7 x u _ I7' r7 (step x H7 y7)
    rw [hxe] at pgr
    refine wpAny_bind (thnF pgr fun _ s8 ⟨σ8, H8, I8, hw8, q8⟩ => ?_)
    have fin : ∀ {s' : Shared} {σ' : L2.St} {H' : Hp}, Inv X (pins ++ pinsAt fp s7.heap) σ' H' s' → σ'.length = σ8.length → (∀ (j : Nat) v, (wipe σ8 vs')[j]? = some (some v) → σ'[j]? = some (some v)) → Nx H' → ∃ m, m < n ∧ ∃ i H', Inv X pins (wipe σ vs) H' s' ∧ tn i s'.heap ∧ (∀ b ∈ fp, H' b = none) ∧ W i m H' := fun {s' σ' H'} I' hl' hk nx => by
      obtain ⟨m', hm, w'⟩ := hNx H' nx
      have pin' : ∀ b ∈ fp, ∀ o, s7.heap.get? b = some o → s'.heap.get? b = some o ∧ H' b = none := fun b hb o e =>
        let z := I'.pin (b, o) (List.mem_append_right _ (List.mem_append_right _ (mem_pinsAt hb e)))
        ⟨z.1, z.2.1⟩
      have hl : (wipe σ vs).length = σ'.length := by rw [hl', ← hw8, wipe_length]
      refine ⟨m', hm, i + 1, H', (I'.pins_of fun p hp => I'.pin p (List.mem_append_right _ (List.mem_append_left _ hp))).weak hl (fun j v e => hk j v ?_), T.keep _ _ _ st7 fun b hb o e => (pin' b hb o e).1, fun b hb => ?_, w'⟩
      · rw [← hw8] at e
        rw [wipe_at, if_neg (fun z => (wipe_some e).2 (hv j z.1))]
        exact (wipe_some e).1
      · obtain ⟨o, e, _⟩ := T.obj _ _ st7 b hb
        exact (pin' b hb o e).2
    refine wpAny_bind (wpAny_pure ?_)
    refine wpAny_mono (rest (pins ++ pinsAt fp s7.heap) σ8 H8 s8 Nx (fun _ => again (.compLoop (dc3 kx vx t0 i0 t1 i1 t2 i2 scope pos) 2 (.ref it) (.ref D) X.env)) _ I8 q8 fun s9 σ9 H9 I9 l9 k9 nx => ?_) (fun _ _ h => h) fun _ _ h => h.elim
    exact wpAny_pure ⟨rfl, fin I9 l9 k9 nx⟩
theorem start2 {prog : Program} {w : World} {A : Around} {R : Result → Shared → Prop} {s : Shared} {it : Addr} {D : Addr} {env : Env} (hself : ∀ (A : Around) (Q : Value → Shared → Prop) (E : Value → Shared → Prop), Q (.ref it) s → wpAny (model prog w) A (pyIter (.ref it)) Q E s)
    (h : codeAny (model prog w) A (.compLoop (dc3 kx vx t0 i0 t1 i1 t2 i2 scope pos) 2 (.ref it) (.ref D) env) R s) : codeAny (model prog w) A (.compStart (dc3 kx vx t0 i0 t1 i1 t2 i2 scope pos) 2 (.ref it) (.ref D) env) R s := by
  refine codeAny_of_tree ?_
  show wpAny _ _ ((compStart (dc3 kx vx t0 i0 t1 i1 t2 i2 scope pos) 2 (.ref it) (.ref D) env).onRaise (fun x => do noteFrame x env; standAt theWindowsPlace)) _ _ s
  refine wpAny_notedAt ?_
  unfold compStart
  show wpAny _ _ (ask >>= _) _ _ s
  refine wpAny_bind (wpAny_askSetting (wpAny_ite ?_))
  split
  · exact wpAny_bind (wpAny_pure (wpAny_pure (And.intro rfl h)))
  · refine wpAny_bind (wpAny_rule ?_)
    show wpAny _ _ (standAt i2.pos >>= _) _ _ s
    exact wpAny_bind (wpAny_standAt (wpAny_bind (hself _ _ _ (wpAny_pure (And.intro rfl h)))))
abbrev act1 (kx vx t0 i0 t1 i1 t2 i2 : Expr) (scope : Scope) (pos : Pos) (D : Addr) (X : Cx) (K : Unit → Sem PySem.Fin) : Sem PySem.Fin := eval i2 X.env >>= fun x => standAt i2.pos >>= fun _ => foldedSetIterable i2 X.env x >>= fun x => holding [x] (pyIter x) >>= fun r => runOwn (.compStart (dc3 kx vx t0 i0 t1 i1 t2 i2 scope pos) 2 r (.ref D) X.env) X.env >>= fun _ => K ()
theorem loop1 {X : Cx} {pins : List (Addr × Obj)} {σ : L2.St} {H : Hp} {s : Shared} {D it : Addr} {fp : List Addr} {tn : Nat → Heap → Prop} {J : It} {g : TG} {vs vs' : List Nat} {W : Nat → Nat → Hp → Prop} {m0 : Nat} {Z : Hp → Prop} {body : L2.St → Hp → (Hp → Prop) → Prop}
    (hcalm : X.calm = true) (hxe : X.xe = fun _ _ => False) (T : Turn X.prog X.w X.K t1 J fp it tn) (pg : PG X t1 g) (rest : Rest X vs' body (act1 kx vx t0 i0 t1 i1 t2 i2 scope pos D X)) (hv : ∀ i ∈ vs', i ∈ vs)
    (I : Inv X pins σ H s) (st : tn 0 s.heap) (hf : ∀ b ∈ fp, FpOk X pins H b) (w0 : W 0 m0 H)
    (turn : ∀ i m H, W i m H → (J.stop i H ∧ Z H) ∨ (J.go i H ∧ ∃ Nx : Hp → Prop, (∀ H', Nx H' → ∃ m', m' < m ∧ W (i + 1) m' H') ∧ ∀ x H', J.yld i H x H' → g x (wipe σ vs) H' fun σ3 H5 => wipe σ3 vs = wipe σ vs ∧ body σ3 H5 Nx)) :
    codeAny (model X.prog X.w) X.A (.compLoop (dc3 kx vx t0 i0 t1 i1 t2 i2 scope pos) 1 (.ref it) (.ref D) X.env)
      (fun r s' => match r with | .ok f => f = .next ∧ ∃ H', Inv X pins (wipe σ vs) H' s' ∧ Z H' | .error _ => False) s := by
  refine codeAny_loop rfl (fun n s' => ∃ i H', Inv X pins (wipe σ vs) H' s' ∧ tn i s'.heap ∧ (∀ b ∈ fp, H' b = none) ∧ W i n H') ?_ m0 ⟨0, H, I.weak (wipe_length _ _) (fun j v e => (wipe_some e).1), st, fun b hb => (hf b hb).1, w0⟩
  rintro n s5 ⟨i, H5, I5, st5, n5, w5⟩
  have stat : ∀ {H' : Hp}, (∀ b ∈ fp, H' b = none) → ∀ b ∈ fp, FpOk X pins H' b := fun hn b hb => ⟨hn b hb, (hf b hb).2⟩
  show wpAny _ X.A ((compTurn (dc3 kx vx t0 i0 t1 i1 t2 i2 scope pos) 1 (.ref it) (.ref D) X.env).onRaise (fun x => do noteFrame x X.env; theTreesLotGoes x)) _ _ s5
  refine wpAny_noted ?_
  dsimp only [compTurn, dc3]
  refine wpAny_bind (wpAny_standAt (wpAny_bind ?_))
  rcases turn i n H5 w5 with ⟨stop, qq⟩ | ⟨go, Nx, hNx, step⟩
  · refine thnF (T.done X rfl rfl rfl hcalm i _ s5 _ H5 (fun _ _ => False) I5 (stat n5) st5 stop) fun r s6 ⟨hr, I6⟩ => ?_
    subst hr
    exact wpAny_pure ⟨rfl, H5, I6, qq⟩
  · refine thnF (T.item X rfl rfl rfl hcalm i _ s5 _ H5 (fun _ _ => False) I5 (stat n5) st5 go) fun r s6 ⟨u, hr, h6⟩ => ?_
    subst hr
    refine wpAny_bind (thnF h6 fun _ s7 ⟨x, H7, I7, r7, y7, st7, n7⟩ => ?_)
    have I7' := I7.pinned (stat n7) (T.obj _ _ st7)
    have pgr := pg.run _ s7 _ H7 x u _ I7' r7 (step x H7 y7)
    rw [hxe] at pgr
    refine wpAny_bind (thnF pgr fun _ s8 ⟨σ8, H8, I8, hw8, q8⟩ => ?_)
    have fin : ∀ {s' : Shared} {σ' : L2.St} {H' : Hp}, Inv X (pins ++ pinsAt fp s7.heap) σ' H' s' → σ'.length = σ8.length → (∀ (j : Nat) v, (wipe σ8 vs')[j]? = some (some v) → σ'[j]? = some (some v)) → Nx H' → ∃ m, m < n ∧ ∃ i H', Inv X pins (wipe σ vs) H' s' ∧ tn i s'.heap ∧ (∀ b ∈ fp, H' b = none) ∧ W i m H' := fun {s' σ' H'} I' hl' hk nx => by
      obtain ⟨m', hm, w'⟩ := hNx H' nx
      have pin' : ∀ b ∈ fp, ∀ o, s7.heap.get? b = some o → s'.heap.get? b = some o ∧ H' b = none := fun b hb o e =>
        let z := I'.pin (b, o) (List.mem_append_right _ (List.mem_append_right _ (mem_pinsAt hb e)))
        ⟨z.1, z.2.1⟩
      have hl : (wipe σ vs).length = σ'.length := by rw [hl', ← hw8, wipe_length]
      refine ⟨m', hm, i + 1, H', (I'.pins_of fun p hp => I'.pin p (List.mem_append_right _ (List.mem_append_left _ hp))).weak hl (fun j v e => hk j v ?_), T.keep _ _ _ st7 fun b hb o e => (pin' b hb o e).1, fun b hb => ?_, w'⟩
      · rw [← hw8] at e
        rw [wipe_at, if_neg (fun z => (wipe_some e).2 (hv j z.1))]
        exact (wipe_some e).1
      · obtain ⟨o, e, _⟩ := T.obj _ _ st7 b hb
        exact (pin' b hb o e).2
    refine wpAny_bind (wpAny_pure ?_)
    refine wpAny_mono (rest (pins ++ pinsAt fp s7.heap) σ8 H8 s8 Nx (fun _ => again (.compLoop (dc3 kx vx t0 i0 t1 i1 t2 i2 scope pos) 1 (.ref it) (.ref D) X.env)) _ I8 q8 fun s9 σ9 H9 I9 l9 k9 nx => ?_) (fun _ _ h => h) fun _ _ h => h.elim
    exact wpAny_pure ⟨rfl, fin I9 l9 k9 nx⟩
theorem start1 {prog : Program} {w : World} {A : Around} {R : Result → Shared → Prop} {s : Shared} {it : Addr} {D : Addr} {env : Env} (hself : ∀ (A : Around) (Q : Value → Shared → Prop) (E : Value → Shared → Prop), Q (.ref it) s → wpAny (model prog w) A (pyIter (.ref it)) Q E s)
    (h : codeAny (model prog w) A (.compLoop (dc3 kx vx t0 i0 t1 i1 t2 i2 scope pos) 1 (.ref it) (.ref D) env) R s) : codeAny (model prog w) A (.compStart (dc3 kx vx t0 i0 t1 i1 t2 i2 scope pos) 1 (.ref it) (.ref D) env) R s := by
  refine codeAny_of_tree ?_
  show wpAny _ _ ((compStart (dc3 kx vx t0 i0 t1 i1 t2 i2 scope pos) 1 (.ref it) (.ref D) env).onRaise (fun x => do noteFrame x env; standAt theWindowsPlace)) _ _ s
  refine wpAny_notedAt ?_
  unfold compStart
  show wpAny _ _ (ask >>= _) _ _ s
  refine wpAny_bind (wpAny_askSetting (wpAny_ite ?_))
  split
  · exact wpAny_bind (wpAny_pure (wpAny_pure (And.intro rfl h)))
  · refine wpAny_bind (wpAny_rule ?_)
    show wpAny _ _ (standAt i1.pos >>= _) _ _ s
    exact wpAny_bind (wpAny_standAt (wpAny_bind (hself _ _ _ (wpAny_pure (And.intro rfl h)))))
abbrev act0 (kx vx t0 i0 t1 i1 t2 i2 : Expr) (scope : Scope) (pos : Pos) (D : Addr) (X : Cx) (K : Unit → Sem PySem.Fin) : Sem PySem.Fin := eval i1 X.env >>= fun x => standAt i1.pos >>= fun _ => foldedSetIterable i1 X.env x >>= fun x => holding [x] (pyIter x) >>= fun r => runOwn (.compStart (dc3 kx vx t0 i0 t1 i1 t2 i2 scope pos) 1 r (.ref D) X.env) X.env >>= fun _ => K ()
theorem loop0 {X : Cx} {pins : List (Addr × Obj)} {σ : L2.St} {H : Hp} {s : Shared} {D it : Addr} {fp : List Addr} {tn : Nat → Heap → Prop} {J : It} {g : TG} {vs vs' : List Nat} {W : Nat → Nat → Hp → Prop} {m0 : Nat} {Z : Hp → Prop} {body : L2.St → Hp → (Hp → Prop) → Prop}
    (hcalm : X.calm = true) (hxe : X.xe = fun _ _ => False) (T : Turn X.prog X.w X.K t0 J fp it tn) (pg : PG X t0 g) (rest : Rest X vs' body (act0 kx vx t0 i0 t1 i1 t2 i2 scope pos D X)) (hv : ∀ i ∈ vs', i ∈ vs)
    (I : Inv X pins σ H s) (st : tn 0 s.heap) (hf : ∀ b ∈ fp, FpOk X pins H b) (w0 : W 0 m0 H)
    (turn : ∀ i m H, W i m H → (J.stop i H ∧ Z H) ∨ (J.go i H ∧ ∃ Nx : Hp → Prop, (∀ H', Nx H' → ∃ m', m' < m ∧ W (i + 1) m' H') ∧ ∀ x H', J.yld i H x H' → g x (wipe σ vs) H' fun σ3 H5 => wipe σ3 vs = wipe σ vs ∧ body σ3 H5 Nx)) :
    codeAny (model X.prog X.w) X.A (.compLoop (dc3 kx vx t0 i0 t1 i1 t2 i2 scope pos) 0 (.ref it) (.ref D) X.env)
      (fun r s' => match r with | .ok f => f = .next ∧ ∃ H', Inv X pins (wipe σ vs) H' s' ∧ Z H' | .error _ => False) s := by
  refine codeAny_loop rfl (fun n s' => ∃ i H', Inv X pins (wipe σ vs) H' s' ∧ tn i s'.heap ∧ (∀ b ∈ fp, H' b = none) ∧ W i n H') ?_ m0 ⟨0, H, I.weak (wipe_length _ _) (fun j v e => (wipe_some e).1), st, fun b hb => (hf b hb).1, w0⟩
  rintro n s5 ⟨i, H5, I5, st5, n5, w5⟩
  have stat : ∀ {H' : Hp}, (∀ b ∈ fp, H' b = none) → ∀ b ∈ fp, FpOk X pins H' b := fun hn b hb => ⟨hn b hb, (hf b hb).2⟩
  show wpAny _ X.A ((compTurn (dc3 kx vx t0 i0 t1 i1 t2 i2 scope pos) 0 (.ref it) (.ref D) X.env).onRaise (fun x => do noteFrame x X.env; theTreesLotGoes x)) _ _ s5
  refine wpAny_noted ?_
  dsimp only [compTurn, dc3]
  refine wpAny_bind (wpAny_standAt (wpAny_bind ?_))
  rcases turn i n H5 w5 with ⟨stop, qq⟩ | ⟨go, Nx, hNx, step⟩
  · refine thnF (T.done X rfl rfl rfl hcalm i _ s5 _ H5 (fun _ _ => False) I5 (stat n5) st5 stop) fun r s6 ⟨hr, I6⟩ => ?_
    subst hr
    exact wpAny_pure ⟨rfl, H5, I6, qq⟩
  · refine thnF (T.item X rfl rfl rfl hcalm i _ s5 _ H5 (fun _ _ => False) I5 (stat n5) st5 go) fun r s6 ⟨u, hr, h6⟩ => ?_
    subst hr
    refine wpAny_bind (thnF h6 fun _ s7 ⟨x, H7, I7, r7, y7, st7, n7⟩ => ?_)
    have I7' := I7.pinned (stat n7) (T.obj _ _ st7)
    have pgr := pg.run _ s7 _ H7 x u _ I7' r7 (step x H7 y7)
    rw [hxe] at pgr
    refine wpAny_bind (thnF pgr fun _ s8 ⟨σ8, H8, I8, hw8, q8⟩ => ?_)
    have fin : ∀ {s' : Shared} {σ' : L2.St} {H' : Hp}, Inv X (pins ++ pinsAt fp s7.heap) σ' H' s' → σ'.length = σ8.length → (∀ (j : Nat) v, (wipe σ8 vs')[j]? = some (some v) → σ'[j]? = some (some v)) → Nx H' → ∃ m, m < n ∧ ∃ i H', Inv X pins (wipe σ vs) H' s' ∧ tn i s'.heap ∧ (∀ b ∈ fp, H' b = none) ∧ W i m H' := fun {s' σ' H'} I' hl' hk nx => by
      obtain ⟨m', hm, w'⟩ := hNx H' nx
      have pin' : ∀ b ∈ fp, ∀ o, s7.heap.get? b = some o → s'.heap.get? b = some o ∧ H' b = none := fun b hb o e =>
        let z := I'.pin (b, o) (List.mem_append_right _ (List.mem_append_right _ (mem_pinsAt hb e)))
        ⟨z.1, z.2.1⟩
      have hl : (wipe σ vs).length = σ'.length := by rw [hl', ← hw8, wipe_length]
      refine ⟨m', hm, i + 1, H', (I'.pins_of fun p hp => I'.pin p (List.mem_append_right _ (List.mem_append_left _ hp))).weak hl (fun j v e => hk j v ?_), T.keep _ _ _ st7 fun b hb o e => (pin' b hb o e).1, fun b hb => ?_, w'⟩
      · rw [← hw8] at e
        rw [wipe_at, if_neg (fun z => (wipe_some e).2 (hv j z.1))]
        exact (wipe_some e).1
      · obtain ⟨o, e, _⟩ := T.obj _ _ st7 b hb
        exact (pin' b hb o e).2
    refine wpAny_bind (wpAny_pure ?_)
    refine wpAny_mono (rest (pins ++ pinsAt fp s7.heap) σ8 H8 s8 Nx (fun _ => again (.compLoop (dc3 kx vx t0 i0 t1 i1 t2 i2 scope pos) 0 (.ref it) (.ref D) X.env)) _ I8 q8 fun s9 σ9 H9 I9 l9 k9 nx => ?_) (fun _ _ h => h) fun _ _ h => h.elim
    exact wpAny_pure ⟨rfl, fin I9 l9 k9 nx⟩
theorem start0 {prog : Program} {w : World} {A : Around} {R : Result → Shared → Prop} {s : Shared} {it : Addr} {D : Addr} {env : Env} (hself : ∀ (A : Around) (Q : Value → Shared → Prop) (E : Value → Shared → Prop), Q (.ref it) s → wpAny (model prog w) A (pyIter (.ref it)) Q E s)
    (h : codeAny (model prog w) A (.compLoop (dc3 kx vx t0 i0 t1 i1 t2 i2 scope pos) 0 (.ref it) (.ref D) env) R s) : codeAny (model prog w) A (.compStart (dc3 kx vx t0 i0 t1 i1 t2 i2 scope pos) 0 (.ref it) (.ref D) env) R s := by
  refine codeAny_of_tree ?_
  show wpAny _ _ ((compStart (dc3 kx vx t0 i0 t1 i1 t2 i2 scope pos) 0 (.ref it) (.ref D) env).onRaise (fun x => do noteFrame x env; standAt theWindowsPlace)) _ _ s
  refine wpAny_notedAt ?_
  unfold compStart
  show wpAny _ _ (ask >>= _) _ _ s
  refine wpAny_bind (wpAny_askSetting (wpAny_ite ?_))
  split
  · exact wpAny_bind (wpAny_pure (wpAny_pure (And.intro rfl h)))
  · refine wpAny_bind (wpAny_rule ?_)
    show wpAny _ _ (standAt i0.pos >>= _) _ _ s
    exact wpAny_bind (wpAny_standAt (wpAny_bind (hself _ _ _ (wpAny_pure (And.intro rfl h)))))
theorem rest2 {X : Cx} {D : Addr} {tk tv : TE} (hu : X.A.units < cLine) (hxe : X.xe = fun _ _ => False) (pk : PE X kx tk) (pv : PE X vx tv) : Rest X [] (Put3 D tk tv) (act2 kx vx t0 i0 t1 i1 t2 i2 scope pos D X) := by
  intro pins σ H s Nx K Q I q k
  have pkr := pk.run _ s σ H _ I q
  rw [hxe] at pkr
  refine wpAny_bind (wpAny_bind (thnF pkr fun kv s10 ⟨ky, H10, I10, r10, q10⟩ => ?_))
  have pvr := pv.run _ s10 σ H10 _ I10 q10
  rw [hxe] at pvr
  refine wpAny_bind (wpAny_holding (thnF pvr fun vv s11 ⟨vy, H11, I11, r11, kvs, ks, b, ek, hD, hb, hz, nx⟩ => ?_))
  subst ek
  refine wpAny_bind (wpAny_standAt ?_)
  refine wpAny_holding (d_dictSetT hu I11 hD hb hz r10 r11 fun s12 I12 => ?_)
  exact k _ _ _ I12 rfl (fun j v e => (wipe_some e).1) nx
theorem rest1 {X : Cx} {D : Addr} {wi : TI} {g : TG} {vs vs' : List Nat} {body : L2.St → Hp → (Hp → Prop) → Prop} (hcalm : X.calm = true) (hxe : X.xe = fun _ _ => False) (pi : PI X t2 i2 wi) (pg : PG X t2 g) (rest : Rest X vs' body (act2 kx vx t0 i0 t1 i1 t2 i2 scope pos D X)) (hv : ∀ i ∈ vs', i ∈ vs)
    (hs : ∀ env x, foldedSetIterable i2 env x = pure x) : Rest X vs (Walk3 wi g vs body) (act1 kx vx t0 i0 t1 i1 t2 i2 scope pos D X) := by
  intro pins σ H s Nx K Q I q k
  have pir := pi.run _ s σ H _ I q
  rw [hxe] at pir
  refine wpAny_bind (thnF pir fun xv s10 hx => ?_)
  refine wpAny_bind (wpAny_standAt (wpAny_bind (wpAny_of_eq (hs X.env xv) (wpAny_bind (wpAny_holding (thnF hx fun itv s11 h11 => ?_))))))
  obtain ⟨it1, fp1, tn1, J1, H11, e1, I11, T1, st11, f11, W1, ⟨m1, w1⟩, turn1⟩ := h11
  subst e1
  refine wpAny_bind (wpAny_runOwn ?_)
  rw [Around.mark_none]
  have lp := loop2 (kx := kx) (vx := vx) (t0 := t0) (i0 := i0) (t1 := t1) (i1 := i1) (t2 := t2) (i2 := i2) (scope := scope) (pos := pos) (D := D) (Z := Nx) hcalm hxe T1 pg rest hv I11 st11 f11 w1 turn1
  refine codeAny_mono (start2 (fun A Q E hq => T1.self A 0 _ _ _ st11 hq) lp) fun r s' hr => ?_
  cases r with
  | error e => exact hr.elim
  | ok f =>
    obtain ⟨_, H', I', nx⟩ := hr
    exact k _ _ _ I' (wipe_length _ _) (fun j v e => e) nx
theorem rest0 {X : Cx} {D : Addr} {wi : TI} {g : TG} {vs vs' : List Nat} {body : L2.St → Hp → (Hp → Prop) → Prop} (hcalm : X.calm = true) (hxe : X.xe = fun _ _ => False) (pi : PI X t1 i1 wi) (pg : PG X t1 g) (rest : Rest X vs' body (act1 kx vx t0 i0 t1 i1 t2 i2 scope pos D X)) (hv : ∀ i ∈ vs', i ∈ vs)
    (hs : ∀ env x, foldedSetIterable i1 env x = pure x) : Rest X vs (Walk3 wi g vs body) (act0 kx vx t0 i0 t1 i1 t2 i2 scope pos D X) := by
  intro pins σ H s Nx K Q I q k
  have pir := pi.run _ s σ H _ I q
  rw [hxe] at pir
  refine wpAny_bind (thnF pir fun xv s10 hx => ?_)
  refine wpAny_bind (wpAny_standAt (wpAny_bind (wpAny_of_eq (hs X.env xv) (wpAny_bind (wpAny_holding (thnF hx fun itv s11 h11 => ?_))))))
  obtain ⟨it1, fp1, tn1, J1, H11, e1, I11, T1, st11, f11, W1, ⟨m1, w1⟩, turn1⟩ := h11
  subst e1
  refine wpAny_bind (wpAny_runOwn ?_)
  rw [Around.mark_none]
  have lp := loop1 (kx := kx) (vx := vx) (t0 := t0) (i0 := i0) (t1 := t1) (i1 := i1) (t2 := t2) (i2 := i2) (scope := scope) (pos := pos) (D := D) (Z := Nx) hcalm hxe T1 pg rest hv I11 st11 f11 w1 turn1
  refine codeAny_mono (start1 (fun A Q E hq => T1.self A 0 _ _ _ st11 hq) lp) fun r s' hr => ?_
  cases r with
  | error e => exact hr.elim
  | ok f =>
    obtain ⟨_, H', I', nx⟩ := hr
    exact k _ _ _ I' (wipe_length _ _) (fun j v e => e) nx
theorem pe_dc3 {X : Cx} {own : List (Str × Nat)} {vs1 vs2 : List Nat} {wi wi1 wi2 : TI} {g g1 g2 : TG} {tk tv : TE} (hu : X.A.units < cLine) (hc : X.calm = true) (hN : X.N.Nodup) (hi : PI X t0 i0 wi) (ok : BlkOk X.N X.env.scope scope own) (hv1 : ∀ i ∈ vs1, i ∈ own.map (·.2)) (hv2 : ∀ i ∈ vs2, i ∈ vs1)
    (hg : ∀ s H C cl fp, PG (X.blk s H scope (compEnvC scope cl C X.env) fp) t0 g)
    (hi1 : ∀ s H C cl fp, PI (X.blk s H scope (compEnvC scope cl C X.env) fp) t1 i1 wi1) (hg1 : ∀ s H C cl fp, PG (X.blk s H scope (compEnvC scope cl C X.env) fp) t1 g1)
    (hi2 : ∀ s H C cl fp, PI (X.blk s H scope (compEnvC scope cl C X.env) fp) t2 i2 wi2) (hg2 : ∀ s H C cl fp, PG (X.blk s H scope (compEnvC scope cl C X.env) fp) t2 g2)
    (hk : ∀ s H C cl fp, PE (X.blk s H scope (compEnvC scope cl C X.env) fp) kx tk) (hw : ∀ s H C cl fp, PE (X.blk s H scope (compEnvC scope cl C X.env) fp) vx tv)
    (hs : ∀ x, foldedSetIterable i0 X.env x = pure x := by intro _; rfl) (hs1 : ∀ env x, foldedSetIterable i1 env x = pure x := by intro _ _; rfl) (hs2 : ∀ env x, foldedSetIterable i2 env x = pure x := by intro _ _; rfl) :
    PE X (dc3 kx vx t0 i0 t1 i1 t2 i2 scope pos) (tDc3 wi g (own.map (·.2)) wi1 g1 vs1 wi2 g2 vs2 tk tv) := by
  refine ⟨fun pins s σ H Q I h => ?_⟩
  rw [arm_eval_DictComp]
  have hfree : ∀ y ∈ scope.names, y.2 = .free → ∃ c, X.env.cells.lookup y.1 = some c := fun y hy e => by
    rcases ok.free y hy e with k | k
    · exact I.ok.has _ (.inl k)
    · exact I.ok.has _ (.inr k)
  refine wpAny_comprehension_free (use := none) rfl hs (closure_ok hfree) ok.kind (fun y hy e => by rw [ok.uniq y hy, e])
    (thn (hi.run pins s σ H _ I h) fun xv s1 hx => thn hx fun itv s2 h2 => ?_)
  obtain ⟨it, fp, tn, J, H2, e, I2, T, st2, f2, q⟩ := h2
  subst e
  refine wpAny_newObj_type (newEnv_comp ?_)
  generalize hD : s2.heap.objs.size = D
  have hDn : H2 D = none := I2.hok.fresh (Nat.le_of_eq hD)
  obtain ⟨W, ⟨m0, w0⟩, turn⟩ := q D hDn
  generalize hs3 : ({ s2 with heap := s2.heap.push { cls := .type "dict", data := .dict #[] } } : Shared) = s3
  have I3 : Inv X pins σ (upd H2 D (.dT [])) s3 := by
    rw [← hs3]
    refine I2.laid (t' := s2.toks) (fun b o e => Heap.get?_push_of_some _ e) (Nat.le_of_eq hD) ?_
    rw [← hD]
    exact dt_empty s2.heap I2.big
  have h3 : s3.heap = s2.heap.push { cls := .type "dict", data := .dict #[] } := by rw [← hs3]
  have f3 : ∀ b ∈ fp, FpOk X pins (upd H2 D (.dT [])) b ∧ b < s3.heap.objs.size := fun b hb => by
    obtain ⟨o, e, _⟩ := T.obj _ _ st2 b hb
    have hlt : b < s2.heap.objs.size := Heap.lt_size e
    refine ⟨⟨?_, (f2 b hb).2⟩, by rw [h3, Heap.size_push]; exact Nat.lt_succ_of_lt hlt⟩
    rw [upd_ne (by rw [← hD]; exact Nat.ne_of_lt hlt)]
    exact (f2 b hb).1
  have st3 : tn 0 s3.heap := T.keep _ _ _ st2 fun b _ o e => by rw [h3]; exact Heap.get?_push_of_some _ e
  have I4 := block_start I3 ok hN f3
  have back : ∀ {σ' : L2.St} {H' : Hp} {s' : Shared} {ce : Env}, Inv (X.blk s3 (upd H2 D (.dT [])) scope ce fp) [] σ' H' s' → Inv X pins σ H' s' := fun I' =>
    I3.call' (ch := fp) I'.os I'.base I'.hok I'.bare fun b hb => ⟨(f3 b hb).1.2.2.2.1, (f3 b hb).1.2.1, (f3 b hb).1.2.2.2.2.1, (f3 b hb).1.2.2.2.2.2⟩
  have st4 : tn 0 (pushCells (s3.heap.push { cls := .type "dict", data := .dict #[] }) scope.names) := T.keep _ _ _ st3 fun b _ o e => pushCells_keeps _ _ _ _ (Heap.get?_push_of_some _ e)
  have r1 := fun (s : Shared) (H : Hp) (C : Addr) (cl : List (Str × Addr)) (fp : List Addr) => rest1 (kx := kx) (vx := vx) (t0 := t0) (i0 := i0) (t1 := t1) (i1 := i1) (t2 := t2) (i2 := i2) (scope := scope) (pos := pos) (X := X.blk s H scope (compEnvC scope cl C X.env) fp) (D := D) (vs := vs2) hc rfl (hi2 s H C cl fp) (hg2 s H C cl fp) (rest2 hu rfl (hk s H C cl fp) (hw s H C cl fp)) (fun i h => by simp at h) hs2
  have r0 := fun (s : Shared) (H : Hp) (C : Addr) (cl : List (Str × Addr)) (fp : List Addr) => rest0 (X := X.blk s H scope (compEnvC scope cl C X.env) fp) (vs := vs1) hc rfl (hi1 s H C cl fp) (hg1 s H C cl fp) (r1 s H C cl fp) hv2 hs1
  have loop := loop0 (X := X.blk s3 (upd H2 D (.dT [])) scope (compEnvC scope (cellsFrom (s3.heap.objs.size + 1) scope.names (cloFrom X.env.cells scope.names [])) s3.heap.objs.size X.env) fp) (kx := kx) (vx := vx) (i0 := i0) (scope := scope) (pos := pos) (vs := own.map (·.2)) (σ := wipe σ (own.map (·.2))) (Z := Q (.ref D))
    hc rfl T (hg _ _ _ _ _) (r0 _ _ _ _ _) hv1 I4 st4 ?hf w0 ?turn
  case hf =>
    intro b hb
    have hb' : b ∈ (X.blk s3 (upd H2 D (.dT [])) scope (compEnvC scope (cellsFrom (s3.heap.objs.size + 1) scope.names (cloFrom X.env.cells scope.names [])) s3.heap.objs.size X.env) fp).ex := hb
    exact ⟨(f3 b hb).1.1, (I4.ok.exf b hb').1, I4.ok.exfs b hb', .inl hb', fun x c e => (I4.ok.exf b hb').2 x c e, fun p hp => absurd hp (by simp [Cx.blk])⟩
  case turn =>
    rw [wipe_wipe]
    exact turn
  refine codeAny_mono (start0 (fun A Q E hq => T.self A 0 _ _ _ st4 hq) loop) fun r s' hr => ?_
  cases r with
  | error e => exact hr.elim
  | ok f =>
    obtain ⟨rfl, H', I', qq⟩ := hr
    have I7 := back I'
    have nC : H' s3.heap.objs.size = none := I'.free
    obtain ⟨m, hn, _⟩ := I'.loc
    have hn : s'.heap.Ns s3.heap.objs.size m := hn
    refine ⟨m, hn, fun h'' sb => ?_⟩
    obtain ⟨f0, f1, f2, f3, f4, f5⟩ := I3.fpOk (Nat.le_refl _) nC
    exact ⟨.ref D, H', I7.turned (t' := s'.toks) (fun b o hb e => (sb.2 b hb).trans e) f0 f1 f3 f4 f5, rfl, qq⟩
end
end Gx
set_option Elab.async false
set_option linter.all false
set_option maxRecDepth 100000
set_option maxHeartbeats 1000000
/-! polynomials as rows (names, number) -/
namespace Rh
open PySem PySem.Spec PyProof.Rows L2
abbrev Ks := List L2.Key
abbrev Row := Ks × Int
def coef (rows : List Row) (k : Ks) : Int := (rows.map fun r => if r.1 = k then r.2 else 0).sum
def keysR (rows : List Row) : List Ks := rows.map (·.1)
theorem coef_nil (k : Ks) : coef [] k = 0 := rfl
theorem coef_cons (r : Row) (rows : List Row) (k : Ks) : coef (r :: rows) k = (if r.1 = k then r.2 else 0) + coef rows k := by simp [coef]
theorem coef_app (a b : List Row) (k : Ks) : coef (a ++ b) k = coef a k + coef b k := by simp [coef]
theorem coef_none {rows : List Row} {k : Ks} (h : k ∉ keysR rows) : coef rows k = 0 := by
  induction rows with
  | nil => rfl
  | cons r rs ih =>
    rw [coef_cons, if_neg fun e => h (by rw [← e]; exact List.mem_cons_self), ih fun e => h (List.mem_cons_of_mem _ e)]
    rfl
theorem sum_perm {l l' : List Int} (h : l.Perm l') : l.sum = l'.sum := by
  induction h with
  | nil => rfl
  | cons x _ ih => simp [ih]
  | swap x y l => simp; omega
  | trans _ _ a b => exact a.trans b
theorem coef_perm {a b : List Row} (h : a.Perm b) (k : Ks) : coef a k = coef b k := sum_perm (h.map _)
theorem coef_filter (rows : List Row) (k : Ks) : coef (rows.filter fun r => !decide (r.2 = 0)) k = coef rows k := by
  induction rows with
  | nil => rfl
  | cons r rs ih =>
    rw [List.filter_cons]
    by_cases h : r.2 = 0
    · rw [if_neg (by simp [h]), ih, coef_cons, h]
      simp
    · rw [if_pos (by simp [h]), coef_cons, coef_cons, ih]
/-- unlike keys, no number nought -/
structure Good (rows : List Row) : Prop where
  nd : (keysR rows).Nodup
  nz : ∀ r ∈ rows, r.2 ≠ 0
theorem coef_mem {rows : List Row} (nd : (keysR rows).Nodup) {r : Row} (h : r ∈ rows) : coef rows r.1 = r.2 := by
  induction rows with
  | nil => cases h
  | cons x xs ih =>
    have nd' := List.nodup_cons.mp (show (x.1 :: keysR xs).Nodup from nd)
    rw [coef_cons]
    rcases List.mem_cons.mp h with h | h
    · subst h
      rw [if_pos rfl, coef_none nd'.1]
      omega
    · rw [if_neg fun e => nd'.1 (by rw [e]; exact List.mem_map_of_mem (f := (·.1)) h), ih nd'.2 h]
      omega
def putR (rows : List Row) (k : Ks) (n : Int) : List Row := if (rows.any fun r => decide (r.1 = k)) = true then rows.map (fun r => if r.1 = k then (r.1, n) else r) else rows ++ [(k, n)]
theorem any_key {rows : List Row} {k : Ks} : (rows.any fun r => decide (r.1 = k)) = true ↔ k ∈ keysR rows := by
  simp [keysR]
theorem keys_map (rows : List Row) (k : Ks) (n : Int) : keysR (rows.map fun r => if r.1 = k then (r.1, n) else r) = keysR rows := by
  unfold keysR
  rw [List.map_map]
  refine List.map_congr_left fun r _ => ?_
  show (if r.1 = k then (r.1, n) else r).1 = r.1
  split <;> rfl
theorem putR_in {rows : List Row} {k : Ks} {n : Int} (h : k ∈ keysR rows) : putR rows k n = rows.map (fun r => if r.1 = k then (r.1, n) else r) := if_pos (any_key.mpr h)
theorem putR_out {rows : List Row} {k : Ks} {n : Int} (h : k ∉ keysR rows) : putR rows k n = rows ++ [(k, n)] := if_neg fun e => h (any_key.mp e)
theorem putR_nd {rows : List Row} {k : Ks} {n : Int} (nd : (keysR rows).Nodup) : (keysR (putR rows k n)).Nodup := by
  rcases Classical.em (k ∈ keysR rows) with h | h
  · rw [putR_in h, keys_map]; exact nd
  · rw [putR_out h]
    show (List.map _ _).Nodup
    rw [List.map_append]
    refine List.nodup_append.mpr ⟨nd, by simp, fun a ha b hb => ?_⟩
    rw [List.mem_singleton.mp hb]
    intro e
    have e : a = k := e
    rw [e] at ha
    exact h ha
theorem putR_mem {rows : List Row} {k x : Ks} {n : Int} (h : x ∈ keysR (putR rows k n)) : x ∈ keysR rows ∨ x = k := by
  rcases Classical.em (k ∈ keysR rows) with c | c
  · rw [putR_in c, keys_map] at h; exact .inl h
  · rw [putR_out c] at h
    have h : x ∈ List.map (·.1) (rows ++ [(k, n)]) := h
    rw [List.map_append] at h
    rcases List.mem_append.mp h with h | h
    · exact .inl h
    · exact .inr (List.mem_singleton.mp h)
theorem putR_len (rows : List Row) (k : Ks) (n : Int) : (putR rows k n).length ≤ rows.length + 1 := by
  unfold putR
  split <;> simp
theorem coef_map_ne (rows : List Row) {k x : Ks} (n : Int) (hx : ¬ x = k) : coef (rows.map fun r => if r.1 = k then (r.1, n) else r) x = coef rows x := by
  unfold coef
  rw [List.map_map]
  congr 1
  refine List.map_congr_left fun r _ => ?_
  show (if (if r.1 = k then (r.1, n) else r).1 = x then (if r.1 = k then (r.1, n) else r).2 else 0) = if r.1 = x then r.2 else 0
  by_cases e : r.1 = k
  · rw [if_pos e]
    have : ¬ r.1 = x := fun z => hx (z.symm.trans e)
    rw [if_neg this, if_neg this]
  · rw [if_neg e]
theorem coef_map_eq {k : Ks} (n : Int) : ∀ {rows : List Row}, (keysR rows).Nodup → k ∈ keysR rows → coef (rows.map fun r => if r.1 = k then (r.1, n) else r) k = n
  | [], _, h => by cases h
  | r :: rs, nd, h => by
    have nd' := List.nodup_cons.mp (show (r.1 :: keysR rs).Nodup from nd)
    rw [List.map_cons, coef_cons]
    by_cases e : r.1 = k
    · rw [if_pos e]
      show (if r.1 = k then n else 0) + _ = n
      rw [if_pos e, coef_none (by rw [keys_map, ← e]; exact nd'.1)]
      omega
    · rw [if_neg e, if_neg e, coef_map_eq n nd'.2 (by
        rcases List.mem_cons.mp (show k ∈ r.1 :: keysR rs from h) with z | z
        · exact absurd z.symm e
        · exact z)]
      omega
theorem coef_putR {rows : List Row} (nd : (keysR rows).Nodup) (k : Ks) (n : Int) (x : Ks) : coef (putR rows k n) x = if x = k then n else coef rows x := by
  rcases Classical.em (k ∈ keysR rows) with h | h
  · rw [putR_in h]
    by_cases hx : x = k
    · rw [if_pos hx, hx, coef_map_eq n nd h]
    · rw [if_neg hx, coef_map_ne rows n hx]
  · rw [putR_out h, coef_app, coef_cons, coef_nil]
    by_cases hx : x = k
    · rw [if_pos hx, hx, coef_none h, if_pos rfl]
      omega
    · rw [if_neg hx, if_neg fun e => hx e.symm]
      omega
/-! values -/
def mono (ρ : L2.Key → Int) (k : Ks) : Int := (k.map ρ).foldl (· * ·) 1
def val (ρ : L2.Key → Int) (rows : List Row) : Int := (rows.map fun r => r.2 * mono ρ r.1).sum
theorem foldl_mul (l : List Int) : ∀ a : Int, l.foldl (· * ·) a = a * l.foldl (· * ·) 1 := by
  induction l with
  | nil => intro a; simp
  | cons x xs ih =>
    intro a
    rw [List.foldl_cons, List.foldl_cons, ih (a * x), ih (1 * x), Int.one_mul, Int.mul_assoc]
theorem mono_nil (ρ : L2.Key → Int) : mono ρ [] = 1 := rfl
theorem mono_cons (ρ : L2.Key → Int) (x : L2.Key) (k : Ks) : mono ρ (x :: k) = ρ x * mono ρ k := by
  unfold mono
  rw [List.map_cons, List.foldl_cons, foldl_mul, Int.one_mul]
theorem mono_app (ρ : L2.Key → Int) (a b : Ks) : mono ρ (a ++ b) = mono ρ a * mono ρ b := by
  induction a with
  | nil => rw [List.nil_append, mono_nil, Int.one_mul]
  | cons x xs ih => rw [List.cons_append, mono_cons, mono_cons, ih, Int.mul_assoc]
theorem mono_perm (ρ : L2.Key → Int) {a b : Ks} (h : a.Perm b) : mono ρ a = mono ρ b := by
  induction h with
  | nil => rfl
  | cons x _ ih => rw [mono_cons, mono_cons, ih]
  | swap x y l => rw [mono_cons, mono_cons, mono_cons, mono_cons, ← Int.mul_assoc, ← Int.mul_assoc, Int.mul_comm (ρ y)]
  | trans _ _ a b => exact a.trans b
theorem mono_nonneg {ρ : L2.Key → Int} (h : ∀ x, 0 ≤ ρ x) (k : Ks) : 0 ≤ mono ρ k := by
  induction k with
  | nil => show (0 : Int) ≤ 1; decide
  | cons x xs ih => rw [mono_cons]; exact Int.mul_nonneg (h x) ih
theorem val_nil (ρ : L2.Key → Int) : val ρ [] = 0 := rfl
theorem val_cons (ρ : L2.Key → Int) (r : Row) (rows : List Row) : val ρ (r :: rows) = r.2 * mono ρ r.1 + val ρ rows := by simp [val]
theorem val_app (ρ : L2.Key → Int) (a b : List Row) : val ρ (a ++ b) = val ρ a + val ρ b := by simp [val]
theorem sum_zero {α : Type} (S : List α) : (S.map fun _ => (0 : Int)).sum = 0 := by
  induction S with
  | nil => rfl
  | cons _ _ ih => rw [List.map_cons, List.sum_cons, ih]; rfl
/-- the sum over keys -/
def sumK (ρ : L2.Key → Int) (S : List Ks) (c : Ks → Int) : Int := (S.map fun k => c k * mono ρ k).sum
theorem sumK_add (ρ : L2.Key → Int) (S : List Ks) (c d : Ks → Int) : sumK ρ S (fun k => c k + d k) = sumK ρ S c + sumK ρ S d := by
  induction S with
  | nil => rfl
  | cons k S ih =>
    have h1 : ∀ c : Ks → Int, sumK ρ (k :: S) c = c k * mono ρ k + sumK ρ S c := fun c => by simp [sumK]
    rw [h1, h1, h1, ih, Int.add_mul]
    omega
theorem sumK_one (ρ : L2.Key → Int) {S : List Ks} (nd : S.Nodup) {r : Row} (h : r.1 ∈ S) : sumK ρ S (fun k => if r.1 = k then r.2 else 0) = r.2 * mono ρ r.1 := by
  induction S with
  | nil => cases h
  | cons k S ih =>
    have nd' := List.nodup_cons.mp nd
    have h1 : ∀ c : Ks → Int, sumK ρ (k :: S) c = c k * mono ρ k + sumK ρ S c := fun c => by simp [sumK]
    rw [h1]
    by_cases e : r.1 = k
    · subst e
      rw [if_pos rfl]
      have z : sumK ρ S (fun k => if r.1 = k then r.2 else 0) = 0 := by
        unfold sumK
        rw [show (S.map fun k => (if r.1 = k then r.2 else 0) * mono ρ k) = S.map fun _ => (0 : Int) from List.map_congr_left fun k hk => by
          rw [if_neg fun e => nd'.1 (by rw [e]; exact hk), Int.zero_mul]]
        exact sum_zero S
      rw [z]
      omega
    · rw [if_neg e, ih nd'.2 (by
        rcases List.mem_cons.mp h with z | z
        · exact absurd z e
        · exact z)]
      omega
theorem val_sumK (ρ : L2.Key → Int) {S : List Ks} (nd : S.Nodup) : ∀ {rows : List Row}, (∀ k ∈ keysR rows, k ∈ S) → val ρ rows = sumK ρ S (coef rows)
  | [], _ => by
    unfold sumK val
    rw [show (S.map fun k => coef [] k * mono ρ k) = S.map fun _ => (0 : Int) from List.map_congr_left fun k _ => by rw [coef_nil, Int.zero_mul]]
    all_goals exact (sum_zero S).symm
  | r :: rs, h => by
    have ih := val_sumK ρ nd (rows := rs) fun k hk => h k (List.mem_cons_of_mem _ hk)
    rw [val_cons, ih, ← sumK_one ρ nd (h r.1 List.mem_cons_self), ← sumK_add]
    unfold sumK
    congr 1
    all_goals exact List.map_congr_left fun k _ => by rw [coef_cons]
theorem ddKs (l : List Ks) : ∃ S : List Ks, S.Nodup ∧ ∀ k ∈ l, k ∈ S := by
  induction l with
  | nil => exact ⟨[], by simp, fun k h => h⟩
  | cons x xs ih =>
    obtain ⟨S, nd, h⟩ := ih
    by_cases hx : x ∈ S
    · exact ⟨S, nd, fun k hk => by
        rcases List.mem_cons.mp hk with z | z
        · rw [z]; exact hx
        · exact h k z⟩
    · exact ⟨x :: S, List.nodup_cons.mpr ⟨hx, nd⟩, fun k hk => by
        rcases List.mem_cons.mp hk with z | z
        · rw [z]; exact List.mem_cons_self
        · exact List.mem_cons_of_mem _ (h k z)⟩
theorem val_coef (ρ : L2.Key → Int) {a b : List Row} (h : ∀ k, coef a k = coef b k) : val ρ a = val ρ b := by
  obtain ⟨S, nd, hS⟩ := ddKs (keysR a ++ keysR b)
  rw [val_sumK ρ nd fun k hk => hS k (List.mem_append_left _ hk), val_sumK ρ nd fun k hk => hS k (List.mem_append_right _ hk)]
  unfold sumK
  congr 1
  exact List.map_congr_left fun k _ => by rw [h]
theorem mul4 (a b c d : Int) : a * b * (c * d) = a * c * (b * d) := by
  rw [Int.mul_assoc, Int.mul_assoc, ← Int.mul_assoc b, Int.mul_comm b, Int.mul_assoc c]
/-- all pairs -/
def prodR (f : Ks → Ks) (a b : List Row) : List Row := a.flatMap fun x => b.map fun y => (f (x.1 ++ y.1), x.2 * y.2)
theorem val_prod (ρ : L2.Key → Int) {f : Ks → Ks} (hf : ∀ k, (f k).Perm k) (a b : List Row) : val ρ (prodR f a b) = val ρ a * val ρ b := by
  induction a with
  | nil => rw [show prodR f [] b = [] from rfl, val_nil, Int.zero_mul]
  | cons x xs ih =>
    rw [show prodR f (x :: xs) b = (b.map fun y => (f (x.1 ++ y.1), x.2 * y.2)) ++ prodR f xs b from rfl, val_app, ih, val_cons, Int.add_mul]
    congr 1
    clear ih
    induction b with
    | nil => rw [List.map_nil, val_nil, Int.mul_zero]
    | cons y ys ih =>
      rw [List.map_cons, val_cons, ih, val_cons, Int.mul_add]
      congr 1
      show x.2 * y.2 * mono ρ (f (x.1 ++ y.1)) = x.2 * mono ρ x.1 * (y.2 * mono ρ y.1)
      rw [mono_perm ρ (hf _), mono_app]
      exact mul4 _ _ _ _
/-- a difference without numbers below nought -/
theorem val_ge {ρ : L2.Key → Int} (h : ∀ x, 0 ≤ ρ x) {rows : List Row} (hp : ∀ r ∈ rows, 0 ≤ r.2) : 0 ≤ val ρ rows := by
  induction rows with
  | nil => exact Int.le_refl 0
  | cons r rs ih =>
    rw [val_cons]
    have a := Int.mul_nonneg (hp r List.mem_cons_self) (mono_nonneg h r.1)
    have b := ih fun r hr => hp r (List.mem_cons_of_mem _ hr)
    omega
theorem val_gt {ρ : L2.Key → Int} (h : ∀ x, 0 ≤ ρ x) {rows : List Row} (hp : ∀ r ∈ rows, 0 ≤ r.2) : coef rows [] ≤ val ρ rows := by
  induction rows with
  | nil => exact Int.le_refl 0
  | cons r rs ih =>
    rw [val_cons, coef_cons]
    have b := ih fun r hr => hp r (List.mem_cons_of_mem _ hr)
    by_cases e : r.1 = []
    · rw [if_pos e, e, mono_nil]
      omega
    · rw [if_neg e]
      have a := Int.mul_nonneg (hp r List.mem_cons_self) (mono_nonneg h r.1)
      omega
def negR (rows : List Row) : List Row := rows.map fun r => (r.1, -r.2)
theorem coef_neg (rows : List Row) (k : Ks) : coef (negR rows) k = - coef rows k := by
  induction rows with
  | nil => rfl
  | cons r rs ih =>
    rw [show negR (r :: rs) = (r.1, -r.2) :: negR rs from rfl, coef_cons, coef_cons, ih]
    split <;> omega
theorem val_neg (ρ : L2.Key → Int) (rows : List Row) : val ρ (negR rows) = - val ρ rows := by
  induction rows with
  | nil => rfl
  | cons r rs ih =>
    rw [show negR (r :: rs) = (r.1, -r.2) :: negR rs from rfl, val_cons, val_cons, ih]
    show -r.2 * mono ρ r.1 + _ = _
    rw [Int.neg_mul]
    omega
theorem neg_good {rows : List Row} (h : Good rows) : Good (negR rows) := ⟨by
  have : keysR (negR rows) = keysR rows := by
    unfold keysR negR
    rw [List.map_map]
    rfl
  rw [this]
  exact h.nd, fun r hr => by
  obtain ⟨x, hx, rfl⟩ := List.mem_map.mp hr
  have := h.nz x hx
  show -x.2 ≠ 0
  omega⟩
/-- equal coefficients: both have a row, or neither -/
theorem good_rows {a : List Row} (h : Good a) (k : Ks) : k ∈ keysR a ↔ coef a k ≠ 0 := by
  constructor
  · intro hk
    obtain ⟨r, hr, rfl⟩ := List.mem_map.mp hk
    rw [coef_mem h.nd hr]
    exact h.nz r hr
  · intro hk
    exact Classical.byContradiction fun n => hk (coef_none n)
end Rh
set_option Elab.async false
namespace Rh
open PySem
def topS (i : Nat) : Stmt := PySem.Challenge.pw_rewritehall_k09_orders_by_polynomials.main.body.getD i (.Pass ⟨0, 0, 0, 0⟩)
abbrev s_is_variable : Stmt := topS 7
abbrev s_signs : Stmt := topS 8
abbrev s_add : Stmt := topS 11
abbrev s_times : Stmt := topS 12
abbrev s_of_term : Stmt := topS 13
abbrev s_is_greater : Stmt := topS 14
abbrev s_no_less : Stmt := topS 15
abbrev s_grows : Stmt := topS 16
abbrev s_value : Stmt := topS 17
abbrev s_ends_by_sums : Stmt := topS 18
abbrev s_all_signs : Stmt := topS 19
abbrev s_dice : Stmt := topS 21
abbrev s_roll : Stmt := topS 22
abbrev s_rounds : Stmt := topS 23
abbrev s_told_law : Stmt := topS 24
abbrev s_term : Stmt := topS 25
abbrev s__law_value : Stmt := topS 26
abbrev s_law : Stmt := topS 27
end Rh
set_option Elab.async false
set_option linter.all false
set_option maxRecDepth 100000
set_option maxHeartbeats 2000000
namespace Rh
open PySem PySem.Spec PyProof.Rows L2 GxR Gx Dl
theorem sc_is_variable : FnScope ["thing", "sign"] ["thing"] (defScope s_is_variable) := ⟨rfl, rfl, rfl, by decide +kernel, rfl, by decide +kernel, by decide +kernel⟩
def R_iv : List Ar → PyData → Prop := fun as d => (∃ x : Str, as = [.d (.str x)] ∧ x.length ≤ 100000 ∧ d = .bool (isVarS x)) ∨ ∃ es, as = [.d (.tuple es)] ∧ d = .bool false
theorem r_iv {t : T} (o : t.ok) : R_iv [.d (enc t)] (.bool t.isV) := by
  cases t with
  | v x => exact .inl ⟨x, rfl, o.2.1, by rw [o.1]; rfl⟩
  | c s => exact .inr ⟨_, rfl, rfl⟩
  | u s t => exact .inr ⟨_, rfl, rfl⟩
  | b s t r => exact .inr ⟨_, rfl, rfl⟩
section
variable {P : Program} {w : World} {K : PySem.W.Frag} {mg : Str → Option Value} {base : Heap} {G : List Addr}
variable {f : Addr} {fd : FuncData}
abbrev IV (P : Program) (w : World) (K : PySem.W.Frag) (mg : Str → Option Value) (base : Heap) (G : List Addr) : Prop := Cl0 P w K mg base 2 "is_variable" (spA G K R_iv)
theorem cl_iv (D : DefF K mg base G "is_variable" s_is_variable ["thing"] f fd) (m1 : mg "isinstance" = none) (m2 : mg "str" = none) (m3 : mg "all" = none) : IV P w K mg base G := by
  refine D.cl sc_is_variable (fun ds d r => by rcases r with ⟨x, rfl, _⟩ | ⟨es, rfl, _⟩ <;> rfl) fun c Pt A outer s H vs ds d Q E TB hP hr tG hv r q => ?_
  refine ⟨_, pss_cons (ps_if (PW.pt (pw_or (pt_not (pt_val (pe_callB call_isi (by rfl) m1 (by decide +kernel) (pa_cons (pv 0) (pa_cons (pe_bltn (v := .ty "str") (by rfl) m2 (by decide +kernel) rfl) pa_nil)))))
      (pw_or (pt_cmpR op_eq (pv 0) pe_str (nomark _)) (pw_or1 (pt_cmpR op_notIn_sign (pe_ix ix_str (pv 0) pe_int (fun _ _ => rfl)) pe_str rfl))))) (pss_one (ps_ret pe_bl)) pss_nil)
    (pss_one (ps_ret (pe_allG (own := [("sign", 1)]) hr sc_is_variable.nd TB rfl (blkOk_by (N := ["thing", "sign"]) (sc := defScope s_is_variable) (by decide +kernel)) m3 (pi_str (pe_slice sl_str (pv 0) (po_some pe_int) po_none))
      (fun s H C code fp A _ => pg_name (i := 1) sc_is_variable.nd rfl (Or.inl rfl)) (fun s H C code fp A _ => pts_nil) (fun s H C code fp A _ => pe_cmpR op_in_sign (pv 1) pe_str rfl)))), ?_⟩
  rcases r with ⟨x, rfl, hx, rfl⟩ | ⟨es, rfl, rfl⟩
  · obtain ⟨v, rfl, rv⟩ := arA_one hv
    have hz : x.length ≤ sizeLine := Nat.le_trans hx (by decide)
    have v0 : ∀ {H'}, Ext G H H' → Ed G K (tVar 0) [some v, none] H' (.str x) := fun y => ed_var (tG.ext y) rfl (dp_ext y tG (show Dp K H v (.str x) from rv))
    cases hl : x.cps.toList with
    | nil =>
      have ex : x = Str.ofString "" := Str.ext' (Array.toList_inj.mp hl)
      refine s_ifR (b := true) (edt_or (b := false) (edt_not (b := true) (edt_val (ed_isi (v0 (Ext.refl G H)) (kit_ty (show kitB "str" "str" = some true by decide +kernel))))) fun _ => edt_or (b := true) (c := true) (edt_test (ed_is (ed_op tG (v0 (Ext.refl G H)) ed_str rd_eqS) ?_)) fun z => by cases z) (fun _ H' y => ?_) (fun z => by cases z)
      · rw [ex]; rfl
      · refine s_ret (K := K) ed_bl fun u H2 y2 ru => q u H2 (y.trans y2) ?_
        have e : isVarS x = false := by unfold isVarS; rw [hl]
        rw [e]
        exact ru
    | cons cc r =>
      have nx : ¬ x = Str.ofString "" := fun z => by rw [z] at hl; cases hl
      have i0 : x.cps.toList[(0 : Int).toNat]? = some cc := by rw [hl]; rfl
      refine s_ifR (b := !decide (cc ∈ (Str.ofString "uvwxyz").cps.toList)) (edt_or (b := false) (edt_not (b := true) (edt_val (ed_isi (v0 (Ext.refl G H)) (kit_ty (show kitB "str" "str" = some true by decide +kernel))))) fun _ => edt_or (b := false) (edt_test (ed_is (ed_op tG (v0 (Ext.refl G H)) ed_str rd_eqS) ?_)) fun _ =>
        edt_test (ed_op tG (ed_op tG (v0 (Ext.refl G H)) ed_int (rd_ixS hz (Int.le_refl 0) i0)) ed_str rd_niSign)) (fun e H' y => ?_) (fun e H' y => ?_)
      · rw [decide_eq_false nx]
      · refine s_ret (K := K) ed_bl fun u H2 y2 ru => q u H2 (y.trans y2) ?_
        have e2 : isVarS x = false := by
          unfold isVarS
          rw [hl]
          simp only [Bool.not_eq_true'] at e
          simp only [e, Bool.false_and]
        rw [e2]
        exact ru
      · have tG' := tG.ext y
        refine s_ret (ed_allS hP tG' (ed_slS hz (v0 y) (fun _ _ _ z => ⟨_, rfl, z⟩) (fun _ _ _ z => z)) (List.mem_singleton.mpr rfl) fun d H1 y1 t1 => ed_op t1 (ed_var t1 rfl (.str _)) ed_str rd_inSign) fun u H2 y2 ru => q u H2 (y.trans y2) ?_
        have e2 : isVarS x = ((cutS x (some 1) none).cps.toList.all fun d => decide (d ∈ (Str.ofString "0123456789").cps.toList)) := by
          unfold isVarS
          rw [cutS_tail, hl]
          simp only [Bool.not_eq_false'] at e
          simp only [e, Bool.true_and, List.drop_succ_cons, List.drop_zero]
        rw [e2]
        exact ru
  · obtain ⟨v, rfl, rv⟩ := arA_one hv
    refine s_ifR (b := true) (edt_or (b := true) (c := true) (edt_not (b := false) (edt_val (ed_isi (ed_var tG rfl (show Dp K H v (.tuple es) from rv)) (kit_ty (show kitB "tuple" "str" = some false by decide +kernel))))) fun z => by cases z) (fun _ H' y => ?_) (fun z => by cases z)
    exact s_ret (K := K) ed_bl fun u H2 y2 ru => q u H2 (y.trans y2) ru
end
end Rh
set_option Elab.async false
set_option linter.all false
set_option maxRecDepth 100000
set_option maxHeartbeats 2000000
namespace Rh
open PySem PySem.Spec PyProof.Rows L2 GxR Gx Dl
def T.uses (x : Str) : T → Nat
  | .v y => if y = x then 1 else 0
  | .c _ => 0
  | .u _ t => t.uses x
  | .b _ t r => t.uses x + r.uses x
theorem T.size_n {t : T} (h : t.isV = false) : (t.size : Int) = 1 + (t.parts.map fun p => (p.size : Int)).sum := by
  cases t with
  | v x => cases h
  | c s => rfl
  | u s t => simp [T.size, T.parts]; omega
  | b s t r => simp [T.size, T.parts]; omega
theorem T.size_v {t : T} (h : t.isV = true) : t.size = 1 := by cases t <;> first | rfl | cases h
theorem T.uses_n {t : T} {x : Str} (h : t.isV = false) : (t.uses x : Int) = (t.parts.map fun p => (p.uses x : Int)).sum := by
  cases t with
  | v x => cases h
  | c s => rfl
  | u s t => simp [T.uses, T.parts]
  | b s t r => simp [T.uses, T.parts]
def R_size (n : Nat) : List Ar → PyData → Prop := fun as d => ∃ t : T, as = [.d (enc t)] ∧ t.ok ∧ t.dp < n ∧ d = .int t.size
def R_uses (n : Nat) : List Ar → PyData → Prop := fun as d => ∃ (t : T) (x : Str), as = [.d (enc t), .d (.str x)] ∧ t.ok ∧ t.dp < n ∧ d = .int (t.uses x)
section
variable {P : Program} {w : World} {K : PySem.W.Frag} {mg : Str → Option Value} {base : Heap} {G : List Addr} {f : Addr} {fd : FuncData}
/-- nothing is promised -/
theorem _root_.Dl.DefF.none {x : Str} {st : Stmt} {ps : List Str} {R : List Ar → PyData → Prop} (D : DefF K mg base G x st ps f fd) (h : ∀ as d, ¬ R as d) : Cl0 P w K mg base 0 x (spA G K R) := by
  obtain ⟨c, Pt, F, TB, hP⟩ := D.cP
  exact ⟨f, fd, ps, ⟨fun vs H Q E ⟨_, as, d, _, r, _⟩ => absurd r (h as d), fun A outer s H args us vs Q E _ _ _ _ ⟨_, as, d, _, r, _⟩ => absurd r (h as d)⟩, D.m, F.kp, D.b⟩
theorem ed_iv {σ : L2.St} {H : Hp} {te : TE} {t : T} (tG : TabsG G H) (o : t.ok) (h : Ed G K te σ H (enc t)) : Ed G K (tCall (spA G K R_iv) [] (fun _ _ _ => False) (tCons te tNil)) σ H (.bool t.isV) := ea_call tG (ea_one (edx_of h)) (r_iv o)

end
end Rh
set_option Elab.async false
set_option linter.all false
set_option maxRecDepth 100000
set_option maxHeartbeats 2000000
namespace Rh
open PySem PySem.Spec PyProof.Rows L2 GxR Gx Dl
/-- a table of numbers -/
abbrev Tb := List (Str × Int)
def encT (m : Tb) : List (Key × PyData) := m.map fun p => (.inr p.1, .int p.2)
def getT (m : Tb) (s : Str) : Option Int := (m.find? fun p => decide (p.1 = s)).map (·.2)
theorem valD_encT (m : Tb) (s : Str) : valD (encT m) (.inr s) = (getT m s).map PyData.int := by
  induction m with
  | nil => rfl
  | cons p r ih =>
    by_cases h : p.1 = s
    · simp [valD, encT, getT, List.find?_cons, h]
    · have h' : ¬ (Sum.inr p.1 : Key) = .inr s := fun z => h (by injection z)
      simp only [valD, encT, List.map_cons, List.find?_cons, decide_eq_false h', getT, decide_eq_false h]
      exact ih
def T.weight (m : Tb) (l : Int) : T → Int
  | .v _ => l
  | .c s => (getT m s).getD 0
  | .u s t => (getT m s).getD 0 + t.weight m l
  | .b s t r => (getT m s).getD 0 + (t.weight m l + r.weight m l)
/-- all signs stand in the table -/
def T.inT (m : Tb) : T → Prop
  | .v _ => True
  | .c s => (getT m s).isSome = true
  | .u s t => (getT m s).isSome = true ∧ t.inT m
  | .b s t r => (getT m s).isSome = true ∧ t.inT m ∧ r.inT m
theorem T.inT_sgn {m : Tb} {t : T} (h : t.inT m) (hv : t.isV = false) : ∃ k, getT m t.sgn = some k := by
  cases t with
  | v x => cases hv
  | c s => exact Option.isSome_iff_exists.mp h
  | u s t => exact Option.isSome_iff_exists.mp h.1
  | b s t r => exact Option.isSome_iff_exists.mp h.1
theorem T.inT_parts {m : Tb} {t p : T} (o : t.inT m) (h : p ∈ t.parts) : p.inT m := by
  cases t with
  | v x => cases h
  | c s => cases h
  | u s t =>
    rw [T.parts, List.mem_singleton] at h
    subst h
    exact o.2
  | b s t r =>
    rw [T.parts, List.mem_cons, List.mem_singleton] at h
    rcases h with h | h <;> subst h
    · exact o.2.1
    · exact o.2.2
theorem T.weight_n {m : Tb} {l : Int} {t : T} (h : t.isV = false) : t.weight m l = (getT m t.sgn).getD 0 + (t.parts.map fun p => p.weight m l).sum := by
  cases t with
  | v x => cases h
  | c s => simp [T.weight, T.parts, T.sgn]
  | u s t => simp [T.weight, T.parts, T.sgn]
  | b s t r => simp [T.weight, T.parts, T.sgn]
theorem T.weight_v {m : Tb} {l : Int} {t : T} (h : t.isV = true) : t.weight m l = l := by cases t <;> first | rfl | cases h
/-- one sign or more of a single part above a variable -/
def T.tower (x : Str) : T → Bool
  | .v y => decide (y = x)
  | .c _ => false
  | .u _ t => t.tower x
  | .b _ _ _ => false
/-- the variables down the spine are variables -/
def T.okW : T → Prop
  | .v x => isVarS x = true ∧ x.length ≤ 100000
  | .c _ => True
  | .u _ t => t.okW
  | .b _ _ _ => True
theorem T.ok.w {t : T} : t.ok → t.okW := by
  induction t with
  | v x => exact fun o => ⟨o.1, o.2.1⟩
  | c s => exact fun _ => True.intro
  | u s t ih => exact fun o => ih o.2
  | b s t r _ _ => exact fun _ => True.intro
theorem r_ivW {t : T} (o : t.okW) : R_iv [.d (enc t)] (.bool t.isV) := by
  cases t with
  | v x => exact .inl ⟨x, rfl, o.2, by rw [o.1]; rfl⟩
  | c s => exact .inr ⟨_, rfl, rfl⟩
  | u s t => exact .inr ⟨_, rfl, rfl⟩
  | b s t r => exact .inr ⟨_, rfl, rfl⟩
theorem ed_ivW {G : List Addr} {K : PySem.W.Frag} {σ : L2.St} {H : Hp} {te : TE} {t : T} (tG : TabsG G H) (o : t.okW) (h : Ed G K te σ H (enc t)) : Ed G K (tCall (spA G K R_iv) [] (fun _ _ _ => False) (tCons te tNil)) σ H (.bool t.isV) := ea_call tG (ea_one (edx_of h)) (r_ivW o)
abbrev Sub := List (Str × T)
def encSub (m : Sub) : List (Key × PyData) := m.map fun p => (.inr p.1, enc p.2)
def getS (m : Sub) (s : Str) : Option T := (m.find? fun p => decide (p.1 = s)).map (·.2)
theorem valD_encSub (m : Sub) (s : Str) : valD (encSub m) (.inr s) = (getS m s).map enc := by
  induction m with
  | nil => rfl
  | cons p r ih =>
    by_cases h : p.1 = s
    · simp [valD, encSub, getS, List.find?_cons, h]
    · have h' : ¬ (Sum.inr p.1 : Key) = .inr s := fun z => h (by injection z)
      simp only [valD, encSub, List.map_cons, List.find?_cons, decide_eq_false h', getS, decide_eq_false h]
      exact ih
def T.put (m : Sub) : T → T
  | .v x => (getS m x).getD (.v x)
  | .c s => .c s
  | .u s t => .u s (t.put m)
  | .b s t r => .b s (t.put m) (r.put m)
theorem T.put_n {m : Sub} {t : T} (h : t.isV = false) : enc (t.put m) = .tuple [.str t.sgn, .tuple (t.parts.map fun p => enc (p.put m))] := by cases t <;> first | rfl | cases h
def R_rank : List Ar → PyData → Prop := fun as d => ∃ (s : Str) (m : Tb) (k : Int), as = [.d (.str s), .k (encT m)] ∧ getT m s = some k ∧ d = .int k
def R_weight (n : Nat) : List Ar → PyData → Prop := fun as d => ∃ (t : T) (m : Tb) (l : Int), as = [.d (enc t), .k (encT m), .d (.int l)] ∧ t.ok ∧ t.inT m ∧ t.dp < n ∧ d = .int (t.weight m l)
def R_tower : List Ar → PyData → Prop := fun as d => ∃ (t : T) (x : Str), as = [.d (enc t), .d (.str x)] ∧ t.okW ∧ d = .bool (t.tower x)
def R_put (n : Nat) : List Ar → PyData → Prop := fun as d => ∃ (t : T) (m : Sub), as = [.d (enc t), .k (encSub m)] ∧ t.ok ∧ t.dp < n ∧ d = enc (t.put m)
section
variable {P : Program} {w : World} {K : PySem.W.Frag} {mg : Str → Option Value} {base : Heap} {G : List Addr} {f : Addr} {fd : FuncData}
end
end Rh
set_option Elab.async false
set_option linter.all false
set_option maxRecDepth 100000
set_option maxHeartbeats 2000000
namespace Rh
open PySem PySem.Spec PyProof.Rows L2 GxR Gx Dl
/-- how many places hold a variable -/
def T.lv : T → Nat
  | .v _ => 1
  | .c _ => 0
  | .u _ t => t.lv
  | .b _ t r => t.lv + r.lv
def T.vars : T → List Str
  | .v x => [x]
  | .c _ => []
  | .u _ t => srtS (ddS t.vars)
  | .b _ t r => srtS (ddS (t.vars ++ r.vars))
theorem T.vars_n {t : T} (h : t.isV = false) : t.vars = srtS (ddS (t.parts.flatMap T.vars)) := by
  cases t with
  | v x => cases h
  | c s => simp [T.vars, T.parts, ddS, srtS]
  | u s t => simp [T.vars, T.parts]
  | b s t r => simp [T.vars, T.parts]
theorem T.vars_len : ∀ t : T, t.vars.length ≤ t.lv
  | .v _ => Nat.le_refl _
  | .c _ => Nat.le_refl _
  | .u _ t => by
    have ih := T.vars_len t
    have := ddS_len t.vars
    rw [T.vars, srtS_len, T.lv]
    omega
  | .b _ t r => by
    have ih := T.vars_len t
    have ih2 := T.vars_len r
    have := ddS_len (t.vars ++ r.vars)
    rw [List.length_append] at this
    rw [T.vars, srtS_len, T.lv]
    omega
theorem T.flat_len (t : T) : (t.parts.flatMap T.vars).length ≤ t.lv := by
  cases t with
  | v x => exact Nat.zero_le _
  | c s => exact Nat.zero_le _
  | u s t => simpa [T.parts, T.lv] using T.vars_len t
  | b s t r =>
    have := T.vars_len t
    have := T.vars_len r
    simp [T.parts, T.lv]
    omega
theorem T.lv_parts {t p : T} (h : p ∈ t.parts) : p.lv ≤ t.lv := by
  cases t with
  | v x => cases h
  | c s => cases h
  | u s t =>
    rw [T.parts, List.mem_singleton] at h
    subst h
    exact Nat.le_refl _
  | b s t r =>
    rw [T.parts, List.mem_cons, List.mem_singleton] at h
    show _ ≤ t.lv + r.lv
    rcases h with h | h <;> subst h <;> omega
theorem T.vars_mem {x : Str} : ∀ t : T, x ∈ t.vars ↔ 0 < t.uses x
  | .v y => by
    rw [T.vars, T.uses, List.mem_singleton]
    by_cases h : y = x
    · simp [h]
    · have h' : ¬ x = y := fun z => h z.symm
      simp [h, h']
  | .c _ => by simp [T.vars, T.uses]
  | .u _ t => by rw [T.vars, srtS_mem, ddS_mem, T.uses, T.vars_mem t]
  | .b _ t r => by
    rw [T.vars, srtS_mem, ddS_mem, T.uses, List.mem_append, T.vars_mem t, T.vars_mem r]
    omega
def R_vars (n : Nat) : List Ar → PyData → Prop := fun as d => ∃ t : T, as = [.d (enc t)] ∧ t.ok ∧ t.dp < n ∧ t.lv < 64 ∧ d = .tuple (t.vars.map PyData.str)
def encP (p : List Nat) : PyData := .tuple (p.map fun (n : Nat) => PyData.int n)
def T.places : T → List (List Nat)
  | .v _ => [[]]
  | .c _ => [[]]
  | .u _ t => [] :: t.places.map (0 :: ·)
  | .b _ t r => [] :: (t.places.map (0 :: ·) ++ r.places.map (1 :: ·))
def T.at : T → List Nat → Option T
  | t, [] => some t
  | .v _, _ :: _ => none
  | .c _, _ :: _ => none
  | .u _ t1, k :: r => if k = 0 then t1.at r else none
  | .b _ t t2, k :: r => if k = 0 then t.at r else if k = 1 then t2.at r else none
theorem T.at_nil (t : T) : t.at [] = some t := by cases t <;> rfl
theorem T.at_cons {t r : T} {k : Nat} {p : List Nat} (h : t.at (k :: p) = some r) : ∃ q, t.parts[k]? = some q ∧ q.at p = some r ∧ t.isV = false := by
  cases t with
  | v x => cases h
  | c s => cases h
  | u s t =>
    rw [T.at] at h
    split at h
    · next e => subst e; exact ⟨t, rfl, h, rfl⟩
    · cases h
  | b s t t2 =>
    rw [T.at] at h
    split at h
    · next e => subst e; exact ⟨t, rfl, h, rfl⟩
    · split at h
      · next e => subst e; exact ⟨t2, rfl, h, rfl⟩
      · cases h
def tupD : PyData → List PyData
  | .tuple ds => ds
  | _ => []
theorem T.places_n {t : T} (h : t.isV = false) : .tuple ([PyData.tuple []] ++ flatE (fun (n : Nat) d => ((dec d).places.map encP).map fun e => PyData.tuple ([PyData.int n] ++ tupD e)) 0 (t.parts.map enc)) = PyData.tuple (t.places.map encP) := by
  have e0 : ∀ (n : Nat) (t : T), ((dec (enc t)).places.map encP).map (fun e => PyData.tuple ([PyData.int n] ++ tupD e)) = (t.places.map (n :: ·)).map encP := fun n t => by
    rw [dec_enc, List.map_map, List.map_map]
    refine List.map_congr_left fun p _ => ?_
    simp [encP, tupD]
  cases t with
  | v x => cases h
  | c s => rfl
  | u s t => simp only [T.parts, List.map_cons, List.map_nil, flatE, e0, T.places, List.append_nil]; rfl
  | b s t r => simp only [T.parts, List.map_cons, List.map_nil, flatE, e0, T.places, List.append_nil, List.map_append]; rfl
def R_at : List Ar → PyData → Prop := fun as d => ∃ (t r : T) (p : List Nat), as = [.d (enc t), .d (encP p)] ∧ t.ok ∧ t.at p = some r ∧ d = enc r
def R_places (n : Nat) : List Ar → PyData → Prop := fun as d => ∃ t : T, as = [.d (enc t)] ∧ t.ok ∧ t.dp < n ∧ n ≤ 12 ∧ d = .tuple (t.places.map encP)
theorem T.places_len : ∀ t : T, t.places.length = t.size
  | .v _ => rfl
  | .c _ => rfl
  | .u _ t => by simp [T.places, T.size, T.places_len t]
  | .b _ t r => by simp [T.places, T.size, T.places_len t, T.places_len r]
theorem T.size_le : ∀ t : T, t.size < 2 ^ (t.dp + 1)
  | .v _ => by simp [T.size, T.dp]
  | .c _ => by simp [T.size, T.dp]
  | .u _ t => by
    have := T.size_le t
    have e : 2 ^ (t.dp + 1 + 1) = 2 ^ (t.dp + 1) * 2 := Nat.pow_succ ..
    simp only [T.size, T.dp]
    omega
  | .b _ t r => by
    have h1 := T.size_le t
    have h2 := T.size_le r
    have p1 : 2 ^ (t.dp + 1) ≤ 2 ^ (max t.dp r.dp + 1) := Nat.pow_le_pow_right (by decide) (by omega)
    have p2 : 2 ^ (r.dp + 1) ≤ 2 ^ (max t.dp r.dp + 1) := Nat.pow_le_pow_right (by decide) (by omega)
    have e : 2 ^ (max t.dp r.dp + 1 + 1) = 2 ^ (max t.dp r.dp + 1) * 2 := Nat.pow_succ ..
    simp only [T.size, T.dp]
    omega
theorem T.places_deep : ∀ (t : T) (p : List Nat), p ∈ t.places → p.length ≤ t.dp
  | .v _, p, h => by simp [T.places] at h; simp [h]
  | .c _, p, h => by simp [T.places] at h; simp [h]
  | .u _ t, p, h => by
    rw [T.places, List.mem_cons] at h
    rcases h with h | h
    · simp [h]
    · obtain ⟨q, hq, rfl⟩ := List.mem_map.mp h
      have := T.places_deep t q hq
      simp only [List.length_cons, T.dp]
      omega
  | .b _ t r, p, h => by
    rw [T.places, List.mem_cons, List.mem_append] at h
    rcases h with h | h | h
    · simp [h]
    · obtain ⟨q, hq, rfl⟩ := List.mem_map.mp h
      have := T.places_deep t q hq
      simp only [List.length_cons, T.dp]
      omega
    · obtain ⟨q, hq, rfl⟩ := List.mem_map.mp h
      have := T.places_deep r q hq
      simp only [List.length_cons, T.dp]
      omega
section
variable {P : Program} {w : World} {K : PySem.W.Frag} {mg : Str → Option Value} {base : Heap} {G : List Addr} {f : Addr} {fd : FuncData}
end
end Rh
set_option Elab.async false
set_option linter.all false
set_option maxRecDepth 100000
set_option maxHeartbeats 2000000
namespace Dl
open PySem PySem.Spec PyProof.Rows L2 GxR Gx
theorem log2_mono {m n : Nat} (h : m ≤ n) : m.log2 ≤ n.log2 := by
  by_cases hm : m = 0
  · subst hm; simp
  · exact (Nat.le_log2 (by omega)).mpr (Nat.le_trans (Nat.log2_self_le hm) h)
/-- * of two factors of any size that a script can tell -/
def CMulB (i j : Int) : Prop := i.natAbs.log2 + j.natAbs.log2 < 100000000
theorem CMulB.ok {i j : Int} (h : CMulB i j) : IntMulOk i j := by
  have b : ∀ x : Int, Builtin.Int.intBits x ≤ x.natAbs.log2 + 1 := fun x => by
    unfold Builtin.Int.intBits
    split <;> omega
  have h1 := b i
  have h2 := b j
  have h3 : i.natAbs.log2 + j.natAbs.log2 < 100000000 := h
  have e : bitsLine = 134217728 := by decide
  unfold IntMulOk
  intro z
  rw [Bool.and_eq_true] at z
  have z2 := z.2
  unfold Builtin.Int.intTooBig at z2
  have z3 := of_decide_eq_true z2
  rw [e] at z3
  omega
theorem op_mulB {X : Cx} : OpR X (binaryOp .Mult) (rI CMulB fun i j => .int (i * j)) := opI fun _ _ _ _ _ _ _ hc q => mul_int q hc.ok
section
variable {P : Program} {w : World} {K : PySem.W.Frag} {mg : Str → Option Value} {base : Heap} {G : List Addr}
theorem DefF.clS {x : Str} {st : Stmt} {f : Addr} {fd : FuncData} {N ps : List Str} {k : Nat} {sp : Sp} (D : DefF K mg base G x st ps f fd) (S : FnScope N ps (defScope st)) (len : ∀ vs H Q E, sp vs H Q E → vs.length = ps.length)
    (hbody : ∀ (c Pt : Addr) (A : Around) (outer : List Env) (s : Shared) (H : Hp) (vs : List V) (Q : VK) (E : XK), TabB base mg c Pt → Pt ∈ G → Room k (A.deeper (envOfC x (defScope st) s.heap.objs.size f (.ref c))) → sp vs H Q E →
      ∃ t, PSs (cxOf CX0 P w K mg base N x (defScope st) f (.ref c) A outer s H E).nox (defBody st) t ∧ t { nx := fun _ H' => Q .non H', rt := Q } (start N vs) H) : Cl0 P w K mg base (k + 1) x sp := by
  obtain ⟨c, Pt, F, TB, hP⟩ := D.cP
  refine ⟨f, fd, ps, ?_, D.m, F.kp, D.b⟩
  obtain ⟨oc, od, kV, doc, pm, an, ct, osl, rfl, lk, hcd⟩ := F.ex
  refine fn_of lk hcd S len fun A outer s H vs Q E hr hsp => ?_
  obtain ⟨t, h, q⟩ := hbody c Pt A outer s H vs Q E TB hP hr hsp
  exact ⟨t, h.nox, q⟩
theorem _root_.Dl.DefF.noneS {x : Str} {st : Stmt} {ps : List Str} {f : Addr} {fd : FuncData} {sp : Sp} (D : DefF K mg base G x st ps f fd) (h : ∀ vs H Q E, ¬ sp vs H Q E) : Cl0 P w K mg base 0 x sp := by
  obtain ⟨c, Pt, F, TB, hP⟩ := D.cP
  exact ⟨f, fd, ps, ⟨fun vs H Q E z => absurd z (h _ _ _ _), fun A outer s H args us vs Q E _ _ _ _ z => absurd z (h _ _ _ _)⟩, D.m, F.kp, D.b⟩
end
/-- a dice: a list of three numbers -/
def DiceAt (n : Nat) (H : Hp) (D : Addr) : Prop := ∃ a b c : Int, H D = some (.lst [.int a, .int b, .int c]) ∧ a.natAbs.log2 < 2000000 ∧ 0 ≤ b ∧ b ≤ n
section
variable {G : List Addr} {K : PySem.W.Frag} {σ : L2.St} {H H' H1 : Hp} {D : Addr}
theorem Ext.wide (x : Ext G H H') : Ext (D :: G) H H' := ⟨fun a n o e => x.keep a (fun z => n (List.mem_cons_of_mem _ z)) o e, fun P hP t => by
  by_cases h : P ∈ G
  · exact x.tab P h t
  · obtain ⟨ps, e, z⟩ := t
    exact ⟨ps, x.keep P h _ e, z⟩⟩
theorem Ext.setD {xs : List V} {o : HO} (x : Ext (D :: G) H H1) (h : H1 D = some (.lst xs)) : Ext (D :: G) H (upd H1 D o) := ⟨fun a n o' e => by
  rw [upd_ne (fun z => n (by rw [z]; exact List.mem_cons_self))]
  exact x.keep a n o' e, fun P hP t => by
  have t1 := x.tab P hP t
  obtain ⟨ps, e, z⟩ := t1
  have ne : P ≠ D := fun q => by rw [q, h] at e; cases e
  exact ⟨ps, by rw [upd_ne ne]; exact e, z⟩⟩
theorem TabsG.wide (t : TabsG G H) (x : Ext (D :: G) H H') : TabsG G H' := fun P hP => x.tab P (List.mem_cons_of_mem _ hP) (t P hP)
theorem Ext.sqTD (x : Ext (D :: G) H H') (t : TabsG G H) {l : List V} (hD : H D = some (.lst l)) {a : Addr} {xs : List V} (h : SqT K H a xs) : SqT K H' a xs := by
  rcases h with h | h
  · refine .inl ?_
    have ne : ∀ {o}, H a = some o → o ≠ .lst l → (∀ ps, o ≠ .tbl ps) → H' a = some o := fun e n1 n2 => x.keep a (fun z => by
      rcases List.mem_cons.mp z with z | z
      · rw [z, hD] at e
        exact n1 (Option.some.inj e).symm
      · exact notTab t e n2 z) _ e
    rcases h with h | ⟨o, h⟩
    · exact .inl (ne h (fun z => by cases z) (fun ps z => by cases z))
    · exact .inr ⟨o, ne h (fun z => by cases z) (fun ps z => by cases z)⟩
  · exact .inr h
theorem dp_extD (x : Ext (D :: G) H H') (t : TabsG G H) {l : List V} (hD : H D = some (.lst l)) {v : V} {d : PyData} (hp : Pu d = true) (h : Dp K H v d) : Dp K H' v d := dp_tups (fun _ _ q => x.sqTD t hD q) hp h
theorem dkR_D (x : Ext (D :: G) H H') (t : TabsG G H) {l : List V} (hD : H D = some (.lst l)) : ∀ {ks : List (Key × V)} {es : List (Key × PyData)}, (∀ e ∈ es, Pu e.2 = true) → DkR K H ks es → DkR K H' ks es
  | _, _, _, .nil => .nil
  | _, _, hp, .cons a r => .cons (dp_extD x t hD (hp _ List.mem_cons_self) a) (dkR_D x t hD (fun e he => hp e (List.mem_cons_of_mem _ he)) r)
theorem ar_extD (x : Ext (D :: G) H H') (t : TabsG G H) {l : List V} (hD : H D = some (.lst l)) {v : V} {es : List (Key × PyData)} (hp : ∀ e ∈ es, Pu e.2 = true) : ArR K H v (.k es) → ArR K H' v (.k es) := fun ⟨a, kvs, e, h, r⟩ =>
  ⟨a, kvs, e, x.keep a (fun z => by
    rcases List.mem_cons.mp z with z | z
    · rw [z, hD] at h
      cases h
    · exact notTab t h (fun ps z => by cases z) z) _ h, dkR_D x t hD hp r⟩
theorem rdIx {xs : List V} {i : Int} {j : Nat} {v : V} {Q : VK} (h : σ[j]? = some (some (.ref D))) (hD : H D = some (.lst xs)) (hi : 0 ≤ i) (hx : xs[i.toNat]? = some v) (q : Q v H) : tOp (rIxL K) (tVar j) (tC (.int i)) σ H Q :=
  ⟨.ref D, h, D, xs, i, v, rfl, rfl, SqL.of hD, atI_get hi hx, q⟩
theorem s_retL {tA : TA} {ds : List PyData} {En : Ends} (tG : TabsG G H) (h : EdA G K tA σ H ds) (hl : ds.length ≤ sizeLine) (q : ∀ vs p H', Ext G H H' → DpAll K H' vs ds → H p = none → H' p = none → En.rt (.ref p) (upd H' p (.lst vs))) : tRet (tLst tA) En σ H :=
  h H (Ext.refl G H) _ fun vs H2 x2 rs => ⟨by rw [dpA_len rs]; exact hl, fun p hp => q vs p H2 x2 rs (x2.fresh tG hp) hp⟩
theorem rd_modN {i j : Int} (hj : j ≠ 0) : Rd2 G K (rI (fun _ j => j ≠ 0) fun i j => .int (i.fmod j)) (.int i) (.int j) (.int (i.fmod j)) H := fun H1 _ v u rv ru Q q => by
  rw [dp_int rv, dp_int ru]
  exact ⟨i, j, rfl, rfl, hj, q _ H1 (Ext.refl G H1) (.int _)⟩
theorem rd_pow {i j : Int} (h : CPow i j) : Rd2 G K (rI CPow fun i j => .int (i ^ j.toNat)) (.int i) (.int j) (.int (i ^ j.toNat)) H := fun H1 _ v u rv ru Q q => by
  rw [dp_int rv, dp_int ru]
  exact ⟨i, j, rfl, rfl, h, q _ H1 (Ext.refl G H1) (.int _)⟩
theorem rdc_intI {i : Int} : RdC G K (fun xs H Q => (∃ i, xs = [.int i] ∧ Q (.int i) H) ∨ ∃ k, xs = [.bl k] ∧ Q (.int (if k then 1 else 0)) H) [.int i] (.int i) H := fun H1 x vs rs Q q => by
  obtain ⟨v, rfl, rv⟩ := dpA_one rs
  exact .inl ⟨i, by rw [dp_int rv], q _ H1 (Ext.refl G H1) (.int _)⟩
theorem rd_fdivN {i j : Int} (hj : CDivN i j) : Rd2 G K (rI CDivN fun i j => .int (i.fdiv j)) (.int i) (.int j) (.int (i.fdiv j)) H := fun H1 _ v u rv ru Q q => by
  rw [dp_int rv, dp_int ru]
  exact ⟨i, j, rfl, rfl, hj, q _ H1 (Ext.refl G H1) (.int _)⟩
theorem rd_mulB {i j : Int} (hj : CMulB i j) : Rd2 G K (rI CMulB fun i j => .int (i * j)) (.int i) (.int j) (.int (i * j)) H := fun H1 _ v u rv ru Q q => by
  rw [dp_int rv, dp_int ru]
  exact ⟨i, j, rfl, rfl, hj, q _ H1 (Ext.refl G H1) (.int _)⟩
theorem rd_mul {i j : Int} (hj : CMul i j) : Rd2 G K (rI CMul fun i j => .int (i * j)) (.int i) (.int j) (.int (i * j)) H := fun H1 _ v u rv ru Q q => by
  rw [dp_int rv, dp_int ru]
  exact ⟨i, j, rfl, rfl, hj, q _ H1 (Ext.refl G H1) (.int _)⟩
theorem ed_ixD {xs : List V} {j : Nat} {i : Int} {a : Int} (tG : TabsG G H) (h : σ[j]? = some (some (.ref D))) (hD : H D = some (.lst xs)) (hi : 0 ≤ i) (hx : xs[i.toNat]? = some (.int a)) : Ed G K (tOp (rIxL K) (tVar j) (tC (.int i))) σ H (.int a) :=
  fun H1 x Q q => rdIx h (x.at tG hD (fun ps z => by cases z)) hi hx (q _ H1 (Ext.refl G H1) (.int _))
theorem s_setD {te : TE} {xs : List V} {j i : Nat} {k : Int} {e : Int} {En : Ends} (tG : TabsG G H) (h : Ed G K te σ H (.int e)) (hs : σ[j]? = some (some (.ref D))) (hD : H D = some (.lst xs)) (hj : ixN xs.length k = some i)
    (q : ∀ H1, Ext G H H1 → H1 D = some (.lst xs) → En.nx σ (upd H1 D (.lst (xs.set i (.int e))))) : tAsg te (gSub (tVar j) (tC (.int k)) rSetL) En σ H := h H (Ext.refl G H) _ fun v H2 x2 rv => by
  rw [dp_int rv]
  have e2 := x2.at tG hD (fun ps z => by cases z)
  exact ⟨.ref D, hs, D, xs, k, i, rfl, rfl, e2, hj, q H2 x2 e2⟩
theorem rdc_abs {i : Int} : RdC G K (fun xs H Q => ∃ i, xs = [.int i] ∧ Q (.int (if i < 0 then -i else i)) H) [.int i] (.int (if i < 0 then -i else i)) H := fun H1 x vs rs Q q => by
  obtain ⟨v, rfl, rv⟩ := dpA_one rs
  exact ⟨i, by rw [dp_int rv], q _ H1 (Ext.refl G H1) (.int _)⟩
end
end Dl
namespace Rh
open PySem PySem.Spec PyProof.Rows L2 GxR Gx Dl
theorem sc_dice : FnScope ["cell"] ["cell"] (defScope s_dice) := ⟨rfl, rfl, rfl, by decide +kernel, rfl, by decide +kernel, by decide +kernel⟩
theorem sc_roll : FnScope ["dice", "many", "found"] ["dice", "many"] (defScope s_roll) := ⟨rfl, rfl, rfl, by decide +kernel, rfl, by decide +kernel, by decide +kernel⟩
def spDice (G : List Addr) : Sp := fun vs H Q _ => TabsG G H ∧ ∃ c : Int, vs = [.int c] ∧ c.natAbs.log2 < 2000000 ∧ ∀ p H', Ext G H H' → H p = none → DiceAt 1100 H' p → Q (.ref p) H'
def spRoll (G : List Addr) : Sp := fun vs H Q _ => TabsG G H ∧ ∃ (D : Addr) (m n : Nat), vs = [.ref D, .int m] ∧ 0 < m ∧ m < 1000000 ∧ n < 1000000000 ∧ DiceAt n H D ∧ ∀ (r : Nat) H', r < m → Ext (D :: G) H H' → DiceAt (n + 1) H' D → Q (.int r) H'
section
variable {P : Program} {w : World} {K : PySem.W.Frag} {mg : Str → Option Value} {base : Heap} {G : List Addr} {f : Addr} {fd : FuncData}
theorem cl_dice (D : DefF K mg base G "_law_dice" s_dice ["cell"] f fd) (m1 : mg "abs" = none) (m2 : mg "int" = none) : Cl0 P w K mg base 1 "_law_dice" (spDice G) := by
  refine D.clS (k := 0) sc_dice (fun vs H Q E h => by obtain ⟨_, _, rfl, _⟩ := h; rfl) fun c Pt A outer s H vs Q E TB hP hr h => ?_
  refine ⟨_, pss_cons (ps_if (pt_chain op_lt op_lt (pe_op op_sub pe_int pe_int) (pv 0) pe_int) (pss_one (ps_ret (pe_lst (pa_cons (pe_callB call_abs (by rfl) m1 (by decide +kernel) (pa_cons (pv 0) pa_nil)) (pa_cons pe_int (pa_cons pe_int pa_nil)))))) pss_nil)
    (pss_one (ps_ret (pe_lst (pa_cons (pv 0) (pa_cons (pe_op op_add pe_int (pe_op op_modN (pe_callTy call_int1 (by rfl) m2 (by decide +kernel) (pa_cons (pv 0) pa_nil)) pe_int))
      (pa_cons (pe_callTy call_int1 (by rfl) m2 (by decide +kernel) (pa_cons (pe_cmpR op_ge (pv 0) (pe_op op_pow pe_int pe_int) (nomark _)) pa_nil)) pa_nil)))))), ?_⟩
  obtain ⟨tG, z, rfl, hz, q⟩ := h
  have v0 : ∀ {H'}, Ext G H H' → Ed G K (tVar 0) [some (.int z)] H' (.int z) := fun y => ed_var (tG.ext y) rfl (.int z)
  have rf := Ext.refl G H
  refine s_ifR (edt_test (ed_chain tG (ed_op tG ed_int ed_int rd_sub) (v0 rf) rd_ltI ed_int rd_ltI)) (fun h H2 y => ?_) fun h H2 y => ?_
  · have t2 := tG.ext y
    refine s_retL (K := K) t2 (ed_cons t2 (ed_cb (ed_one (v0 y)) rdc_abs) (ed_cons t2 ed_int (ed_one ed_int))) (by show 3 ≤ sizeLine; decide) fun vs p H3 y3 rs hp hp3 => ?_
    obtain ⟨w1, w2, w3, rfl, r1, r2, r3⟩ := dpA_three rs
    rw [dp_int r1, dp_int r2, dp_int r3]
    refine q p _ ((y.trans y3).trans (Ext.new hp3)) (y.fresh tG hp) ⟨_, _, _, upd_same, ?_, by decide, by decide⟩
    split
    · rw [Int.natAbs_neg]; exact hz
    · exact hz
  · have t2 := tG.ext y
    refine s_retL (K := K) t2 (ed_cons t2 (v0 y) (ed_cons t2 (ed_op t2 ed_int (ed_op t2 (ed_cb (ed_one (v0 y)) rdc_intI) ed_int (rd_modN (by decide))) rd_add) (ed_one (ed_cb (ed_one (ed_op t2 (v0 y) (ed_op t2 ed_int ed_int (rd_pow ⟨by decide, by decide, by decide⟩)) rd_geI)) rdc_int)))) (by show 3 ≤ sizeLine; decide) fun vs p H3 y3 rs hp hp3 => ?_
    obtain ⟨w1, w2, w3, rfl, r1, r2, r3⟩ := dpA_three rs
    rw [dp_int r1, dp_int r2, dp_int r3]
    refine q p _ ((y.trans y3).trans (Ext.new hp3)) (y.fresh tG hp) ⟨_, _, _, upd_same, hz, ?_, ?_⟩
    · rw [Int.fmod_eq_emod_of_nonneg _ (by decide)]; omega
    · rw [Int.fmod_eq_emod_of_nonneg _ (by decide)]; omega
theorem cl_roll (D : DefF K mg base G "_law_roll" s_roll ["dice", "many"] f fd) (m2 : mg "int" = none) : Cl0 P w K mg base 1 "_law_roll" (spRoll G) := by
  refine D.clS (k := 0) sc_roll (fun vs H Q E h => by obtain ⟨_, _, _, _, rfl, _⟩ := h; rfl) fun c Pt A outer s H vs Q E TB hP hr h => ?_
  refine ⟨_, pss_cons (ps_if (PW.pt (pw_or (pt_cmpR op_eq (pe_ix ix_list (pv 0) pe_int (fun _ _ => rfl)) pe_int (nomark _)) (pw_or1 (PW.pt (pw_and (pt_cmpR op_eq (pe_ix ix_list (pv 0) pe_int (fun _ _ => rfl)) pe_int (nomark _)) (pw_and1 (pt_cmpR op_gt (pe_ix ix_list (pv 0) pe_int (fun _ _ => rfl)) pe_int (nomark _))))))))
      (pss_cons (ps_set (i := 2) sc_roll.nd rfl (Or.inl rfl) (pe_op op_modN (pe_callTy call_int1 (by rfl) m2 (by decide +kernel) (pa_cons (pe_ix ix_list (pv 0) pe_int (fun _ _ => rfl)) pa_nil)) (pv 1)))
      (pss_cons (ps_asg (pe_op op_fdivN (pe_ix ix_list (pv 0) pe_int (fun _ _ => rfl)) (pv 1)) (pg_sub (pv 0) pe_int set_list)) (pss_one (ps_ret (pv 2))))) pss_nil)
    (pss_cons (ps_asg pe_int (pg_sub (pv 0) pe_int set_list))
    (pss_cons (ps_asg (pe_op op_modN (pe_callTy call_int1 (by rfl) m2 (by decide +kernel) (pa_cons (pe_op op_add (pe_op op_add (pe_op op_mulB (pe_ix ix_list (pv 0) pe_int (fun _ _ => rfl)) pe_int) (pe_op op_mul (pe_ix ix_list (pv 0) pe_int (fun _ _ => rfl)) pe_int)) pe_int) pa_nil)) pe_int) (pg_sub (pv 0) pe_int set_list))
    (pss_cons (ps_asg (pe_op op_add (pe_ix ix_list (pv 0) pe_int (fun _ _ => rfl)) pe_int) (pg_sub (pv 0) pe_int set_list))
    (pss_one (ps_ret (pe_op op_modN (pe_callTy call_int1 (by rfl) m2 (by decide +kernel) (pa_cons (pe_op op_add (pe_op op_fdivN (pe_ix ix_list (pv 0) pe_int (fun _ _ => rfl)) pe_int) (pe_ix ix_list (pv 0) pe_int (fun _ _ => rfl))) pa_nil)) (pv 1))))))), ?_⟩
  obtain ⟨tG, D, m, n, rfl, hm, hm2, hn, ⟨a, b, z, hD, ha, hb, hb2⟩, q⟩ := h
  have rf := Ext.refl G H
  have ix : ∀ {H' : Hp} {c0 : Option V} {x y u e : Int} {i : Int}, TabsG G H' → H' D = some (.lst [.int x, .int y, .int u]) → 0 ≤ i → [V.int x, V.int y, V.int u][i.toNat]? = some (.int e) → Ed G K (tOp (rIxL K) (tVar 0) (tC (.int i))) [some (.ref D), some (.int m), c0] H' (.int e) :=
    fun t h h0 hx => ed_ixD t rfl h h0 hx
  have v1 : ∀ {H' : Hp} {c0 : Option V}, TabsG G H' → Ed G K (tVar 1) [some (.ref D), some (.int m), c0] H' (.int m) := fun t => ed_var t rfl (.int _)
  have hmn : ((m : Int)) ≠ 0 := by omega
  have fm : ∀ i : Int, ∃ r : Nat, r < m ∧ i.fmod m = r := fun i => by
    rw [Int.fmod_eq_emod_of_nonneg _ (by omega)]
    have h1 := Int.emod_nonneg i hmn
    have h2 := Int.emod_lt_of_pos i (show (0 : Int) < m by omega)
    exact ⟨(i % m).toNat, by omega, by omega⟩
  refine s_ifR (edt_or (edt_test (ed_op tG (ix tG hD (by decide) rfl) ed_int rd_eqI)) fun _ => edt_and (edt_test (ed_op tG (ix tG hD (by decide) rfl) ed_int rd_eqI)) fun _ => edt_test (ed_op tG (ix tG hD (by decide) rfl) ed_int rd_gtI)) (fun _ H2 y => ?_) fun _ H2 y => ?_
  · have t2 := tG.ext y
    have d2 := y.at tG hD (fun ps z => by cases z)
    refine s_set (K := K) (ed_op t2 (ed_cb (ed_one (ix t2 d2 (by decide) rfl)) rdc_intI) (v1 t2) (rd_modN hmn)) fun v H3 y3 rv => ?_
    obtain ⟨r, hr1, hr2⟩ := fm a
    have t3 := t2.ext y3
    have d3 := y3.at t2 d2 (fun ps z => by cases z)
    rw [dp_int rv, hr2]
    refine s_setD (K := K) t3 (ed_op t3 (ix t3 d3 (by decide) rfl) (v1 t3) (rd_fdivN ⟨hmn, by omega⟩)) rfl d3 rfl fun H4 y4 d4 => ?_
    have y5 := (y.trans y3).trans y4
    refine ⟨.int r, rfl, q r _ hr1 (Ext.setD (y5.wide) d4) ⟨_, _, _, upd_same, ?_, hb, by omega⟩⟩
    refine Nat.lt_of_le_of_lt (log2_mono ?_) ha
    exact Int.natAbs_fdiv_le_natAbs a m
  · have t2 := tG.ext y
    have d2 := y.at tG hD (fun ps z => by cases z)
    refine s_setD (K := K) t2 ed_int rfl d2 rfl fun H3 y3 d3 => ?_
    have x3 : Ext (D :: G) H (upd H3 D (.lst [.int a, .int b, .int 0])) := Ext.setD ((y.trans y3).wide) d3
    have t3 := tG.wide x3
    have e3 : (upd H3 D (.lst [.int a, .int b, .int 0])) D = some (.lst [.int a, .int b, .int 0]) := upd_same
    refine s_setD (K := K) (e := (a * 48271 + b * 69621 + 11).fmod 2147483647) t3 (ed_op t3 (ed_cb (ed_one (ed_op t3 (ed_op t3 (ed_op t3 (ix t3 e3 (by decide) rfl) ed_int (rd_mulB ?_)) (ed_op t3 (ix t3 e3 (by decide) rfl) ed_int (rd_mul (.inl ⟨by omega, by omega⟩))) rd_add) ed_int rd_add)) rdc_intI) ed_int (rd_modN (by decide))) rfl e3 rfl fun H4 y4 d4 => ?_
    · have : (48271 : Int).natAbs.log2 < 100 := by decide
      unfold CMulB
      omega
    generalize ea : (a * 48271 + b * 69621 + 11).fmod 2147483647 = a' at *
    have ha' : 0 ≤ a' ∧ a' < 2147483647 := by
      rw [Int.fmod_eq_emod_of_nonneg _ (by decide)] at ea
      omega
    have x4 : Ext (D :: G) H (upd H4 D (.lst [.int a', .int b, .int 0])) := Ext.setD (x3.trans y4.wide) d4
    have t4 := tG.wide x4
    have e4 : (upd H4 D (.lst [.int a', .int b, .int 0])) D = some (.lst [.int a', .int b, .int 0]) := upd_same
    refine s_setD (K := K) (e := b + 1) t4 (ed_op t4 (ix t4 e4 (by decide) rfl) ed_int rd_add) rfl e4 rfl fun H5 y5 d5 => ?_
    have x5 : Ext (D :: G) H (upd H5 D (.lst [.int a', .int (b + 1), .int 0])) := Ext.setD (x4.trans y5.wide) d5
    have t5 := tG.wide x5
    have e5 : (upd H5 D (.lst [.int a', .int (b + 1), .int 0])) D = some (.lst [.int a', .int (b + 1), .int 0]) := upd_same
    refine s_ret (K := K) (ed_op t5 (ed_cb (ed_one (ed_op t5 (ed_op t5 (ix t5 e5 (by decide) rfl) ed_int (rd_fdivN ⟨by decide, by decide⟩)) (ix t5 e5 (by decide) rfl) rd_add)) rdc_intI) (v1 t5) (rd_modN hmn)) fun v H6 y6 rv => ?_
    obtain ⟨r, hr1, hr2⟩ := fm (a'.fdiv 7 + a')
    rw [dp_int rv, hr2]
    refine q r H6 hr1 (x5.trans y6.wide) ⟨a', b + 1, 0, y6.at t5 e5 (fun ps z => by cases z), ?_, by omega, by omega⟩
    have e9 : a'.natAbs < 2 ^ 100 := by omega
    have := PySem.Flt.log2_lt_of (by decide) e9
    omega
end
end Rh

set_option Elab.async false
set_option linter.all false
set_option maxRecDepth 100000
set_option maxHeartbeats 2000000
namespace Dl
open PySem PySem.Spec PyProof.Rows L2 GxR Gx
section
variable {G : List Addr} {K : PySem.W.Frag} {H H' : Hp} {D : Addr}
theorem DiceAt.mono {n m : Nat} (d : DiceAt n H D) (h : n ≤ m) : DiceAt m H D := by
  obtain ⟨a, b, c, e, h1, h2, h3⟩ := d
  exact ⟨a, b, c, e, h1, h2, by omega⟩
theorem DiceAt.ext {n : Nat} (d : DiceAt n H D) (t : TabsG G H) (x : Ext G H H') : DiceAt n H' D := by
  obtain ⟨a, b, c, e, h⟩ := d
  exact ⟨a, b, c, x.at t e (fun ps z => by cases z), h⟩
theorem DiceAt.new {n : Nat} (d : DiceAt n H D) : ∃ l, H D = some (.lst l) := by
  obtain ⟨a, b, c, e, h⟩ := d
  exact ⟨_, e⟩
theorem DiceAt.upd {n : Nat} {p : Addr} {o : HO} (d : DiceAt n H D) (h : D ≠ p) : DiceAt n (upd H p o) D := by
  obtain ⟨a, b, c, e, z⟩ := d
  exact ⟨a, b, c, by rw [upd_ne h]; exact e, z⟩
theorem dp_lstD (x : Ext (D :: G) H H') (t : TabsG G H) {l : List V} (hD : H D = some (.lst l)) {a : Addr} {ds : List PyData} (ha : a ≠ D) (hp : PuA ds = true) (h : Dp K H (.ref a) (.list ds)) : Dp K H' (.ref a) (.list ds) := by
  cases h with
  | lst h r =>
    have k : ∀ o, H a = some o → (∀ ps, o ≠ .tbl ps) → H' a = some o := fun o e n => x.keep a (fun z => by
      rcases List.mem_cons.mp z with z | z
      · exact ha z
      · exact notTab t e n z) o e
    refine .lst ?_ (dpA_tups (fun _ _ q => x.sqTD t hD q) hp r)
    rcases h with h | h
    · refine .inl ?_
      rcases h with h | ⟨o, h⟩
      · exact .inl (k _ h (fun ps z => by cases z))
      · exact .inr ⟨o, k _ h (fun ps z => by cases z)⟩
    · exact .inr h
theorem tcall1 {σ : L2.St} {sp : Sp} {te : TE} {v : V} {Q : VK} {E : XK} (h1 : ∀ Q : VK, Q v H → te σ H Q) (h : sp [v] H Q E) : tCall sp [] E (tCons te tNil) σ H Q := h1 _ (show sp ([v] ++ []) H Q E from h)
theorem tcall2 {σ : L2.St} {sp : Sp} {te tf : TE} {v u : V} {Q : VK} {E : XK} (h1 : ∀ Q : VK, Q v H → te σ H Q) (h2 : ∀ Q : VK, Q u H → tf σ H Q) (h : sp [v, u] H Q E) : tCall sp [] E (tCons te (tCons tf tNil)) σ H Q := h1 _ (h2 _ (show sp ([v, u] ++ []) H Q E from h))
theorem tcall3 {σ : L2.St} {sp : Sp} {te tf tg : TE} {v u w : V} {Q : VK} {E : XK} (h1 : ∀ Q : VK, Q v H → te σ H Q) (h2 : ∀ Q : VK, Q u H → tf σ H Q) (h3 : ∀ Q : VK, Q w H → tg σ H Q) (h : sp [v, u, w] H Q E) : tCall sp [] E (tCons te (tCons tf (tCons tg tNil))) σ H Q := h1 _ (h2 _ (h3 _ (show sp ([v, u, w] ++ []) H Q E from h)))
theorem dpA_strsInv : ∀ {vs : List V} {xs : List Str}, DpAll K H vs (xs.map PyData.str) → vs = xs.map V.str
  | _, [], .nil => rfl
  | _, _ :: _, .cons a r => by
    rw [dp_str a, dpA_strsInv r]
    rfl
theorem puA_strs (xs : List Str) : PuA (xs.map PyData.str) = true := puA_all.mpr fun d hd => by
  obtain ⟨x, _, rfl⟩ := List.mem_map.mp hd
  rfl
end
end Dl
namespace Rh
open PySem PySem.Spec PyProof.Rows L2 GxR Gx Dl
theorem sc_rounds : FnScope ["script", "most", "cells", "cell"] ["script", "most"] (defScope s_rounds) := ⟨rfl, rfl, rfl, by decide +kernel, rfl, by decide +kernel, by decide +kernel⟩
theorem sc_term : FnScope ["dice", "deep", "names", "kind", "row"] ["dice", "deep", "names"] (defScope s_term) := ⟨rfl, rfl, rfl, by decide +kernel, rfl, by decide +kernel, by decide +kernel⟩
def T.drawn (xs : List Str) : T → Prop
  | .v x => x ∈ xs
  | .c s => s = Str.ofString "a" ∨ s = Str.ofString "b"
  | .u s t => s = Str.ofString "g" ∧ t.drawn xs
  | .b s t r => s = Str.ofString "f" ∧ t.drawn xs ∧ r.drawn xs
def cst : Nat → Nat
  | 0 => 2
  | d + 1 => 2 * cst d + 2
def spTerm (G : List Addr) (K : PySem.W.Frag) (k : Nat) : Sp := fun vs H Q _ => TabsG G H ∧ ∃ (D Nm : Addr) (d n : Nat) (xs : List Str), vs = [.ref D, .int d, .ref Nm] ∧ d < k ∧ k < 100 ∧ n + cst d < 1000000000 ∧ DiceAt n H D ∧ Nm ≠ D ∧ Dp K H (.ref Nm) (.list (xs.map PyData.str)) ∧ xs.length ≤ 10 ∧
  ∀ v H' t, Ext (D :: G) H H' → DiceAt (n + cst d) H' D → Dp K H' v (enc t) → t.dp ≤ d → t.drawn xs → Q v H'
def spRounds (G : List Addr) (K : PySem.W.Frag) : Sp := fun vs H Q _ => TabsG G H ∧ ∃ (S : Addr) (ns : List Int), vs = [.ref S, .int 3] ∧ SqL K H S (ns.map V.int) ∧ ns.length ≤ 63 ∧ (∀ z ∈ ns, z.natAbs.log2 < 2000000) ∧
  ∀ (L : Addr) (ps : List Addr) (H' : Hp), Ext G H H' → H' L = some (.lst (ps.map V.ref)) → ps.Nodup → (∀ p ∈ ps, DiceAt 1100 H' p) → Q (.ref L) H'
theorem dpA_ints {K : PySem.W.Frag} {H : Hp} : ∀ ns : List Int, DpAll K H (ns.map V.int) (ns.map PyData.int)
  | [] => .nil
  | _ :: r => .cons (.int _) (dpA_ints r)
section
variable {P : Program} {w : World} {K : PySem.W.Frag} {mg : Str → Option Value} {base : Heap} {G : List Addr} {f : Addr} {fd : FuncData}
theorem cl_rounds (D : DefF K mg base G "_law_rounds" s_rounds ["script", "most"] f fd) (di : Cl0 P w K mg base 1 "_law_dice" (spDice G)) : Cl0 P w K mg base 2 "_law_rounds" (spRounds G K) := by
  refine D.clS (k := 1) sc_rounds (fun vs H Q E h => by obtain ⟨_, _, _, rfl, _⟩ := h; rfl) fun c Pt A outer s H vs Q E TB hP hr h => ?_
  refine ⟨_, pss_cons (ps_set (i := 2) sc_rounds.nd rfl (Or.inl rfl) (pe_slice sl_list (pv 0) po_none (po_some (pv 1))))
    (pss_cons (ps_if (pt_cmpR (op_eqD hr.units) (pv 2) (pe_lst pa_nil) (nomark _)) (pss_one (ps_set (i := 2) sc_rounds.nd rfl (Or.inl rfl) (pe_lst (pa_cons pe_int pa_nil)))) pss_nil)
    (pss_one (ps_ret (pe_lc (own := [("cell", 3)]) (g := gName 3) (tt := tYes) rfl sc_rounds.nd (pi_list (pv 2)) (blkOk_by (N := ["script", "most", "cells", "cell"]) (sc := defScope s_rounds) (by decide +kernel))
      (fun _ _ _ _ _ => pg_name (i := 3) sc_rounds.nd rfl (Or.inl rfl)) (fun _ _ _ _ _ => pts_nil) (fun _ _ _ _ _ => pe_cl di hr rfl (pa_cons (pv 3) pa_nil)))))), ?_⟩
  obtain ⟨tG, S, ns, rfl, hS, h63, hb, q⟩ := h
  refine ⟨.ref S, rfl, .int 3, rfl, 3, rfl, S, _, rfl, hS, fun p hp => ?_⟩
  generalize ecu : cutV (ns.map V.int) none (some 3) = cu
  obtain ⟨ms, rfl, hm63, hmb⟩ : ∃ ms : List Int, cu = ms.map V.int ∧ ms.length ≤ 63 ∧ ∀ z ∈ ms, z.natAbs.log2 < 2000000 := by
    rw [← ecu]
    unfold cutV
    refine ⟨(ns.drop _).take _, by rw [← List.map_drop, ← List.map_take], ?_, fun z hz => hb z (List.mem_of_mem_drop (List.mem_of_mem_take hz))⟩
    rw [List.length_take, List.length_drop]
    omega
  clear ecu
  have x1 : Ext G H (upd H p (.lst (ms.map V.int))) := Ext.new hp
  have fin : ∀ (zs : List Int) (pz : Addr) (Hz : Hp), Ext G H Hz → Hz pz = some (.lst (zs.map V.int)) → zs.length ≤ 63 → (∀ z ∈ zs, z.natAbs.log2 < 2000000) →
      tRet (tLc (iList K (tVar 2)) (gName 3) tYes (tCall (spDice G) [] (fun _ _ _ => False) (tCons (tVar 3) tNil)) [3]) { nx := fun _ H' => Q .non H', rt := Q } [some (.ref S), some (.int 3), some (.ref pz), none] Hz := fun zs pz Hz xz ez lz bz => by
    have tz := tG.ext xz
    refine ⟨.ref pz, rfl, pz, rfl, ⟨_, SqL.of ez⟩, fun L hL => ?_⟩
    refine lc_list (K := K) (a := pz) (xs := zs.map V.int) (fun i Hk => Ext G Hz Hk ∧ ∃ ps : List Addr, Hk L = some (.lst (ps.map V.ref)) ∧ ps.length = i ∧ ps.Nodup ∧ ∀ p ∈ ps, DiceAt 1100 Hk p ∧ p ≠ L)
      ⟨Ext.new hL, [], upd_same, rfl, .nil, fun p hp => by cases hp⟩ (fun i Hk _ y => SqL.of (y.1.at tz ez (fun ps z => by cases z))) (fun i x Hk hx y => ?_) (fun Hk y => ?_)
    · obtain ⟨y1, ps, e1, e2, e3, e4⟩ := y
      have tk := tz.ext y1
      rw [List.getElem?_map] at hx
      obtain ⟨z, hz, rfl⟩ := Option.map_eq_some_iff.mp hx
      have hi := (List.getElem?_eq_some_iff.mp hz).1
      refine ⟨rfl, ?_⟩
      dsimp only [tYes]
      refine iteT ?_
      refine tcall1 (v := .int z) (fun Q q => ⟨_, rfl, q⟩) ?_
      refine ⟨tk, z, rfl, bz z (List.mem_of_getElem? hz), fun p H' x2 hp hd => ?_⟩
      have eL := x2.at tk e1 (fun ps z => by cases z)
      have nL : p ≠ L := fun z => by rw [z, e1] at hp; cases hp
      have np : p ∉ ps := fun hm => by
        obtain ⟨l, e⟩ := (e4 p hm).1.new
        rw [e] at hp
        cases hp
      refine ⟨_, eL, ?_, (y1.trans x2).mut hL eL (fun ps z => by cases z), ps ++ [p], ?_, by rw [List.length_append, e2]; rfl, ?_, fun p2 h2 => ?_⟩
      · rw [List.length_map, e2]
        exact Nat.lt_of_lt_of_le (show i < 64 by omega) (by decide)
      · rw [upd_same, List.map_append]
        rfl
      · refine List.nodup_append.mpr ⟨e3, by simp, fun a ha b hb => ?_⟩
        rw [List.mem_singleton.mp hb]
        exact fun z => np (z ▸ ha)
      · rcases List.mem_append.mp h2 with h | h
        · exact ⟨((e4 p2 h).1.ext tk x2).upd (e4 p2 h).2, (e4 p2 h).2⟩
        · rw [List.mem_singleton.mp h]
          exact ⟨hd.upd nL, nL⟩
    · obtain ⟨y1, ps, e1, e2, e3, e4⟩ := y
      exact q L ps Hk (xz.trans y1) e1 e3 fun p hp => (e4 p hp).1
  have t1 := tG.ext x1
  have d1 : Dp K (upd H p (.lst (ms.map V.int))) (.ref p) (.list (ms.map PyData.int)) := .lst (SqL.of upd_same) (dpA_ints ms)
  have sh : ∀ zs : List Int, SeqAt.shaped (.list (zs.map PyData.int)) = true := fun zs => by
    have c : PyData.canLayAll0 (zs.map PyData.int) = true := by
      induction zs with
      | nil => rfl
      | cons z r ih => simp [PyData.canLayAll0, PyData.canLay0, ih]
    have dd : PyData.depthAll (zs.map PyData.int) ≤ 1 := by
      induction zs with
      | nil => simp [PyData.depthAll]
      | cons z r ih =>
        have c2 : PyData.canLayAll0 (r.map PyData.int) = true := by simpa [PyData.canLayAll0, PyData.canLay0] using c
        have := ih c2
        simp [PyData.depthAll, PyData.depth]
        omega
    unfold SeqAt.shaped
    rw [PyData.canLay0, c, Bool.true_and]
    refine decide_eq_true ?_
    rw [PyData.depth]
    omega
  refine s_if (edt_test (ed_op t1 (ed_var t1 rfl d1) (ed_lst t1 ed_nil (by show 0 ≤ sizeLine; decide)) (rd_eqD (sh ms) (sh [])))) (fun _ H2 x2 => ?_) (fun _ H2 x2 => ?_)
  · refine ⟨by show 1 ≤ sizeLine; decide, fun p2 hp2 => ?_⟩
    exact fin [0] p2 _ ((x1.trans x2).trans (Ext.new hp2)) upd_same (by decide) (fun z hz => by rw [List.mem_singleton.mp hz]; decide)
  · exact fin ms p H2 (x1.trans x2) (x2.at t1 upd_same (fun ps z => by cases z)) hm63 hmb
theorem cl_term (D : DefF K mg base G "_law_term" s_term ["dice", "deep", "names"] f fd) (ro : Cl0 P w K mg base 1 "_law_roll" (spRoll G)) (m1 : mg "list" = none) (m2 : mg "len" = none) : ∀ n, Cl0 P w K mg base (n + 1) "_law_term" (spTerm G K n)
  | 0 => (D.noneS fun vs H Q E ⟨_, _, _, _, _, _, _, h, _⟩ => Nat.not_lt_zero _ h).mono (Nat.zero_le _)
  | n + 1 => by
    have ih := cl_term D ro m1 m2 n
    refine D.clS (k := n + 1) sc_term (fun vs H Q E h => by obtain ⟨_, _, _, _, _, _, rfl, _⟩ := h; rfl) fun c Pt A outer s H vs Q E TB hP hr h => ?_
    refine ⟨_, pss_cons (ps_set (i := 3) sc_term.nd rfl (Or.inl rfl) (pe_cl ro (hr.mono (by omega)) rfl (pa_cons (pv 0) (pa_cons pe_int pa_nil))))
      (pss_cons (ps_if (PW.pt (pw_or (pt_cmpR op_eq (pv 1) pe_int (nomark _)) (pw_or1 (pt_cmpR op_lt (pv 3) pe_int (nomark _)))))
        (pss_cons (ps_set (i := 4) sc_term.nd rfl (Or.inl rfl) (pe_op op_cat (pe_callTy call_list_of (by rfl) m1 (by decide +kernel) (pa_cons (pv 2) pa_nil)) (pe_lst (pa_cons (pe_tup (pa_cons pe_str (pa_cons (pe_tup pa_nil) pa_nil))) (pa_cons (pe_tup (pa_cons pe_str (pa_cons (pe_tup pa_nil) pa_nil))) pa_nil)))))
        (pss_one (ps_ret (pe_ix ix_list (pv 4) (pe_cl ro (hr.mono (by omega)) rfl (pa_cons (pv 0) (pa_cons (pe_callB call_len_seq (by rfl) m2 PySem.boot_len (pa_cons (pv 4) pa_nil)) pa_nil))) (fun _ _ => rfl))))) pss_nil)
      (pss_cons (ps_if (pt_cmpR op_lt (pv 3) pe_int (nomark _)) (pss_one (ps_ret (pe_tup (pa_cons pe_str (pa_cons (pe_tup (pa_cons (pe_cl ih hr rfl (pa_cons (pv 0) (pa_cons (pe_op op_sub (pv 1) pe_int) (pa_cons (pv 2) pa_nil)))) pa_nil)) pa_nil))))) pss_nil)
      (pss_one (ps_ret (pe_tup (pa_cons pe_str (pa_cons (pe_tup (pa_cons (pe_cl ih hr rfl (pa_cons (pv 0) (pa_cons (pe_op op_sub (pv 1) pe_int) (pa_cons (pv 2) pa_nil)))) (pa_cons (pe_cl ih hr rfl (pa_cons (pv 0) (pa_cons (pe_op op_sub (pv 1) pe_int) (pa_cons (pv 2) pa_nil)))) pa_nil))) pa_nil))))))), ?_⟩
    obtain ⟨tG, D, Nm, d, m, xs, rfl, hd, hk, hm, hD, hne, hN, h10, q⟩ := h
    show tCall (spRoll G) [] _ _ _ _ _
    refine tcall2 (v := .ref D) (u := .int 6) (fun Q q => ⟨_, rfl, q⟩) (fun Q q => q) ?_
    refine ⟨tG, D, 6, m, rfl, by decide, by decide, by omega, hD, fun kd H1 hkd x1 d1 => ?_⟩
    obtain ⟨lD, eD⟩ := hD.new
    have t1 := tG.wide x1
    have N1 := dp_lstD x1 tG eD hne (puA_strs xs) hN
    refine s_ifR (edt_or (edt_test (ed_op (K := K) t1 (ed_var t1 rfl (.int d)) ed_int rd_eqI)) fun _ => edt_test (ed_op (K := K) t1 (ed_var t1 rfl (.int kd)) ed_int rd_ltI)) (fun _ H2 y => ?_) fun h0 H2 y => ?_
    · have t2 := t1.ext y
      have d2 := d1.ext t1 y
      have N2 := dp_ext y t1 N1
      have x12 := x1.trans y.wide
      cases N2 with
      | lst sq rs =>
        have ey := dpA_strsInv rs
        subst ey
        refine ⟨.ref Nm, rfl, Nm, _, rfl, .inl sq, fun l hl => ?_⟩
        have y3 : Ext G H2 (upd H2 l (.lst (xs.map V.str))) := Ext.new hl
        have t3 := t2.ext y3
        have eI : EdA G K (tCons (tTup (tCons (tC (.str (Str.ofString "a"))) (tCons (tTup tNil) tNil))) (tCons (tTup (tCons (tC (.str (Str.ofString "b"))) (tCons (tTup tNil) tNil))) tNil)) [some (.ref D), some (.int d), some (.ref Nm), some (.int kd), none] (upd H2 l (.lst (xs.map V.str))) [enc (.c (Str.ofString "a")), enc (.c (Str.ofString "b"))] :=
          ed_cons t3 (ed_tup t3 (ed_cons t3 ed_str (ed_one (ed_tup t3 ed_nil (by show 0 ≤ sizeLine; decide)))) (by show 2 ≤ sizeLine; decide)) (ed_one (ed_tup t3 (ed_cons t3 ed_str (ed_one (ed_tup t3 ed_nil (by show 0 ≤ sizeLine; decide)))) (by show 2 ≤ sizeLine; decide)))
        refine eI _ (Ext.refl G _) _ fun vs H4 y4 rvs => ⟨by rw [dpA_len rvs]; show 2 ≤ sizeLine; decide, fun b hb => ?_⟩
        have t4 := t3.ext y4
        have el : H4 l = some (.lst (xs.map V.str)) := y4.at t3 upd_same (fun ps z => by cases z)
        have lb : l ≠ b := ne_of_none el hb
        have y5 : Ext G H4 (upd H4 b (.lst vs)) := Ext.new hb
        have len4 := dpA_len rvs
        have hlen : (xs.map V.str).length + vs.length ≤ sizeLine := by
          rw [len4, List.length_map]
          exact Nat.le_trans (show xs.length + 2 ≤ 100 by omega) (by decide)
        refine ⟨l, b, xs.map V.str, vs, rfl, rfl, by rw [upd_ne lb]; exact el, upd_same, hlen, fun r hr => ?_⟩
        have t5 := t4.ext y5
        have y6 : Ext G (upd H4 b (.lst vs)) (upd (upd H4 b (.lst vs)) r (.lst (xs.map V.str ++ vs))) := Ext.new hr
        have y26 := ((y3.trans y4).trans y5).trans y6
        have t6 := t5.ext y6
        generalize hHr : upd (upd H4 b (.lst vs)) r (.lst (xs.map V.str ++ vs)) = Hr at *
        have er : Hr r = some (.lst (xs.map V.str ++ vs)) := by rw [← hHr]; exact upd_same
        have items : DpAll K Hr (xs.map V.str ++ vs) (xs.map PyData.str ++ [enc (.c (Str.ofString "a")), enc (.c (Str.ofString "b"))]) := dpA_app (dpA_strs xs) (dpA_ext (y5.trans y6) t4 rvs)
        have d6 := d2.ext t2 y26
        obtain ⟨l6, e6⟩ := d6.new
        have rD : r ≠ D := fun z => by
          have d5 := d2.ext t2 ((y3.trans y4).trans y5)
          obtain ⟨l5, e5⟩ := d5.new
          rw [z, e5] at hr
          cases hr
        refine ⟨.ref r, rfl, ?_⟩
        refine tcall2 (v := .ref D) (u := .int ((xs.map V.str ++ vs).length : Nat)) (fun Q q => ⟨_, rfl, q⟩) (fun Q q => ⟨.ref r, rfl, r, _, rfl, .inl (SqL.of er), q⟩) ?_
        have eL : (xs.map V.str ++ vs).length = xs.length + 2 := by rw [List.length_append, List.length_map, len4]; rfl
        have c2 : 2 ≤ cst d := by cases d <;> simp [cst]
        refine ⟨t6, D, (xs.map V.str ++ vs).length, m + 1, rfl, by omega, by omega, by omega, d6, fun i H7 hi x7 d7 => ?_⟩
        have er7 : H7 r = some (.lst (xs.map V.str ++ vs)) := x7.keep r (fun z => by
          rcases List.mem_cons.mp z with z | z
          · exact rD z
          · exact notTab t6 er (fun ps z => by cases z) z) _ er
        have items7 := dpA_tups (fun _ _ q => x7.sqTD t6 e6 q) (puA_all.mpr fun z hz => by
          rcases List.mem_append.mp hz with hz | hz
          · obtain ⟨x, _, rfl⟩ := List.mem_map.mp hz
            rfl
          · rcases List.mem_cons.mp hz with hz | hz
            · rw [hz]; rfl
            · rw [List.mem_singleton.mp hz]; rfl) items
        have hi2 : i < (xs.map PyData.str ++ [enc (.c (Str.ofString "a")), enc (.c (Str.ofString "b"))]).length := by
          rw [← dpA_len items]; exact hi
        obtain ⟨v, hv, rv⟩ := dpA_get items7 (List.getElem?_eq_getElem hi2)
        refine ⟨r, xs.map V.str ++ vs, i, v, rfl, rfl, SqL.of er7, atI_get (by omega) (by rw [Int.toNat_natCast]; exact hv), ?_⟩
        have xx : Ext (D :: G) H H7 := (x12.trans y26.wide).trans x7
        have fin : ∀ t : T, (xs.map PyData.str ++ [enc (.c (Str.ofString "a")), enc (.c (Str.ofString "b"))])[i] = enc t → t.dp ≤ d → t.drawn xs → Q v H7 := fun t et hdp hdr => q v H7 t xx (d7.mono (by omega)) (by rw [← et]; exact rv) hdp hdr
        by_cases hx : i < xs.length
        · refine fin (.v xs[i]) ?_ (Nat.zero_le _) (List.getElem_mem hx)
          rw [List.getElem_append_left (by rw [List.length_map]; exact hx), List.getElem_map]
          rfl
        · have hi3 : i = xs.length ∨ i = xs.length + 1 := by
            rw [List.length_append, List.length_map] at hi2
            have : ([enc (.c (Str.ofString "a")), enc (.c (Str.ofString "b"))] : List PyData).length = 2 := rfl
            omega
          rcases hi3 with e | e
          · refine fin (.c (Str.ofString "a")) ?_ (Nat.zero_le _) (.inl rfl)
            rw [List.getElem_append_right (by rw [List.length_map]; omega)]
            simp [e]
          · refine fin (.c (Str.ofString "b")) ?_ (Nat.zero_le _) (.inr rfl)
            rw [List.getElem_append_right (by rw [List.length_map]; omega)]
            simp [e]
    · have t2 := t1.ext y
      have d2 := d1.ext t1 y
      have N2 := dp_ext y t1 N1
      have x12 := x1.trans y.wide
      obtain ⟨d', rfl⟩ : ∃ d', d = d' + 1 := by
        cases d with
        | zero => simp at h0
        | succ d' => exact ⟨d', rfl⟩
      have eN : ((d' + 1 : Nat) : Int) - 1 = (d' : Nat) := by omega
      have cE : cst (d' + 1) = 2 * cst d' + 2 := rfl
      have call : ∀ (Hc : Hp) (n2 : Nat) (Qc : VK), Ext (D :: G) H Hc → DiceAt n2 Hc D → n2 ≤ m + 1 + cst d' → (∀ v H' t, Ext (D :: G) Hc H' → DiceAt (n2 + cst d') H' D → Dp K H' v (enc t) → t.dp ≤ d' → t.drawn xs → Qc v H') →
          tCall (spTerm G K n) [] (fun _ _ _ => False) (tCons (tVar 0) (tCons (tOp (rI0 fun i j => .int (i - j)) (tVar 1) (tC (.int 1))) (tCons (tVar 2) tNil))) [some (.ref D), some (.int (d' + 1 : Nat)), some (.ref Nm), some (.int kd), none] Hc Qc := fun Hc n2 Qc xc dc hn2 k => by
        refine tcall3 (v := .ref D) (u := .int d') (w := .ref Nm) (fun Q q => ⟨_, rfl, q⟩) (fun Q q => ⟨_, rfl, _, _, rfl, rfl, by show Q (.int (((d' + 1 : Nat) : Int) - 1)) Hc; rw [eN]; exact q⟩) (fun Q q => ⟨_, rfl, q⟩) ?_
        exact ⟨tG.wide xc, D, Nm, d', n2, xs, rfl, by omega, by omega, by omega, dc, hne, dp_lstD xc tG eD hne (puA_strs xs) hN, h10, k⟩
      refine s_ifR (edt_test (ed_op (K := K) t2 (ed_var t2 rfl (.int kd)) ed_int rd_ltI)) (fun _ H3 y3 => ?_) fun _ H3 y3 => ?_
      · have t3 := t2.ext y3
        have d3 := d2.ext t2 y3
        have x13 := x12.trans y3.wide
        refine call H3 (m + 1) _ x13 d3 (by omega) fun v H4 t x4 d4 rv hdp hdr => ?_
        have t4 := tG.wide (x13.trans x4)
        refine ⟨by show 1 ≤ sizeLine; decide, fun p hp => ⟨by show 2 ≤ sizeLine; decide, fun p2 hp2 => ?_⟩⟩
        have y5 : Ext G H4 (upd H4 p (.tup [v])) := Ext.new hp
        have t5 := t4.ext y5
        have y6 : Ext G (upd H4 p (.tup [v])) (upd (upd H4 p (.tup [v])) p2 (.tup [.str (Str.ofString "g"), .ref p])) := Ext.new hp2
        refine q _ _ (.u (Str.ofString "g") t) (((x13.trans x4).trans y5.wide).trans y6.wide) ((d4.ext t4 (y5.trans y6)).mono (by omega)) ?_ (by show t.dp + 1 ≤ d' + 1; omega) ⟨rfl, hdr⟩
        exact dp_new hp2 t5 (.cons (.str _) (.cons (dp_new hp t4 (.cons rv .nil)) .nil))
      · have t3 := t2.ext y3
        have d3 := d2.ext t2 y3
        have x13 := x12.trans y3.wide
        refine call H3 (m + 1) _ x13 d3 (by omega) fun v H4 t x4 d4 rv hdp hdr => ?_
        have t4 := tG.wide (x13.trans x4)
        refine call H4 (m + 1 + cst d') _ (x13.trans x4) d4 (by omega) fun v2 H5 t2' x5 d5 rv2 hdp2 hdr2 => ?_
        have t5 := tG.wide ((x13.trans x4).trans x5)
        obtain ⟨l4, e4⟩ := d4.new
        have rv5 := dp_extD x5 t4 e4 (pu_enc t) rv
        refine ⟨by show 2 ≤ sizeLine; decide, fun p hp => ⟨by show 2 ≤ sizeLine; decide, fun p2 hp2 => ?_⟩⟩
        have y5 : Ext G H5 (upd H5 p (.tup [v, v2])) := Ext.new hp
        have t6 := t5.ext y5
        have y6 : Ext G (upd H5 p (.tup [v, v2])) (upd (upd H5 p (.tup [v, v2])) p2 (.tup [.str (Str.ofString "f"), .ref p])) := Ext.new hp2
        refine q _ _ (.b (Str.ofString "f") t t2') ((((x13.trans x4).trans x5).trans y5.wide).trans y6.wide) ((d5.ext t5 (y5.trans y6)).mono (by omega)) ?_ (by show max t.dp t2'.dp + 1 ≤ d' + 1; omega) ⟨rfl, hdr, hdr2⟩
        exact dp_new hp2 t6 (.cons (.str _) (.cons (dp_new hp t5 (.cons rv5 (.cons rv2 .nil))) .nil))
end
end Rh
set_option Elab.async false
set_option linter.all false
set_option maxRecDepth 100000
set_option maxHeartbeats 1000000
namespace Rh
open PySem PySem.Spec PyProof.Rows L2 GxR Gx Dl
def isStrD : PyData → Bool
  | .str _ => true
  | _ => false
def isTupD : PyData → Bool
  | .tuple _ => true
  | _ => false
def ivD : PyData → Bool
  | .str x => isVarS x
  | _ => false
theorem kit_strD {K : PySem.W.Frag} (d : PyData) : PySem.W.kitOne K (.type (tyD d)) (.type "str") = some (isStrD d) := by
  cases d with
  | none => exact kit_ty (show kitB "NoneType" "str" = some false by decide +kernel)
  | bool _ => exact kit_ty (show kitB "bool" "str" = some false by decide +kernel)
  | int _ => exact kit_ty (show kitB "int" "str" = some false by decide +kernel)
  | str _ => exact kit_ty (show kitB "str" "str" = some true by decide +kernel)
  | list _ => exact kit_ty (show kitB "list" "str" = some false by decide +kernel)
  | tuple _ => exact kit_ty (show kitB "tuple" "str" = some false by decide +kernel)
  | dict _ => exact kit_ty (show kitB "dict" "str" = some false by decide +kernel)
theorem kit_tupD {K : PySem.W.Frag} (d : PyData) : PySem.W.kitOne K (.type (tyD d)) (.type "tuple") = some (isTupD d) := by
  cases d with
  | none => exact kit_ty (show kitB "NoneType" "tuple" = some false by decide +kernel)
  | bool _ => exact kit_ty (show kitB "bool" "tuple" = some false by decide +kernel)
  | int _ => exact kit_ty (show kitB "int" "tuple" = some false by decide +kernel)
  | str _ => exact kit_ty (show kitB "str" "tuple" = some false by decide +kernel)
  | list _ => exact kit_ty (show kitB "list" "tuple" = some false by decide +kernel)
  | tuple _ => exact kit_ty (show kitB "tuple" "tuple" = some true by decide +kernel)
  | dict _ => exact kit_ty (show kitB "dict" "tuple" = some false by decide +kernel)
def shortD : PyData → Bool
  | .str x => decide (x.length ≤ 100000)
  | _ => true
/-- is_variable of anything -/
def R_ivA : List Ar → PyData → Prop := fun as d => ∃ e, as = [.d e] ∧ shortD e = true ∧ d = .bool (ivD e)
def okDn : Nat → PyData → Bool
  | 0, _ => false
  | n + 1, .tuple ds => ds.all (okDn n)
  | _ + 1, d => shortD d
def isTn : Nat → PyData → Bool
  | 0, _ => false
  | _ + 1, .str x => isVarS x
  | n + 1, .tuple [.str s, .tuple ds] => !decide (s = Str.ofString "") && (!isVarS s && ds.all (isTn n))
  | _ + 1, _ => false
theorem okDn_short {n : Nat} {d : PyData} (h : okDn n d = true) : shortD d = true := by
  cases n with
  | zero => cases h
  | succ n => cases d <;> first | rfl | exact h
theorem okDn_mono : ∀ {n : Nat} {d : PyData}, okDn n d = true → okDn (n + 1) d = true
  | 0, _, h => by cases h
  | n + 1, .tuple ds, h => by
    refine List.all_eq_true.mpr fun d hd => okDn_mono (List.all_eq_true.mp h d hd)
  | _ + 1, .none, h => h
  | _ + 1, .bool _, h => h
  | _ + 1, .int _, h => h
  | _ + 1, .str _, h => h
  | _ + 1, .list _, h => h
  | _ + 1, .dict _, h => h
def R_isT (n : Nat) : List Ar → PyData → Prop := fun as d => ∃ e, as = [.d e] ∧ okDn n e = true ∧ d = .bool (isTn n e)
section
variable {P : Program} {w : World} {K : PySem.W.Frag} {mg : Str → Option Value} {base : Heap} {G : List Addr} {f : Addr} {fd : FuncData}
theorem cl_ivA (D : DefF K mg base G "is_variable" s_is_variable ["thing"] f fd) (m1 : mg "isinstance" = none) (m2 : mg "str" = none) (m3 : mg "all" = none) : Cl0 P w K mg base 2 "is_variable" (spA G K R_ivA) := by
  refine D.cl sc_is_variable (fun ds d r => by obtain ⟨x, rfl, _⟩ := r; rfl) fun c Pt A outer s H vs ds d Q E TB hP hr tG hv r q => ?_
  refine ⟨_, pss_cons (ps_if (PW.pt (pw_or (pt_not (pt_val (pe_callB call_isi (by rfl) m1 (by decide +kernel) (pa_cons (pv 0) (pa_cons (pe_bltn (v := .ty "str") (by rfl) m2 (by decide +kernel) rfl) pa_nil)))))
      (pw_or (pt_cmpR op_eq (pv 0) pe_str (nomark _)) (pw_or1 (pt_cmpR op_notIn_sign (pe_ix ix_str (pv 0) pe_int (fun _ _ => rfl)) pe_str rfl))))) (pss_one (ps_ret pe_bl)) pss_nil)
    (pss_one (ps_ret (pe_allG (own := [("sign", 1)]) hr sc_is_variable.nd TB rfl (blkOk_by (N := ["thing", "sign"]) (sc := defScope s_is_variable) (by decide +kernel)) m3 (pi_str (pe_slice sl_str (pv 0) (po_some pe_int) po_none))
      (fun s H C code fp A _ => pg_name (i := 1) sc_is_variable.nd rfl (Or.inl rfl)) (fun s H C code fp A _ => pts_nil) (fun s H C code fp A _ => pe_cmpR op_in_sign (pv 1) pe_str rfl)))), ?_⟩
  obtain ⟨e, rfl, he, rfl⟩ := r
  obtain ⟨v, rfl, rv⟩ := arA_one hv
  have v0 : ∀ {H'}, Ext G H H' → Ed G K (tVar 0) [some v, none] H' e := fun y => ed_var (tG.ext y) rfl (dp_ext y tG (show Dp K H v e from rv))
  have rf := Ext.refl G H
  by_cases hs : isStrD e = true
  · cases e with
    | str x =>
      have hx : x.length ≤ 100000 := of_decide_eq_true he
      have hz : x.length ≤ sizeLine := Nat.le_trans hx (by decide)
      cases hl : x.cps.toList with
      | nil =>
        have ex : x = Str.ofString "" := Str.ext' (Array.toList_inj.mp hl)
        refine s_ifR (b := true) (edt_or (b := false) (edt_not (b := true) (edt_val (ed_isi (v0 rf) (kit_strD _)))) fun _ => edt_or (b := true) (c := true) (edt_test (ed_is (ed_op tG (v0 rf) ed_str rd_eqS) ?_)) fun z => by cases z) (fun _ H' y => ?_) (fun z => by cases z)
        · rw [ex]; rfl
        · refine s_ret (K := K) ed_bl fun u H2 y2 ru => q u H2 (y.trans y2) ?_
          have e : isVarS x = false := by unfold isVarS; rw [hl]
          show Dp K H2 u (.bool (isVarS x))
          rw [e]
          exact ru
      | cons cc r =>
        have nx : ¬ x = Str.ofString "" := fun z => by rw [z] at hl; cases hl
        have i0 : x.cps.toList[(0 : Int).toNat]? = some cc := by rw [hl]; rfl
        refine s_ifR (b := !decide (cc ∈ (Str.ofString "uvwxyz").cps.toList)) (edt_or (b := false) (edt_not (b := true) (edt_val (ed_isi (v0 rf) (kit_strD _)))) fun _ => edt_or (b := false) (edt_test (ed_is (ed_op tG (v0 rf) ed_str rd_eqS) ?_)) fun _ =>
          edt_test (ed_op tG (ed_op tG (v0 rf) ed_int (rd_ixS hz (Int.le_refl 0) i0)) ed_str rd_niSign)) (fun e H' y => ?_) (fun e H' y => ?_)
        · rw [decide_eq_false nx]
        · refine s_ret (K := K) ed_bl fun u H2 y2 ru => q u H2 (y.trans y2) ?_
          have e2 : isVarS x = false := by
            unfold isVarS
            rw [hl]
            simp only [Bool.not_eq_true'] at e
            simp only [e, Bool.false_and]
          show Dp K H2 u (.bool (isVarS x))
          rw [e2]
          exact ru
        · have tG' := tG.ext y
          refine s_ret (ed_allS hP tG' (ed_slS hz (v0 y) (fun _ _ _ z => ⟨_, rfl, z⟩) (fun _ _ _ z => z)) (List.mem_singleton.mpr rfl) fun d H1 y1 t1 => ed_op t1 (ed_var t1 rfl (.str _)) ed_str rd_inSign) fun u H2 y2 ru => q u H2 (y.trans y2) ?_
          have e2 : isVarS x = ((cutS x (some 1) none).cps.toList.all fun d => decide (d ∈ (Str.ofString "0123456789").cps.toList)) := by
            unfold isVarS
            rw [cutS_tail, hl]
            simp only [Bool.not_eq_false'] at e
            simp only [e, Bool.true_and, List.drop_succ_cons, List.drop_zero]
          show Dp K H2 u (.bool (isVarS x))
          rw [e2]
          exact ru
    | none => cases hs
    | bool _ => cases hs
    | int _ => cases hs
    | list _ => cases hs
    | tuple _ => cases hs
    | dict _ => cases hs
  · have hs' : isStrD e = false := by simpa using hs
    have e2 : ivD e = false := by cases e <;> first | rfl | cases hs'
    refine s_ifR (b := true) (edt_or (b := true) (c := true) (edt_not (b := false) (edt_val (ed_is (ed_isi (v0 rf) (kit_strD e)) (by rw [hs'])))) fun z => by cases z) (fun _ H' y => ?_) (fun z => by cases z)
    rw [e2] at q
    exact s_ret (K := K) ed_bl fun u H2 y2 ru => q u H2 (y.trans y2) ru
theorem ed_ivA {σ : L2.St} {H : Hp} {te : TE} {e : PyData} (tG : TabsG G H) (o : shortD e = true) (h : Ed G K te σ H e) : Ed G K (tCall (spA G K R_ivA) [] (fun _ _ _ => False) (tCons te tNil)) σ H (.bool (ivD e)) := ea_call tG (ea_one (edx_of h)) ⟨e, rfl, o, rfl⟩
end
end Rh
set_option Elab.async false
set_option linter.all false
set_option maxRecDepth 100000
set_option maxHeartbeats 1000000
namespace Rh
open PySem PySem.Spec PyProof.Rows L2 GxR Gx Dl
def T.deep : T → Nat
  | .v _ => 0
  | .c _ => 1
  | .u _ t => t.deep + 1
  | .b _ t r => max t.deep r.deep + 1
def T.isVAt (t : T) (p : List Nat) : Bool := match t.at p with
  | some r => r.isV
  | none => false
def T.signPlaces (t : T) : List (List Nat) := t.places.filter fun p => !t.isVAt p
theorem T.at_place : ∀ {t : T} {p : List Nat}, p ∈ t.places → ∃ r, t.at p = some r
  | .v _, p, h => by rw [T.places, List.mem_singleton] at h; rw [h]; exact ⟨_, rfl⟩
  | .c _, p, h => by rw [T.places, List.mem_singleton] at h; rw [h]; exact ⟨_, rfl⟩
  | .u _ t, p, h => by
    rw [T.places, List.mem_cons] at h
    rcases h with h | h
    · rw [h]; exact ⟨_, rfl⟩
    · obtain ⟨q, hq, rfl⟩ := List.mem_map.mp h
      obtain ⟨r, hr⟩ := T.at_place hq
      exact ⟨r, by rw [T.at, if_pos rfl]; exact hr⟩
  | .b _ t r, p, h => by
    rw [T.places, List.mem_cons, List.mem_append] at h
    rcases h with h | h | h
    · rw [h]; exact ⟨_, rfl⟩
    · obtain ⟨q, hq, rfl⟩ := List.mem_map.mp h
      obtain ⟨x, hx⟩ := T.at_place hq
      exact ⟨x, by rw [T.at, if_pos rfl]; exact hx⟩
    · obtain ⟨q, hq, rfl⟩ := List.mem_map.mp h
      obtain ⟨x, hx⟩ := T.at_place hq
      exact ⟨x, by rw [T.at, if_neg (by decide), if_pos rfl]; exact hx⟩
theorem T.at_ok : ∀ {p : List Nat} {t r : T}, t.ok → t.at p = some r → r.ok
  | [], t, r, o, h => by rw [T.at_nil] at h; cases h; exact o
  | k :: p, t, r, o, h => by
    obtain ⟨q, hq, h2, _⟩ := T.at_cons h
    exact T.at_ok (T.ok_parts o (List.mem_of_getElem? hq)) h2
def T.laid : T → List Nat → T → T
  | _, [], o => o
  | .v x, _ :: _, _ => .v x
  | .c s, _ :: _, _ => .c s
  | .u s t, _ :: p, o => .u s (t.laid p o)
  | .b s t r, k :: p, o => if k = 0 then .b s (t.laid p o) r else .b s t (r.laid p o)
theorem T.laid_nil (t o : T) : t.laid [] o = o := by cases t <;> rfl
/-- the parts with one laid anew -/
theorem T.laid_parts {t q : T} {k : Nat} {p : List Nat} {o : T} (h : t.parts[k]? = some q) : (t.laid (k :: p) o).isV = t.isV ∧ (t.laid (k :: p) o).sgn = t.sgn ∧ (t.laid (k :: p) o).parts = t.parts.take k ++ [q.laid p o] ++ t.parts.drop (k + 1) := by
  cases t with
  | v x => cases k <;> cases h
  | c s => cases k <;> cases h
  | u s t =>
    match k, h with
    | 0, h => cases h; exact ⟨rfl, rfl, rfl⟩
    | k + 1, h => simp [T.parts] at h
  | b s t r =>
    match k, h with
    | 0, h => cases h; exact ⟨rfl, rfl, rfl⟩
    | 1, h => cases h; exact ⟨rfl, rfl, rfl⟩
    | k + 2, h => simp [T.parts] at h
theorem T.deep_n {t : T} (h : t.isV = false) : ∀ k : Int, k ∈ ((0 : Int) :: t.parts.map fun p => (p.deep : Int)) → (∀ y, y ∈ ((0 : Int) :: t.parts.map fun p => (p.deep : Int)) → y ≤ k) → k = (t.deep : Int) - 1 := by
  intro k hk hm
  cases t with
  | v x => cases h
  | c s =>
    simp [T.parts] at hk
    subst hk
    rfl
  | u s t =>
    simp only [T.parts, List.map_cons, List.map_nil] at hk hm
    have h1 := hm t.deep (by simp)
    have h0 := hm 0 (by simp)
    simp only [List.mem_cons, List.not_mem_nil, or_false] at hk
    show k = ((t.deep + 1 : Nat) : Int) - 1
    rcases hk with e | e <;> omega
  | b s t r =>
    simp only [T.parts, List.map_cons, List.map_nil] at hk hm
    have h1 := hm t.deep (by simp)
    have h2 := hm r.deep (by simp)
    have h0 := hm 0 (by simp)
    simp only [List.mem_cons, List.not_mem_nil, or_false] at hk
    show k = ((max t.deep r.deep + 1 : Nat) : Int) - 1
    rcases hk with e | e | e <;> omega
def R_depth (n : Nat) : List Ar → PyData → Prop := fun as d => ∃ t : T, as = [.d (enc t)] ∧ t.ok ∧ t.dp < n ∧ d = .int t.deep
def R_sp (n : Nat) : List Ar → PyData → Prop := fun as d => ∃ t : T, as = [.d (enc t)] ∧ t.ok ∧ t.dp < n ∧ n ≤ 12 ∧ d = .tuple (t.signPlaces.map encP)
def R_laid (n : Nat) : List Ar → PyData → Prop := fun as d => ∃ (t o r : T) (p : List Nat), as = [.d (enc t), .d (encP p), .d (enc o)] ∧ t.ok ∧ t.at p = some r ∧ p.length < n ∧ n ≤ 30 ∧ d = enc (t.laid p o)
def unS : PyData → Str
  | .str x => x
  | _ => Str.ofString ""
def R_lin : List Ar → PyData → Prop := fun as d => ∃ t : T, as = [.d (enc t)] ∧ t.ok ∧ t.dp < 12 ∧ t.lv < 64 ∧ d = .bool (t.vars.all fun x => decide (t.uses x = 1))
theorem pu_encP (p : List Nat) : Pu (encP p) = true := by
  show PuA (p.map fun n : Nat => PyData.int n) = true
  refine puA_all.mpr fun d hd => ?_
  obtain ⟨n, _, rfl⟩ := List.mem_map.mp hd
  rfl
def decP : PyData → List Nat
  | .tuple ds => ds.map fun d => match d with
    | .int i => i.toNat
    | _ => 0
  | _ => []
theorem decP_enc (p : List Nat) : decP (encP p) = p := by
  show (p.map fun n : Nat => PyData.int n).map _ = p
  rw [List.map_map]
  exact List.map_id'' (fun n => Int.toNat_natCast n) p
theorem shaped_encP {p : List Nat} (h : p.length < 1000) : SeqAt.shaped (encP p) = true := by
  unfold SeqAt.shaped
  have h1 : ∀ p : List Nat, PyData.canLayAll0 (p.map fun n : Nat => PyData.int n) = true := fun p => by
    induction p with
    | nil => rfl
    | cons n r ih => simp [PyData.canLayAll0, PyData.canLay0, ih]
  have h2 : ∀ p : List Nat, PyData.depthAll (p.map fun n : Nat => PyData.int n) ≤ 1 := fun p => by
    induction p with
    | nil => simp [PyData.depthAll]
    | cons n r ih => simp [PyData.depthAll, PyData.depth]; omega
  show (PyData.canLayAll0 (p.map fun n : Nat => PyData.int n) && _) = true
  rw [h1, Bool.true_and]
  refine decide_eq_true ?_
  have := h2 p
  show PyData.depth (.tuple _) ≤ _
  simp only [PyData.depth]
  omega
theorem eqv_encP : ∀ p q : List Nat, PyData.eqv (encP p) (encP q) = decide (p = q) := by
  have h : ∀ p q : List Nat, PyData.eqvAll (p.map fun n : Nat => PyData.int n) (q.map fun n : Nat => PyData.int n) = decide (p = q) := fun p => by
    induction p with
    | nil => intro q; cases q <;> simp [PyData.eqvAll]
    | cons n r ih =>
      intro q
      cases q with
      | nil => simp [PyData.eqvAll]
      | cons m s =>
        simp only [List.map_cons, PyData.eqvAll, ih]
        by_cases e : n = m
        · subst e; simp [PyData.eqv]
        · have e' : ¬ (n : Int) = (m : Int) := by omega
          simp [PyData.eqv, e, e']
  intro p q
  show PyData.eqvAll _ _ = _
  exact h p q
section
variable {P : Program} {w : World} {K : PySem.W.Frag} {mg : Str → Option Value} {base : Heap} {G : List Addr} {f : Addr} {fd : FuncData}
theorem rd_eqP {H : Hp} {p q : List Nat} (h : p.length < 1000) (h2 : q.length < 1000) : Rd2 G K (rEqD K) (encP p) (encP q) (.bool (decide (p = q))) H := by
  rw [← eqv_encP p q]
  exact rd_eqD (shaped_encP h) (shaped_encP h2)
end
end Rh
set_option Elab.async false
set_option linter.all false
set_option maxRecDepth 100000
set_option maxHeartbeats 1000000
namespace Rh
open PySem PySem.Spec PyProof.Rows L2 GxR Gx Dl LiI
def T.matched : T → T → Sub → Option Sub
  | .v x, t, m => match getS m x with
    | some r => if r = t then some m else none
    | none => some (m ++ [(x, t)])
  | .c s, .c s', m => if s = s' then some m else none
  | .u s p, .u s' t, m => if s = s' then p.matched t m else none
  | .b s p p2, .b s' t t2, m => if s = s' then (p.matched t m).bind fun m' => p2.matched t2 m' else none
  | _, _, _ => none
def matchA : List T → List T → Sub → Option Sub
  | p :: ps, t :: ts, m => (p.matched t m).bind fun m' => matchA ps ts m'
  | _, _, m => some m
theorem T.matched_n {p t : T} {m : Sub} (h1 : p.isV = false) (h2 : t.isV = false) (h3 : p.sgn = t.sgn) (h4 : p.parts.length = t.parts.length) : p.matched t m = matchA p.parts t.parts m := by
  cases p <;> cases t <;> simp [T.isV, T.sgn, T.parts] at h1 h2 h3 h4 <;> subst h3 <;> simp [T.matched, matchA, T.parts]
theorem T.matched_no {p t : T} {m : Sub} (h1 : p.isV = false) (h : t.isV = true ∨ p.sgn ≠ t.sgn ∨ p.parts.length ≠ t.parts.length) : p.matched t m = none := by
  cases p <;> cases t <;> simp [T.isV, T.sgn, T.parts] at h1 h <;> simp [T.matched, h]
structure SubOk (m : Sub) : Prop where
  nd : (m.map (·.1)).Nodup
  ok : ∀ q ∈ m, q.2.ok ∧ q.2.dp ≤ 30
theorem getS_mem {m : Sub} {x : Str} {r : T} (h : getS m x = some r) : (x, r) ∈ m := by
  unfold getS at h
  obtain ⟨p, hp, rfl⟩ := Option.map_eq_some_iff.mp h
  have h1 := List.mem_of_find?_eq_some hp
  have h2 := List.find?_some hp
  have h3 : p.1 = x := of_decide_eq_true h2
  rw [← h3]
  exact h1
theorem getS_none {m : Sub} {x : Str} (h : getS m x = none) : x ∉ m.map (·.1) := fun z => by
  unfold getS at h
  rw [Option.map_eq_none_iff, List.find?_eq_none] at h
  obtain ⟨p, hp, rfl⟩ := List.mem_map.mp z
  exact h p hp (decide_eq_true rfl)
theorem T.matched_ok : ∀ {p t : T} {m m' : Sub}, SubOk m → t.ok → t.dp ≤ 30 → p.matched t m = some m' → SubOk m' ∧ m'.length ≤ m.length + p.lv
  | .v x, t, m, m', o, ot, dt, h => by
    rw [T.matched] at h
    cases hx : getS m x with
    | some r =>
      rw [hx] at h
      have h' : (if r = t then some m else none) = some m' := h
      split at h'
      · cases h'; exact ⟨o, by simp [T.lv]⟩
      · cases h'
    | none =>
      rw [hx] at h
      have h' : some (m ++ [(x, t)]) = some m' := h
      cases h'
      refine ⟨⟨?_, fun q hq => ?_⟩, by simp [T.lv]⟩
      · rw [List.map_append, List.nodup_append]
        refine ⟨o.nd, by simp, fun a ha b hb z => ?_⟩
        rw [List.map_cons, List.map_nil, List.mem_singleton] at hb
        subst hb
        subst z
        exact getS_none hx ha
      · rcases List.mem_append.mp hq with h | h
        · exact o.ok q h
        · rw [List.mem_singleton.mp h]; exact ⟨ot, dt⟩
  | .c s, .c s', m, m', o, ot, dt, h => by
    rw [T.matched] at h
    split at h
    · cases h; exact ⟨o, by simp [T.lv]⟩
    · cases h
  | .c _, .v _, _, _, _, _, _, h => by cases h
  | .c _, .u _ _, _, _, _, _, _, h => by cases h
  | .c _, .b _ _ _, _, _, _, _, _, h => by cases h
  | .u _ _, .v _, _, _, _, _, _, h => by cases h
  | .u _ _, .c _, _, _, _, _, _, h => by cases h
  | .u _ _, .b _ _ _, _, _, _, _, _, h => by cases h
  | .b _ _ _, .v _, _, _, _, _, _, h => by cases h
  | .b _ _ _, .c _, _, _, _, _, _, h => by cases h
  | .b _ _ _, .u _ _, _, _, _, _, _, h => by cases h
  | .u s p, .u s' t, m, m', o, ot, dt, h => by
    rw [T.matched] at h
    split at h
    · exact T.matched_ok (p := p) o ot.2 (by simp [T.dp] at dt; omega) h
    · cases h
  | .b s p p2, .b s' t t2, m, m', o, ot, dt, h => by
    rw [T.matched] at h
    split at h
    · obtain ⟨m1, h1, h2⟩ := Option.bind_eq_some_iff.mp h
      simp [T.dp] at dt
      obtain ⟨a1, a2⟩ := T.matched_ok o ot.2.1 (by omega) h1
      obtain ⟨b1, b2⟩ := T.matched_ok a1 ot.2.2 (by omega) h2
      exact ⟨b1, by simp [T.lv]; omega⟩
    · cases h
def ansM : Option Sub → Ar
  | some m => .k (encSub m)
  | none => .d .none
def R_matched (n : Nat) : List Ar → Ar → Prop := fun as a => ∃ (p t : T) (m : Sub), as = [.d (enc p), .d (enc t), .k (encSub m)] ∧ p.ok ∧ t.ok ∧ p.dp < n ∧ t.dp ≤ 30 ∧ SubOk m ∧ m.length + p.lv ≤ 1000 ∧ a = ansM (p.matched t m)
theorem encSub_keys (m : Sub) : (encSub m).map (·.1) = (m.map (·.1)).map Sum.inr := by
  unfold encSub
  rw [List.map_map, List.map_map]
  rfl
theorem encSub_nodup {m : Sub} (h : (m.map (·.1)).Nodup) : ((encSub m).map (·.1)).Nodup := by
  rw [encSub_keys]
  refine List.Pairwise.map _ (fun a b h z => h ?_) h
  injection z
section
variable {P : Program} {w : World} {K : PySem.W.Frag} {mg : Str → Option Value} {base : Heap} {G : List Addr} {f : Addr} {fd : FuncData}
end
end Rh
set_option Elab.async false
set_option linter.all false
set_option maxRecDepth 100000
set_option maxHeartbeats 1000000
namespace Dl
open PySem PySem.Spec PyProof.Rows L2 GxR Gx LiI
theorem putE_keys_in {es : List (Key × PyData)} {k : Key} {d : PyData} (h : k ∈ es.map (·.1)) : (putE es k d).map (·.1) = es.map (·.1) := by
  unfold putE
  rw [if_pos, List.map_map]
  · refine List.map_congr_left fun e _ => ?_
    simp only [Function.comp_def]
    split <;> rfl
  · obtain ⟨e, he, rfl⟩ := List.mem_map.mp h
    exact List.any_eq_true.mpr ⟨e, he, decide_eq_true rfl⟩
theorem mergeE_len_eq : ∀ {fs es : List (Key × PyData)}, (es.map (·.1)).Nodup → ((mergeE es fs).length = es.length + fs.length ↔ ((es ++ fs).map (·.1)).Nodup)
  | [], es, h => by
    rw [List.append_nil]
    exact ⟨fun _ => h, fun _ => rfl⟩
  | f :: fs, es, h => by
    show (mergeE (putE es f.1 f.2) fs).length = _ ↔ _
    by_cases hk : f.1 ∈ es.map (·.1)
    · have h1 := putE_keys_in (d := f.2) hk
      have h2 : (putE es f.1 f.2).length = es.length := by
        have := congrArg List.length h1
        rwa [List.length_map, List.length_map] at this
      have h3 := mergeE_len fs (putE es f.1 f.2)
      constructor
      · intro e
        rw [List.length_cons] at e
        omega
      · intro z
        rw [List.map_append, List.map_cons, List.nodup_append] at z
        exact absurd rfl (z.2.2 _ hk _ List.mem_cons_self)
    · rw [putE_new hk]
      have h1 : ((es ++ [(f.1, f.2)]).map (·.1)).Nodup := by
        rw [List.map_append, List.nodup_append]
        refine ⟨h, by simp, fun a ha b hb z => ?_⟩
        rw [List.map_cons, List.map_nil, List.mem_singleton] at hb
        subst hb
        subst z
        exact hk ha
      have ih := mergeE_len_eq (fs := fs) h1
      rw [List.append_assoc] at ih
      rw [List.length_append] at ih
      constructor
      · intro e
        refine ih.mp ?_
        rw [e, List.length_cons]
        simp
        omega
      · intro z
        rw [ih.mpr z, List.length_cons]
        simp
        omega
theorem edx_dnew {G : List Addr} {K : PySem.W.Frag} {σ : L2.St} {H : Hp} : EdX G K tDNewK σ H (.k []) := fun H1 x Q q p hp => q _ _ (Ext.new hp) ⟨p, [], rfl, upd_same, .nil⟩
end Dl
namespace Rh
open PySem PySem.Spec PyProof.Rows L2 GxR Gx Dl LiI
/-- one is the other but for its variables' names -/
def variantB (a b : T) : Bool := match a.matched b [] with
  | some m => m.all (fun q => q.2.isV) && decide (m.map fun q => q.2.sgn).Nodup
  | none => false
def R_variant : List Ar → PyData → Prop := fun as d => ∃ a b : T, as = [.d (enc a), .d (enc b)] ∧ a.ok ∧ b.ok ∧ a.dp < 12 ∧ b.dp ≤ 30 ∧ a.lv ≤ 1000 ∧ d = .bool (variantB a b)
section
variable {P : Program} {w : World} {K : PySem.W.Frag} {mg : Str → Option Value} {base : Heap} {G : List Addr} {f : Addr} {fd : FuncData}
end
end Rh
set_option Elab.async false
set_option linter.all false
set_option maxRecDepth 100000
set_option maxHeartbeats 1000000
namespace Dl
open PySem PySem.Spec PyProof.Rows L2 GxR Gx LiI
theorem rd_addS {G : List Addr} {K : PySem.W.Frag} {H : Hp} {x y : Str} (h : x.length + y.length ≤ sizeLine) : Rd2 G K (fun x y H Q => ∃ i j, x = .str i ∧ y = .str j ∧ i.length + j.length ≤ sizeLine ∧ Q (.str (i ++ j)) H) (.str x) (.str y) (.str (x ++ y)) H := fun H1 _ v u rv ru Q q =>
  ⟨x, y, dp_str rv, dp_str ru, h, q _ H1 (Ext.refl G H1) (.str _)⟩
theorem rdc_strI {G : List Addr} {K : PySem.W.Frag} {H : Hp} {i : Int} (h : i.natAbs.log2 < 1920) : RdC G K (fun xs H Q => ∃ i, xs = [.int i] ∧ i.natAbs.log2 < 1920 ∧ Q (.str (toString i)) H) [.int i] (.str (toString i)) H := fun H1 x vs rs Q q => by
  obtain ⟨v, rfl, rv⟩ := dpA_one rs
  exact ⟨i, by rw [dp_int rv], h, q _ H1 (Ext.refl G H1) (.str _)⟩
theorem s_dput0 {td ty tv : TE} {u : TS} {D : Ends} {σ : L2.St} {H : Hp} (h : tv σ H fun v H1 => td σ H1 fun x H2 => ty σ H2 fun y H3 => ∃ a H4, x = .ref a ∧ DPut H3 a y v H4 ∧ u D σ H4) : tSeq (sDPut td ty tv) u D σ H := h
theorem s_next {D : Ends} {σ : L2.St} {H : Hp} (h : D.nx σ H) : tNext D σ H := h
/-- what was not there at H may change -/
theorem dkR_mut {G : List Addr} {K : PySem.W.Frag} {H' : Hp} {D : Addr} {acc acc2 : List (Key × V)} {ks : List (Key × V)} {es : List (Key × PyData)} (e : H' D = some (.dK acc)) (hp : ∀ e ∈ es, Pu e.2 = true) (r : DkR K H' ks es) : DkR K (upd H' D (.dK acc2)) ks es := dkR_tups (fun _ _ q => sqT_updD e q) hp r
end Dl
namespace Rh
open PySem PySem.Spec PyProof.Rows L2 GxR Gx Dl LiI
def wN (k : Nat) : Str := Str.ofString "w" ++ (toString (k : Int) : String)
def T.occ : T → List Str
  | .v x => [x]
  | .c _ => []
  | .u _ t => t.occ
  | .b _ t r => t.occ ++ r.occ
def renGo : List Str → Sub → Nat → Sub
  | [], m, _ => m
  | x :: r, m, k => if (getS m x).isSome = true then renGo r m k else renGo r (m ++ [(x, .v (wN k))]) (k + 1)
def renS (t : T) (k : Nat) : Sub := renGo t.occ [] k
def T.vAt (t : T) (p : List Nat) : Option Str := match t.at p with
  | some (.v x) => some x
  | _ => none
theorem T.occ_places : ∀ t : T, t.places.filterMap t.vAt = t.occ
  | .v x => rfl
  | .c s => rfl
  | .u s t => by
    have ih := T.occ_places t
    rw [T.places, List.filterMap_cons, List.filterMap_map]
    have e : (T.u s t).vAt ∘ (fun x => 0 :: x) = t.vAt := funext fun p => by
      simp [T.vAt, T.at]
    rw [e, ih]
    rfl
  | .b s t r => by
    have ih := T.occ_places t
    have ih2 := T.occ_places r
    rw [T.places, List.filterMap_cons, List.filterMap_append, List.filterMap_map, List.filterMap_map]
    have e : (T.b s t r).vAt ∘ (fun x => 0 :: x) = t.vAt := funext fun p => by
      simp [T.vAt, T.at]
    have e2 : (T.b s t r).vAt ∘ (fun x => 1 :: x) = r.vAt := funext fun p => by
      simp [T.vAt, T.at]
    rw [e, e2, ih, ih2]
    rfl
theorem T.occ_len : ∀ t : T, t.occ.length = t.lv
  | .v x => rfl
  | .c s => rfl
  | .u s t => T.occ_len t
  | .b s t r => by rw [T.occ, List.length_append, T.occ_len t, T.occ_len r]; rfl
theorem wN_ok {k : Nat} (h : k < 30) : isVarS (wN k) = true ∧ (wN k).length ≤ 10 ∧ PyData.strOk (wN k) = true := by
  have : ∀ k : Fin 30, isVarS (wN k) = true ∧ (wN k).length ≤ 10 ∧ PyData.strOk (wN k) = true := by decide +kernel
  exact this ⟨k, h⟩
def R_renamed : List Ar → PyData → Prop := fun as d => ∃ (t : T) (k : Nat), as = [.d (enc t), .d (.int k)] ∧ t.ok ∧ t.dp < 12 ∧ k + t.lv < 30 ∧ d = enc (t.put (renS t k))
section
variable {P : Program} {w : World} {K : PySem.W.Frag} {mg : Str → Option Value} {base : Heap} {G : List Addr} {f : Addr} {fd : FuncData}
end
end Rh
set_option Elab.async false
set_option linter.all false
set_option maxRecDepth 100000
set_option maxHeartbeats 1000000
namespace Dl
open PySem PySem.Spec PyProof.Rows L2 GxR Gx LiI
theorem s_lockSet {te : TE} {i : Nat} {D : Ends} {σ : L2.St} {H : Hp} (h : tLockE te σ H fun v H' => D.nx (σ.set i (some v)) H') : tLock (tAsg te (gName i)) D σ H := h
theorem s_seq {t u : TS} {D : Ends} {σ : L2.St} {H : Hp} (h : t { D with nx := u D } σ H) : tSeq t u D σ H := h
end Dl
namespace Rh
open PySem PySem.Spec PyProof.Rows L2 GxR Gx Dl LiI
def setD1 (acc : Sub) (q : Str × T) : Sub := if (getS acc q.1).isSome = true then acc else acc ++ [q]
def putAll (m1 m2 : Sub) : Sub := m1.map fun q => (q.1, q.2.put m2)
def setsD (b m : Sub) : Sub := m.foldl setD1 b
theorem putAll_keys (m1 m2 : Sub) : (putAll m1 m2).map (·.1) = m1.map (·.1) := by unfold putAll; rw [List.map_map]; rfl
theorem setD1_some {acc : Sub} {q : Str × T} (h : (getS acc q.1).isSome = true) : setD1 acc q = acc := if_pos h
theorem setD1_none {acc : Sub} {q : Str × T} (h : getS acc q.1 = none) : setD1 acc q = acc ++ [q] := if_neg (by rw [h]; decide)
theorem setD1_len (acc : Sub) (q : Str × T) : (setD1 acc q).length ≤ acc.length + 1 := by
  unfold setD1
  split
  · omega
  · rw [List.length_append]; simp
def afterS (m1 m2 : Sub) : Sub := (setsD (putAll m1 m2) m2).filter fun q => !decide (q.2 = .v q.1)
structure SubB (b : Nat) (m : Sub) : Prop where
  nd : (m.map (·.1)).Nodup
  ok : ∀ q ∈ m, q.2.ok ∧ q.2.dp ≤ b
  nm : ∀ q ∈ m, (T.v q.1).ok
theorem T.put_ok {m : Sub} (h : ∀ q ∈ m, q.2.ok) : ∀ {t : T}, t.ok → (t.put m).ok
  | .v x, o => by
    rw [T.put]
    cases e : getS m x with
    | none => exact o
    | some r => exact h _ (getS_mem e)
  | .c _, o => o
  | .u _ t, o => ⟨o.1, T.put_ok h o.2⟩
  | .b _ t r, o => ⟨o.1, T.put_ok h o.2.1, T.put_ok h o.2.2⟩
theorem T.put_dp {m : Sub} {b : Nat} (h : ∀ q ∈ m, q.2.dp ≤ b) : ∀ {t : T}, (t.put m).dp ≤ t.dp + b
  | .v x => by
    rw [T.put]
    cases e : getS m x with
    | none => simp [T.dp]
    | some r =>
      have := h _ (getS_mem e)
      show r.dp ≤ _
      simp [T.dp]
      exact this
  | .c _ => by simp [T.put, T.dp]
  | .u _ t => by
    have := T.put_dp h (t := t)
    simp only [T.put, T.dp]
    omega
  | .b _ t r => by
    have := T.put_dp h (t := t)
    have := T.put_dp h (t := r)
    simp only [T.put, T.dp]
    omega
theorem getS_some {m : Sub} {x : Str} (h : x ∈ m.map (·.1)) : (getS m x).isSome = true := by
  cases e : getS m x with
  | some _ => rfl
  | none => exact absurd h (getS_none e)
theorem setD1_ok {acc : Sub} {q : Str × T} {b : Nat} (o : SubB b acc) (h1 : q.2.ok) (h2 : q.2.dp ≤ b) (h3 : (T.v q.1).ok) : SubB b (setD1 acc q) := by
  unfold setD1
  split
  · exact o
  · next h =>
    have hn : getS acc q.1 = none := by
      cases e : getS acc q.1 with
      | none => rfl
      | some _ => rw [e] at h; exact absurd rfl h
    refine ⟨?_, fun r hr => ?_, fun r hr => ?_⟩
    · rw [List.map_append, List.nodup_append]
      refine ⟨o.nd, by simp, fun a ha b hb z => ?_⟩
      rw [List.map_cons, List.map_nil, List.mem_singleton] at hb
      subst hb
      subst z
      exact getS_none hn ha
    · rcases List.mem_append.mp hr with z | z
      · exact o.ok r z
      · rw [List.mem_singleton.mp z]; exact ⟨h1, h2⟩
    · rcases List.mem_append.mp hr with z | z
      · exact o.nm r z
      · rw [List.mem_singleton.mp z]; exact h3
def spAfter (G : List Addr) (K : PySem.W.Frag) : Sp := fun vs H Q _ => TabsG G H ∧ ∃ (a1 a2 : Addr) (m1 m2 : Sub), vs = [.ref a1, .ref a2] ∧ a1 ≠ a2 ∧ ArR K H (.ref a1) (.k (encSub m1)) ∧ ArR K H (.ref a2) (.k (encSub m2)) ∧ SubB 5 m1 ∧ SubB 5 m2 ∧ m1.length ≤ 100 ∧ m2.length ≤ 100 ∧
  ∀ v H', Ext G H H' → ArR K H' v (.k (encSub (afterS m1 m2))) → Q v H'
theorem encSub_pu (m : Sub) : ∀ e ∈ encSub m, Pu e.2 = true := fun e he => by
  obtain ⟨p, _, rfl⟩ := List.mem_map.mp he
  exact pu_enc _
section
variable {P : Program} {w : World} {K : PySem.W.Frag} {mg : Str → Option Value} {base : Heap} {G : List Addr} {f : Addr} {fd : FuncData}
end
end Rh
set_option Elab.async false
set_option linter.all false
set_option maxRecDepth 100000
set_option maxHeartbeats 1000000
namespace Rh
open PySem PySem.Spec PyProof.Rows L2 GxR Gx Dl LiI TL
/-- a term's text, sign by sign -/
def T.txt : T → List Nat
  | .v x => tl x
  | .c s => tl s
  | .u s t => tl s ++ 40 :: (t.txt ++ [41])
  | .b s t r => tl s ++ 40 :: (t.txt ++ 44 :: 32 :: (r.txt ++ [41]))
def T.told (t : T) : Str := ⟨t.txt.toArray⟩
theorem T.tl_told (t : T) : tl t.told = t.txt := by simp [tl, T.told]
theorem T.told_len (t : T) : t.told.length = t.txt.length := by rw [len_tl, T.tl_told]
theorem T.told_v {t : T} (h : t.parts = []) : t.told = t.sgn := by
  refine ext_tl ?_
  rw [T.tl_told]
  cases t <;> first | rfl | cases h
theorem T.told_n {t : T} (h2 : t.parts ≠ []) : t.told = t.sgn ++ Str.ofString "(" ++ Txt.join (Str.ofString ", ") (t.parts.map T.told) ++ Str.ofString ")" := by
  refine ext_tl ?_
  rw [T.tl_told, tl_append, tl_append, tl_append, join_eq, tl_join]
  cases t with
  | v x => exact absurd rfl h2
  | c s => exact absurd rfl h2
  | u s t =>
    simp only [T.parts, List.map_cons, List.map_nil, joinL, T.tl_told, T.sgn, T.txt]
    rw [show tl (Str.ofString "(") = [40] from by decide +kernel, show tl (Str.ofString ")") = [41] from by decide +kernel]
    simp
  | b s t r =>
    simp only [T.parts, List.map_cons, List.map_nil, joinL, T.tl_told, T.sgn, T.txt]
    rw [show tl (Str.ofString "(") = [40] from by decide +kernel, show tl (Str.ofString ")") = [41] from by decide +kernel, show tl (Str.ofString ", ") = [44, 32] from by decide +kernel]
    simp
theorem T.txt_parts {t p : T} (h : p ∈ t.parts) : p.txt.length ≤ t.txt.length := by
  cases t with
  | v x => cases h
  | c s => cases h
  | u s t =>
    rw [T.parts, List.mem_singleton] at h
    subst h
    simp [T.txt]; omega
  | b s t r =>
    rw [T.parts, List.mem_cons, List.mem_singleton] at h
    rcases h with h | h <;> subst h <;> simp [T.txt] <;> omega
theorem T.sgn_txt (t : T) : t.sgn.length ≤ t.txt.length := by
  rw [len_tl]
  cases t <;> simp [T.sgn, T.txt]
theorem can_enc : ∀ t : T, t.ok → PyData.canLay0 (enc t) = true := fun t => by
  induction t with
  | v x => intro o; simp [enc, PyData.canLay0, o.2.2]
  | c s => intro o; simp [enc, PyData.canLay0, PyData.canLayAll0, show PyData.strOk s = true from o]
  | u s t ih => intro o; simp [enc, PyData.canLay0, PyData.canLayAll0, ih o.2, o.1]
  | b s t r ih ih2 => intro o; simp [enc, PyData.canLay0, PyData.canLayAll0, ih o.2.1, ih2 o.2.2, o.1]
theorem depth_enc : ∀ t : T, (enc t).depth ≤ 2 * t.dp + 2 := fun t => by
  induction t with
  | v x => simp [enc, PyData.depth]
  | c s => simp [enc, PyData.depth, PyData.depthAll]
  | u s t ih => simp [enc, PyData.depth, PyData.depthAll, T.dp]; omega
  | b s t r ih ih2 => simp [enc, PyData.depth, PyData.depthAll, T.dp]; omega
theorem shaped_parts {t : T} (o : t.ok) (h : t.dp ≤ 28) : SeqAt.shaped (.tuple (t.parts.map enc)) = true := by
  unfold SeqAt.shaped
  rw [Bool.and_eq_true, decide_eq_true_eq]
  cases t with
  | v x => exact ⟨rfl, by simp [T.parts, PyData.depth, PyData.depthAll]⟩
  | c s => exact ⟨rfl, by simp [T.parts, PyData.depth, PyData.depthAll]⟩
  | u s t =>
    have := depth_enc t
    simp only [T.dp] at h
    exact ⟨by simp [T.parts, PyData.canLay0, PyData.canLayAll0, can_enc t o.2], by simp [T.parts, PyData.depth, PyData.depthAll]; omega⟩
  | b s t r =>
    have := depth_enc t
    have := depth_enc r
    simp only [T.dp] at h
    exact ⟨by simp [T.parts, PyData.canLay0, PyData.canLayAll0, can_enc t o.2.1, can_enc r o.2.2], by simp [T.parts, PyData.depth, PyData.depthAll]; omega⟩
def R_told (n : Nat) : List Ar → PyData → Prop := fun as d => ∃ t : T, as = [.d (enc t)] ∧ t.ok ∧ t.dp < n ∧ n ≤ 20 ∧ t.txt.length ≤ 2000 ∧ d = .str t.told
section
variable {P : Program} {w : World} {K : PySem.W.Frag} {mg : Str → Option Value} {base : Heap} {G : List Addr} {f : Addr} {fd : FuncData}
end
end Rh
set_option Elab.async false
set_option linter.all false
set_option maxRecDepth 100000
set_option maxHeartbeats 1000000
namespace Dl
open PySem PySem.Spec PyProof.Rows L2 GxR Gx LiI TL
theorem rdc_lenS {G : List Addr} {K : PySem.W.Frag} {H : Hp} {z : Str} (h : z.length ≤ sizeLine) : RdC G K (fun xs H Q => ∃ z, xs = [.str z] ∧ z.length ≤ sizeLine ∧ Q (.int z.length) H) [.str z] (.int z.length) H := fun H1 x vs rs Q q => by
  obtain ⟨v, rfl, rv⟩ := dpA_one rs
  exact ⟨z, by rw [dp_str rv], h, q _ H1 (Ext.refl G H1) (.int _)⟩
theorem one_eq {c e : Nat} {s : Str} (hs : tl s = [e]) : decide ((⟨#[c]⟩ : Str) = s) = decide (c = e) := by
  refine decide_eq_decide.mpr ⟨fun h => ?_, fun h => ?_⟩
  · have := congrArg tl h
    rw [hs] at this
    simpa [tl] using this
  · refine ext_tl ?_
    rw [hs, h]
def scanL (p : Nat → Bool) (l : List Nat) (k : Nat) : Nat := k + ((l.drop k).takeWhile p).length
theorem scanL_step {p : Nat → Bool} {l : List Nat} {k c : Nat} (h : l[k]? = some c) (hp : p c = true) : scanL p l (k + 1) = scanL p l k := by
  obtain ⟨h1, h2⟩ := List.getElem?_eq_some_iff.mp h
  unfold scanL
  rw [List.drop_eq_getElem_cons h1, h2, List.takeWhile_cons, if_pos hp, List.length_cons]
  omega
theorem scanL_stop {p : Nat → Bool} {l : List Nat} {k : Nat} (h : ∀ c, l[k]? = some c → p c = false) : scanL p l k = k := by
  unfold scanL
  cases e : l[k]? with
  | none =>
    rw [List.drop_eq_nil_of_le (List.getElem?_eq_none_iff.mp e)]
    rfl
  | some c =>
    obtain ⟨h1, h2⟩ := List.getElem?_eq_some_iff.mp e
    rw [List.drop_eq_getElem_cons h1, h2, List.takeWhile_cons, if_neg (by rw [h c e]; decide)]
    rfl
theorem scanL_app {p : Nat → Bool} {pre m post : List Nat} (h : ∀ c ∈ m, p c = true) (h2 : ∀ c, post.head? = some c → p c = false) : scanL p (pre ++ (m ++ post)) pre.length = pre.length + m.length := by
  unfold scanL
  rw [List.drop_left]
  congr 1
  rw [List.takeWhile_append_of_pos h]
  cases post with
  | nil => simp
  | cons c r => rw [List.takeWhile_cons, if_neg (by rw [h2 c rfl]; decide)]; simp
theorem scanL_le {p : Nat → Bool} {l : List Nat} {k : Nat} (h : k ≤ l.length) : scanL p l k ≤ l.length := by
  unfold scanL
  have := (List.takeWhile_sublist p (l := l.drop k)).length_le
  rw [List.length_drop] at this
  omega
end Dl
namespace Rh
open PySem PySem.Spec PyProof.Rows L2 GxR Gx Dl LiI TL
def isSp (c : Nat) : Bool := decide (c = 32)
def R_skip : List Ar → PyData → Prop := fun as d => ∃ (z : Str) (k : Nat), as = [.d (.str z), .d (.int k)] ∧ z.length ≤ 100000 ∧ k ≤ z.length ∧ d = .int (scanL isSp (tl z) k)
section
variable {P : Program} {w : World} {K : PySem.W.Frag} {mg : Str → Option Value} {base : Heap} {G : List Addr} {f : Addr} {fd : FuncData}
end
end Rh
set_option Elab.async false
set_option linter.all false
set_option maxRecDepth 100000
set_option maxHeartbeats 1000000
namespace Rh
open PySem PySem.Spec PyProof.Rows L2 GxR Gx Dl LiI TL
def SMs : Str := Str.ofString "abcdefghijklmnopqrstuvwxyzABCDEFGHIJKLMNOPQRSTUVWXYZ0123456789_+*"
def isSm (c : Nat) : Bool := decide (c ∈ tl SMs)
structure sgOk (s : Str) : Prop where
  ne : tl s ≠ []
  sm : ∀ c ∈ tl s, isSm c = true
def T.wf : T → Prop
  | .v x => sgOk x
  | .c s => sgOk s ∧ isVarS s = false
  | .u s t => sgOk s ∧ isVarS s = false ∧ t.wf
  | .b s t r => sgOk s ∧ isVarS s = false ∧ t.wf ∧ r.wf
theorem T.wf_sgn {t : T} (h : t.wf) : sgOk t.sgn := by cases t <;> first | exact h | exact h.1
theorem T.wf_parts {t p : T} (o : t.wf) (h : p ∈ t.parts) : p.wf := by
  cases t with
  | v x => cases h
  | c s => cases h
  | u s t => rw [T.parts, List.mem_singleton] at h; subst h; exact o.2.2
  | b s t r =>
    rw [T.parts, List.mem_cons, List.mem_singleton] at h
    rcases h with h | h <;> subst h
    · exact o.2.2.1
    · exact o.2.2.2
def joinT : List T → List Nat
  | [] => []
  | [p] => p.txt
  | p :: q :: r => p.txt ++ 44 :: 32 :: joinT (q :: r)
theorem T.txt_n {t : T} (h : t.parts ≠ []) : t.txt = tl t.sgn ++ (40 :: (joinT t.parts ++ [41])) := by
  cases t with
  | v x => exact absurd rfl h
  | c s => exact absurd rfl h
  | u s t => rfl
  | b s t r => simp [T.txt, T.parts, T.sgn, joinT]
theorem T.txt_leaf {t : T} (h : t.parts = []) : t.txt = tl t.sgn := by cases t <;> first | rfl | cases h
def postOk (post : List Nat) : Prop := ∀ c, post.head? = some c → isSm c = false ∧ c ≠ 40
theorem T.txt_head {t : T} (o : t.wf) : ∃ c r, t.txt = c :: r ∧ isSm c = true := by
  have h := T.wf_sgn o
  have e : ∃ r, t.txt = tl t.sgn ++ r := by cases t <;> simp [T.txt, T.sgn]
  obtain ⟨r, e⟩ := e
  cases hs : tl t.sgn with
  | nil => exact absurd hs h.ne
  | cons c q => exact ⟨c, q ++ r, by rw [e, hs]; rfl, h.sm c (by rw [hs]; exact List.mem_cons_self)⟩
theorem sm_not_sp {c : Nat} (h : isSm c = true) : isSp c = false := by
  unfold isSp
  refine decide_eq_false fun e => ?_
  rw [e] at h
  revert h
  decide +kernel
def R_term_at (n : Nat) : List Ar → PyData → Prop := fun as d => ∃ (z : Str) (t : T) (pre sp post : List Nat) (e : Nat), as = [.d (.str z), .d (.int pre.length), .d (.int e)] ∧ z.length ≤ 100000 ∧ tl z = pre ++ (sp ++ (t.txt ++ post)) ∧ (∀ c ∈ sp, isSp c = true) ∧ postOk post ∧ t.wf ∧ t.ok ∧ t.dp < n ∧ e + t.dp ≤ 60 ∧ n ≤ 100 ∧
  d = .tuple [enc t, .int ((pre.length + sp.length + t.txt.length : Nat) : Int)]
theorem sgLen {t : T} (o : t.ok) (h : t.txt.length ≤ 100000) : t.sgn.length ≤ 100000 := Nat.le_trans t.sgn_txt h
theorem tl_cut (z : Str) (a b : Nat) (h : a ≤ b) (h2 : b ≤ (tl z).length) : tl (cutS z (some (a : Int)) (some (b : Int))) = ((tl z).drop a).take (b - a) := by
  have l := len_tl z
  unfold cutS
  rw [HT.sIx_nat, HT.sIx_nat, Nat.min_eq_left (by omega), Nat.min_eq_left (by omega)]
theorem s_asgG {G : List Addr} {K : PySem.W.Frag} {σ : L2.St} {H : Hp} {te : TE} {g : TG} {d : PyData} {D : Ends} (h : Ed G K te σ H d) (q : ∀ v H', Ext G H H' → Dp K H' v d → g v σ H' D.nx) : tAsg te g D σ H := h H (Ext.refl G H) _ fun v H2 x2 r => q v H2 x2 r
/-- between two parts -/
def TAW (G : List Addr) (K : PySem.W.Frag) (z : Str) (t : T) (e ks : Nat) (L : Addr) (post : List Nat) (H : Hp) (m : Nat) (σ' : L2.St) (H' : Hp) : Prop := ∃ (ds rs : List T) (pre' sp' : List Nat) (vs : List V) (pt : Option V), m = rs.length ∧ rs ≠ [] ∧ ds ++ rs = t.parts ∧
  σ' = [some (.str z), some (.int pre'.length), some (.int e), some (.int ks), some (.str t.sgn), some (.ref L), pt] ∧ Ext G H H' ∧ H' L = some (.lst vs) ∧ DpAll K H' vs (ds.map enc) ∧ tl z = pre' ++ (sp' ++ (joinT rs ++ 41 :: post)) ∧ ∀ c ∈ sp', isSp c = true
section
variable {P : Program} {w : World} {K : PySem.W.Frag} {mg : Str → Option Value} {base : Heap} {G : List Addr} {f : Addr} {fd : FuncData} {tks : Tok}
theorem ed_ivS {σ : L2.St} {H : Hp} {te : TE} {x : Str} (tG : TabsG G H) (o : x.length ≤ 100000) (h : Ed G K te σ H (.str x)) : Ed G K (tCall (spA G K R_iv) [] (fun _ _ _ => False) (tCons te tNil)) σ H (.bool (isVarS x)) := ea_call tG (ea_one (edx_of h)) (.inl ⟨x, rfl, o, rfl⟩)
end
end Rh
set_option Elab.async false
set_option linter.all false
set_option maxRecDepth 100000
set_option maxHeartbeats 1000000
namespace Dl
open PySem PySem.Spec PyProof.Rows L2 GxR Gx LiI
def addK (l : List (List L2.Key)) (k : List L2.Key) : List (List L2.Key) := if (l.any fun x => decide (x = k)) = true then l else l ++ [k]
theorem addK_mem {l : List (List L2.Key)} {k x : List L2.Key} (h : x ∈ addK l k) : x ∈ l ∨ x = k := by
  unfold addK at h
  by_cases c : (l.any fun x => decide (x = k)) = true
  · rw [if_pos c] at h; exact .inl h
  · rw [if_neg c] at h; simpa using h
theorem addK_len (l : List (List L2.Key)) (k : List L2.Key) : (addK l k).length ≤ l.length + 1 := by
  unfold addK
  by_cases c : (l.any fun x => decide (x = k)) = true
  · rw [if_pos c]; omega
  · rw [if_neg c]; simp
theorem foldK_len : ∀ (m l : List (List L2.Key)), (m.foldl addK l).length ≤ l.length + m.length
  | [], l => Nat.le_refl _
  | k :: m, l => by
    have h1 := foldK_len m (addK l k)
    have h2 := addK_len l k
    rw [List.foldl_cons, List.length_cons]
    omega
theorem foldK_mem : ∀ {m l : List (List L2.Key)} {x : List L2.Key}, x ∈ m.foldl addK l → x ∈ l ∨ x ∈ m
  | [], l, x, h => .inl h
  | k :: m, l, x, h => by
    rcases foldK_mem (m := m) h with h | h
    · rcases addK_mem h with h | h
      · exact .inl h
      · exact .inr (by rw [h]; exact List.mem_cons_self)
    · exact .inr (List.mem_cons_of_mem _ h)
theorem putK_keysT (acc : List (List L2.Key × V)) (k : List L2.Key) (v : V) : (putK acc k v).map (·.1) = addK (acc.map (·.1)) k := by
  have e : ((acc.map (·.1)).any fun x => decide (x = k)) = acc.any fun kv => decide (kv.1 = k) := by
    rw [List.any_map]
    rfl
  unfold putK addK
  rw [e]
  by_cases c : (acc.any fun kv => decide (kv.1 = k)) = true
  · rw [if_pos c, if_pos c, List.map_map]
    refine List.map_congr_left fun p _ => ?_
    show (if p.1 = k then (p.1, v) else p).1 = p.1
    by_cases z : p.1 = k
    · rw [if_pos z]
    · rw [if_neg z]
  · rw [if_neg c, if_neg c]
    simp
def srtK (l : List (List L2.Key)) : List (List L2.Key) := l.mergeSort fun a b => PySem.W.dataLe false (fun d => d) (ksD a) (ksD b)
theorem srtK_D (l : List (List L2.Key)) : sortD (l.map ksD) = (srtK l).map ksD := (PySem.W.sort_maps ksD fun a _ b _ => rfl).symm
theorem srtK_perm (l : List (List L2.Key)) : (srtK l).Perm l := List.mergeSort_perm _ _
/-- a sign and how many parts -/
def IsSg (k : List L2.Key) : Prop := ∃ (s : Str) (n : Int), k = [.inr s, .inl n]
theorem sg_alike {l : List (List L2.Key)} (h : ∀ k ∈ l, IsSg k) : PySem.W.AllAlike (l.map ksD) := by
  intro d hd d' hd'
  obtain ⟨k, hk, rfl⟩ := List.mem_map.mp hd
  obtain ⟨k', hk', rfl⟩ := List.mem_map.mp hd'
  obtain ⟨s, n, rfl⟩ := h k hk
  obtain ⟨s', n', rfl⟩ := h k' hk'
  rfl
theorem sg_sortable {l : List (List L2.Key)} (h : ∀ k ∈ l, IsSg k) : PySem.W.Sortable (l.map ksD) := .inl fun d hd => by
  obtain ⟨k, hk, rfl⟩ := List.mem_map.mp hd
  obtain ⟨s, n, rfl⟩ := h k hk
  exact ⟨_, _, rfl⟩
theorem sg_depth {k : List L2.Key} (h : IsSg k) : (ksD k).depth ≤ 50 := by
  obtain ⟨s, n, rfl⟩ := h
  simp [ksD, kDa, PyData.depth, PyData.depthAll]
theorem sqT_updT {K : PySem.W.Frag} {H : Hp} {D : Addr} {acc : List (List L2.Key × V)} {o : HO} (h : H D = some (.dT acc)) {a : Addr} {xs : List V} (q : SqT K H a xs) : SqT K (upd H D o) a xs := by
  rcases q with q | q
  · rcases q with q | ⟨ob, q⟩
    · exact .inl (.inl (by rw [upd_ne (fun z => by rw [z, h] at q; cases q)]; exact q))
    · exact .inl (.inr ⟨ob, by rw [upd_ne (fun z => by rw [z, h] at q; cases q)]; exact q⟩)
  · exact .inr q
theorem TrA.updT {H : Hp} {D : Addr} {acc : List (List L2.Key × V)} {o : HO} (h : H D = some (.dT acc)) {xs : List V} {ds : List PyData} (r : TrA H xs ds) : TrA (upd H D o) xs ds := r.mono fun a k e => by rw [upd_ne (fun z => by rw [z, h] at e; cases e)]; exact e
theorem TrD.ext {G : List Addr} {H H' : Hp} {v : V} {d : PyData} (x : Ext G H H') (tG : TabsG G H) (h : TrD H v d) : TrD H' v d := by
  obtain ⟨a, k, e1, e2, h⟩ := h
  exact ⟨a, k, e1, e2, x.at tG h (fun ps z => by cases z)⟩
theorem TrA.ext {G : List Addr} {H H' : Hp} {xs : List V} {ds : List PyData} (x : Ext G H H') (tG : TabsG G H) (h : TrA H xs ds) : TrA H' xs ds := h.mono fun a k e => x.at tG e (fun ps z => by cases z)
end Dl
namespace Rh
open PySem PySem.Spec PyProof.Rows L2 GxR Gx Dl LiI
theorem sc_signs : FnScope ["term", "found", "part", "pair"] ["term"] (defScope s_signs) := ⟨rfl, rfl, rfl, by decide +kernel, rfl, by decide +kernel, by decide +kernel⟩
def T.hdK (t : T) : List L2.Key := [.inr t.sgn, .inl (t.parts.length : Nat)]
def T.sgs : T → List (List L2.Key)
  | .v _ => []
  | .c s => srtK [[.inr s, .inl 0]]
  | .u s t => srtK (t.sgs.foldl addK [[.inr s, .inl 1]])
  | .b s t r => srtK ((t.sgs ++ r.sgs).foldl addK [[.inr s, .inl 2]])
theorem T.sgs_n {t : T} (h : t.isV = false) : t.sgs = srtK ((t.parts.flatMap T.sgs).foldl addK [t.hdK]) := by
  cases t with
  | v x => cases h
  | c s => rfl
  | u s t => simp [T.sgs, T.parts, T.hdK, T.sgn]
  | b s t r => simp [T.sgs, T.parts, T.hdK, T.sgn]
theorem T.sgs_sg : ∀ (t : T), ∀ k ∈ t.sgs, IsSg k
  | .v _, k, h => by cases h
  | .c s, k, h => by
    have := (srtK_perm _).mem_iff.mp h
    rw [List.mem_singleton] at this
    exact ⟨_, _, this⟩
  | .u s t, k, h => by
    rcases foldK_mem ((srtK_perm _).mem_iff.mp h) with h | h
    · rw [List.mem_singleton] at h
      exact ⟨_, _, h⟩
    · exact T.sgs_sg t k h
  | .b s t r, k, h => by
    rcases foldK_mem ((srtK_perm _).mem_iff.mp h) with h | h
    · rw [List.mem_singleton] at h
      exact ⟨_, _, h⟩
    · rcases List.mem_append.mp h with h | h
      · exact T.sgs_sg t k h
      · exact T.sgs_sg r k h
theorem T.sgs_len : ∀ t : T, t.sgs.length ≤ t.size
  | .v _ => Nat.zero_le _
  | .c s => by
    rw [T.sgs, (srtK_perm _).length_eq]
    simp [T.size]
  | .u s t => by
    have h1 := T.sgs_len t
    have h2 := foldK_len t.sgs [[.inr s, .inl 1]]
    rw [T.sgs, (srtK_perm _).length_eq]
    simp only [T.size, List.length_singleton] at *
    omega
  | .b s t r => by
    have h1 := T.sgs_len t
    have h3 := T.sgs_len r
    have h2 := foldK_len (t.sgs ++ r.sgs) [[.inr s, .inl 2]]
    rw [T.sgs, (srtK_perm _).length_eq]
    simp only [T.size, List.length_singleton, List.length_append] at *
    omega
theorem T.flatS_len {t : T} (h : t.isV = false) : (t.parts.flatMap T.sgs).length + 1 ≤ t.size := by
  cases t with
  | v x => cases h
  | c s => simp [T.parts, T.size]
  | u s t =>
    have h1 := T.sgs_len t
    simp [T.parts, T.size]
    omega
  | b s t r =>
    have h1 := T.sgs_len t
    have h2 := T.sgs_len r
    simp [T.parts, T.size]
    omega
def spSg (G : List Addr) (K : PySem.W.Frag) (n : Nat) : Sp := fun vs H Q _ => TabsG G H ∧ ∃ t : T, ArA K H vs [.d (enc t)] ∧ t.ok ∧ t.dp < n ∧ n ≤ 12 ∧
  ∀ p xs H', Ext G H H' → H' p = some (.tup xs) → TrA H' xs (t.sgs.map ksD) → Q (.ref p) H'
theorem flat_mem_len {α β : Type} (g : α → List β) : ∀ {l : List α} {p : α}, p ∈ l → (g p).length ≤ (l.flatMap g).length
  | a :: l, p, h => by
    rw [List.flatMap_cons, List.length_append]
    rcases List.mem_cons.mp h with e | e
    · rw [e]; omega
    · have := flat_mem_len g e
      omega
theorem foldl_flat {α β γ : Type} (f : β → γ → β) (g : α → List γ) (l : List α) (b : β) : (l.flatMap g).foldl f b = l.foldl (fun b a => (g a).foldl f b) b := by
  induction l generalizing b with
  | nil => rfl
  | cons a l ih => rw [List.flatMap_cons, List.foldl_append, List.foldl_cons, ih]
theorem take_foldl {α β : Type} {f : β → α → β} {b : β} {l : List α} {i : Nat} {a : α} (h : l[i]? = some a) : (l.take (i + 1)).foldl f b = f ((l.take i).foldl f b) a := by
  rw [List.take_add_one, h, List.foldl_append]
  rfl
section
variable {P : Program} {w : World} {K : PySem.W.Frag} {mg : Str → Option Value} {base : Heap} {G : List Addr} {f : Addr} {fd : FuncData}
theorem s_forSg {n : Nat} {t : T} {H : Hp} {σ : L2.St} {tA : TA} {E : XK} {g : TG} {tb : TS} {D : Ends} (tG : TabsG G H) (h : EdXA G K tA σ H [.d (enc t)]) (o : t.ok) (hd : t.dp < n) (hn : n ≤ 12)
    (q : ∀ a ys H', Ext G H H' → H' a = some (.tup ys) → TrA H' ys (t.sgs.map ksD) → ∃ W : Nat → Nat → L2.St → Hp → Prop, (∃ m, W 0 m σ H') ∧ ∀ i m σ H, W i m σ H →
      ((Itt K a).stop i H ∧ D.nx σ H) ∨ ((Itt K a).go i H ∧ ∃ N : L2.St → Hp → Prop, (∀ σ' H', N σ' H' → ∃ m', m' < m ∧ W (i + 1) m' σ' H') ∧ ∀ x H', (Itt K a).yld i H x H' → g x σ H' fun σ2 H2 => tb { D with nx := N, ct := N, bk := D.nx } σ2 H2)) :
    tFor (iTup K (tCall (spSg G K n) [] E tA)) g tb D σ H := h H (Ext.refl G H) _ fun vs H1 x1 rs => by
  show spSg G K n (vs ++ []) H1 _ _
  rw [List.append_nil]
  exact ⟨tG.ext x1, t, rs, o, hd, hn, fun a ys H2 x2 e2 tr => ⟨a, rfl, ⟨ys, .inl (.inl e2)⟩, q a ys H2 (x1.trans x2) e2 tr⟩⟩
theorem DefF.noneS {x : Str} {st : Stmt} {ps : List Str} {sp : Sp} (D : DefF K mg base G x st ps f fd) (h : ∀ vs H Q E, ¬ sp vs H Q E) : Cl0 P w K mg base 0 x sp := by
  obtain ⟨c, Pt, F, TB, hP⟩ := D.cP
  exact ⟨f, fd, ps, ⟨fun vs H Q E r => absurd r (h vs H Q E), fun A outer s H args us vs Q E _ _ _ _ r => absurd r (h vs H Q E)⟩, D.m, F.kp, D.b⟩
theorem cl_signs (D : DefF K mg base G "signs" s_signs ["term"] f fd) (iv : IV P w K mg base G) (m1 : mg "len" = none) (m2 : mg "tuple" = none) (m3 : mg "sorted" = none) : ∀ n, Cl0 P w K mg base (2 * n + 2) "signs" (spSg G K n)
  | 0 => (DefF.noneS D fun vs H Q E ⟨_, t, _, _, h, _⟩ => Nat.not_lt_zero _ h).mono (Nat.zero_le _)
  | n + 1 => by
    have ih := cl_signs D iv m1 m2 m3 n
    refine D.clS (k := 2 * n + 3) sc_signs (fun vs H Q E h => by obtain ⟨_, _, r, _⟩ := h; exact arA_len r) fun c Pt A outer s H vs Q E TB hP hr h => ?_
    refine ⟨_, pss_cons (ps_if (pt_val (pe_cl iv (hr.mono (by omega)) rfl (pa_cons (pv 0) pa_nil))) (pss_one (ps_ret (pe_tup pa_nil))) pss_nil)
      (pss_cons (ps_set (i := 1) sc_signs.nd rfl (Or.inl rfl) (pe_dispT hr.units (pe_tup (pa_cons (pe_ix ix_tup (pv 0) pe_int (fun _ _ => rfl)) (pa_cons (pe_callB call_len_seq (by rfl) m1 PySem.boot_len (pa_cons (pe_ix ix_tup (pv 0) pe_int (fun _ _ => rfl)) pa_nil)) pa_nil))) pe_bl))
      (pss_cons (ps_for PassesOwn.never rfl (pi_tup (pe_ix ix_tup (pv 0) pe_int (fun _ _ => rfl))) (pg_name (i := 2) sc_signs.nd rfl (Or.inl rfl))
        (pss_one (ps_for PassesOwn.never rfl (pi_tup (pe_cl ih (hr.mono (by omega)) rfl (pa_cons (pv 2) pa_nil))) (pg_name (i := 3) sc_signs.nd rfl (Or.inl rfl))
          (pss_one (ps_dput (hu_of hr) (pv 1) (pv 3) pe_bl (by rfl))))))
      (pss_one (ps_ret (pe_callTy call_tuple_of (by rfl) m2 (by decide +kernel) (pa_cons (pe_callB (cr_sortedT rfl hr.units) (by rfl) m3 (by decide +kernel) (pa_cons (pv 1) pa_nil)) pa_nil)))))), ?_⟩
    obtain ⟨tG, t, hv, o, hd, hn, q⟩ := h
    obtain ⟨v, rfl, rv⟩ := arA_one hv
    have v0 : ∀ {H' a b c}, Ext G H H' → Ed G K (tVar 0) [some v, a, b, c] H' (enc t) := fun y => ed_var (tG.ext y) rfl (dp_ext y tG rv)
    refine s_ifR (edt_val (ed_iv tG o (v0 (Ext.refl G H)))) (fun h H2 y => ?_) fun h H2 y => ?_
    · refine ⟨by show 0 ≤ sizeLine; decide, fun p hp => q p [] _ (y.trans (Ext.new hp)) upd_same ?_⟩
      cases t with
      | v x => exact .nil
      | c _ => cases h
      | u _ _ => cases h
      | b _ _ _ => cases h
    have t2 := tG.ext y
    have fl := T.flatS_len h
    have sz : t.size < 5000 := Nat.lt_of_lt_of_le (T.size_le t) (Nat.le_trans (Nat.pow_le_pow_right (by decide) (show t.dp + 1 ≤ 12 by omega)) (by decide))
    intro D hD
    have x3 : Ext G H2 (upd H2 D (.dT [])) := Ext.new hD
    have eD3 : (upd H2 D (.dT [])) D = some (.dT []) := upd_same
    generalize upd H2 D (.dT []) = H3 at x3 eD3
    have t3 := t2.ext x3
    refine (ed_cons t3 (ed_sgn t3 h (v0 (y.trans x3))) (ed_one (ed_cb (ed_one (ed_parts t3 h (v0 (y.trans x3)))) rdc_len))) H3 (Ext.refl G H3) _ fun vs H4 x4 rs => ?_
    obtain ⟨w1, w2, rfl, rw1, rw2⟩ := dpA_two rs
    rw [dp_str rw1, dp_int rw2]
    refine ⟨by show 2 ≤ sizeLine; decide, fun b hb => ?_⟩
    have x5 : Ext G H4 (upd H4 b (.tup [.str t.sgn, .int ((t.parts.map enc).length : Nat)])) := Ext.new hb
    have eb : (upd H4 b (.tup [.str t.sgn, .int ((t.parts.map enc).length : Nat)])) b = some (.tup (t.hdK.map kV)) := by
      rw [upd_same, List.length_map]
      rfl
    generalize upd H4 b (.tup [.str t.sgn, .int ((t.parts.map enc).length : Nat)]) = H5 at x5 eb
    have x35 := x4.trans x5
    have eD5 := x35.at t3 eD3 (fun ps z => by cases z)
    refine ⟨eD5, t.hdK, b, rfl, eb, ?_⟩
    have x6 : Ext G H2 (upd H5 D (.dT [(t.hdK, .bl true)])) := (x3.trans x35).mut hD eD5 (fun ps z => by cases z)
    have eD6 : (upd H5 D (.dT [(t.hdK, .bl true)])) D = some (.dT [(t.hdK, .bl true)]) := upd_same
    generalize upd H5 D (.dT [(t.hdK, .bl true)]) = H6 at x6 eD6
    have t6 := t2.ext x6
    refine (ed_parts t6 h (v0 (y.trans x6))) H6 (Ext.refl G H6) _ fun w1 H7 x7 rw1 => ?_
    obtain ⟨a, xs, rfl, hs, hrr⟩ := dp_tup rw1
    have puP : PuA (t.parts.map enc) = true := puA_all.mpr fun d hd => by
      obtain ⟨p, _, rfl⟩ := List.mem_map.mp hd
      exact pu_enc p
    refine ⟨a, rfl, ⟨xs, hs⟩, for_tup (a := a) (xs := xs) (fun i σ' H' => Ext G H2 H' ∧ SqT K H' a xs ∧ DpAll K H' xs (t.parts.map enc) ∧ ∃ (b c : Option V) (acc : List (List L2.Key × V)), σ' = [some v, some (.ref D), b, c] ∧ H' D = some (.dT acc) ∧ acc.map (·.1) = (t.parts.take i).foldl (fun l p => p.sgs.foldl addK l) [t.hdK]) ?_ (fun i σ' H' _ z => z.2.1) ?_ ?_⟩
    · exact ⟨x6.trans x7, hs, hrr, none, none, _, rfl, x7.at t6 eD6 (fun ps z => by cases z), rfl⟩
    · rintro i yv σ' H' hy ⟨xx, hs', hr', b0, c0, acc, rfl, eD, hacc⟩
      have tH := t2.ext xx
      obtain ⟨d, hd2, rd⟩ := dpA_getV hr' hy
      rw [List.getElem?_map] at hd2
      obtain ⟨p, hp, rfl⟩ := Option.map_eq_some_iff.mp hd2
      have mp := List.mem_of_getElem? hp
      refine s_forSg (t := p) (σ := [some v, some (.ref D), some yv, c0]) tH (ea_one (edx_of (ed_var (i := 2) tH rfl rd))) (T.ok_parts o mp) (by have := T.dp_parts mp; omega) (by omega) fun pa ys H9 x89 e9 tr => ?_
      have eD9 := x89.at tH eD (fun ps z => by cases z)
      refine for_tup (a := pa) (xs := ys) (fun j σ' H' => Ext G H2 H' ∧ SqT K H' a xs ∧ DpAll K H' xs (t.parts.map enc) ∧ SqT K H' pa ys ∧ TrA H' ys (p.sgs.map ksD) ∧ ∃ (c : Option V) (acc : List (List L2.Key × V)), σ' = [some v, some (.ref D), some yv, c] ∧ H' D = some (.dT acc) ∧ acc.map (·.1) = (p.sgs.take j).foldl addK ((t.parts.take i).foldl (fun l p => p.sgs.foldl addK l) [t.hdK])) ?_ (fun i σ' H' _ z => z.2.2.2.1) ?_ ?_
      · exact ⟨xx.trans x89, x89.sqT tH hs', dpA_ext x89 tH hr', .inl (.inl e9), tr, c0, acc, rfl, eD9, hacc⟩
      · rintro j z σ2 H' hz ⟨xj, hsj, hrj, hpj, trj, c1, accj, rfl, eDj, haccj⟩
        obtain ⟨d, hd3, tz⟩ := trj.get hz
        rw [List.getElem?_map] at hd3
        obtain ⟨k, hk, rfl⟩ := Option.map_eq_some_iff.mp hd3
        obtain ⟨bz, k2, rfl, ek, hbz⟩ := tz
        have := ksD_inj ek
        subst this
        have ln : accj.length ≤ 20000 := by
          have h1 : accj.length = (accj.map (·.1)).length := by rw [List.length_map]
          rw [h1, haccj, ← foldl_flat]
          have h2 := foldK_len ((t.parts.take i).flatMap T.sgs) [t.hdK]
          have h3 := foldK_len (p.sgs.take j) (((t.parts.take i).flatMap T.sgs).foldl addK [t.hdK])
          have h4 : (p.sgs.take j).length ≤ p.sgs.length := by rw [List.length_take]; omega
          have h5 : p.sgs.length ≤ (t.parts.flatMap T.sgs).length := flat_mem_len T.sgs mp
          have h6 : ((t.parts.take i).flatMap T.sgs).length ≤ (t.parts.flatMap T.sgs).length := by
            conv => rhs; rw [← List.take_append_drop i t.parts]
            rw [List.flatMap_append, List.length_append]
            omega
          rw [List.length_singleton] at h2
          omega
        refine ⟨_, rfl, _, rfl, D, _, rfl, DPut.t eDj hbz (by rw [sizeLine_eq]; omega), ?_⟩
        refine ⟨xj.mut hD eDj (fun ps z => by cases z), sqT_updT eDj hsj, dpA_tups (fun _ _ q => sqT_updT eDj q) puP hrj, sqT_updT eDj hpj, trj.updT eDj, _, _, rfl, upd_same, ?_⟩
        rw [putK_keysT, haccj, take_foldl hk]
      · rintro σ2 H' ⟨xj, hsj, hrj, hpj, trj, c1, accj, rfl, eDj, haccj⟩
        have e1 := trj.len
        rw [List.length_map] at e1
        refine ⟨xj, hsj, hrj, _, _, accj, rfl, eDj, ?_⟩
        rw [haccj, e1, List.take_length, take_foldl hp]
    · rintro σ2 H' ⟨xj, hsj, hrj, b1, c1, accj, rfl, eDj, haccj⟩
      have e1 := dpA_len hrj
      rw [List.length_map] at e1
      rw [e1, List.take_length, ← foldl_flat] at haccj
      have sg : ∀ k ∈ accj.map (·.1), IsSg k := fun k hk => by
        rw [haccj] at hk
        rcases foldK_mem hk with hk | hk
        · rw [List.mem_singleton] at hk
          exact ⟨_, _, hk⟩
        · obtain ⟨p, _, hk⟩ := List.mem_flatMap.mp hk
          exact T.sgs_sg p k hk
      have em : (accj.map fun p => ksD p.1) = (accj.map (·.1)).map ksD := by rw [List.map_map]; rfl
      refine ⟨_, rfl, D, accj, rfl, .inl eDj, by rw [em]; exact sg_alike sg, by rw [em]; exact sg_sortable sg, fun p hp => sg_depth (sg _ (List.mem_map.mpr ⟨p, hp, rfl⟩)), fun ys p tr hp => ?_⟩
      have tj := t2.ext xj
      have e3 : (accj.map fun p => ksD p.1) = ((t.parts.flatMap T.sgs).foldl addK [t.hdK]).map ksD := by rw [em, haccj]
      rw [e3, srtK_D, ← T.sgs_n h] at tr
      have xp : Ext G H' (upd H' p (.lst ys)) := Ext.new hp
      refine ⟨p, ys, rfl, .inl ⟨.inl (.inl upd_same), fun l hl => ?_⟩⟩
      have xl : Ext G (upd H' p (.lst ys)) (upd (upd H' p (.lst ys)) l (.tup ys)) := Ext.new hl
      exact q l ys _ (y.trans (xj.trans (xp.trans xl))) upd_same ((tr.ext xp tj).ext xl (tj.ext xp))
end
end Rh
set_option Elab.async false
set_option linter.all false
set_option maxRecDepth 100000
set_option maxHeartbeats 1000000
namespace Rh
open PySem PySem.Spec PyProof.Rows L2 GxR Gx Dl LiI TL
def R_read (n : Nat) : List Ar → PyData → Prop := fun as d => ∃ t : T, as = [.d (.str t.told)] ∧ t.wf ∧ t.ok ∧ t.dp < n ∧ n ≤ 60 ∧ t.txt.length ≤ 2000 ∧ d = enc t
section
variable {P : Program} {w : World} {K : PySem.W.Frag} {mg : Str → Option Value} {base : Heap} {G : List Addr} {f : Addr} {fd : FuncData}
end
end Rh
set_option Elab.async false
set_option linter.all false
set_option maxRecDepth 100000
set_option maxHeartbeats 1000000
/-! f(lambda: e): all but the own table stays -/
namespace Gx
open PySem PySem.Spec PyProof.Rows L2 GxR LamX
/-- what the making of a lambda changes: the table at P, whose code objects stay known -/
structure LamMade (P : Addr) (q : Str) (H H1 : Hp) : Prop where
  keep : ∀ b o, b ≠ P → H b = some o → H1 b = some o
  tab : TabS H1 P q
section
variable {X : Cx} {pins : List (Addr × Obj)} {σ : L2.St} {H : Hp} {s : Shared}
theorem tabS_snoc {P c' : Addr} {q : Str} {ps : Array Value} {pos : Pos} (hP : H P = some (.tbl ps)) (tr : TriplesOk ps.toList) (known : ∀ (p : Pos) (cv : Value), codeAmong p ps.toList = some cv → ∃ c, cv = .ref c ∧ H c = some (CodeO c q)) (new : H c' = none) :
    LamMade P q H (upd (upd H P (.tbl (ps ++ #[rawInt pos.line, rawInt pos.col, .ref c']))) c' (CodeO c' q)) := by
  have keep : ∀ b o, b ≠ P → H b = some o → (upd (upd H P (.tbl (ps ++ #[rawInt pos.line, rawInt pos.col, .ref c']))) c' (CodeO c' q)) b = some o := fun b o h e => by
    rw [upd_ne (ne_of_none e new), upd_ne h]
    exact e
  have shape : (ps ++ #[rawInt pos.line, rawInt pos.col, .ref c']).toList = ps.toList ++ [rawInt pos.line, rawInt pos.col, .ref c'] := by simp
  refine ⟨keep, _, by rw [upd_ne (ne_of_none hP new), upd_same], by rw [shape]; exact PySem.TriplesOk_snoc _ _ _ _ tr, fun p cv h => ?_⟩
  rw [shape] at h
  rcases among_app _ tr h with old | this
  · obtain ⟨c, e, k⟩ := known p cv old
    have ne : c ≠ P := fun z => by
      rw [z, hP] at k
      exact codeO_ne ps (Option.some.inj k).symm
    exact ⟨c, e, keep c _ ne k⟩
  · exact ⟨c', this, upd_same⟩
theorem lamNew {c P : Addr} {params : Arguments} {body : Expr} {scope : Scope} {pos : Pos} {E : Value → Shared → Prop} {Q : Value → Shared → Prop} (I : Inv X pins σ H s) (TB : LamX.TabB X.base X.mg c P) (hcode : X.env.code = .ref c)
    (hT : TabS H P (X.env.qual ++ "<lambda>")) (hdef : defaultsOf params X.env = ([], [])) (hfree : ∀ y ∈ scope.names, y.2 = .free → ∃ c, X.env.cells.lookup y.1 = some c)
    (go : ∀ (f c' : Addr) (pm ctv : Value) (H1 : Hp) (s' : Shared), Inv X pins σ H1 s' → LamMade P (X.env.qual ++ "<lambda>") H H1 →
      s'.heap.get? f = some (PySem.W.kla_obj "<lambda>" (X.env.qual ++ "<lambda>") params body scope (cloFrom X.env.cells scope.names []) pm c' ctv) → H1 f = none → f ∉ frs X.stack → H1 c' = some (CodeO c' (X.env.qual ++ "<lambda>")) → Q (.ref f) s') :
    wpAny (model X.prog X.w) X.A (eval (.Lambda params body scope pos) X.env) Q E s := by
  obtain ⟨ps, hP, tr, known⟩ := id hT
  have there : s.heap.get? P = some { cls := .none, data := .fields ps } := I.hok P _ hP
  have outside : ∀ f, s.heap.objs.size ≤ f → f ∉ frs X.stack := fun f big hm => by
    rcases List.mem_cons.mp (I.stkSub _ hm) with e | e
    · have small := I.lt
      rw [← e] at small
      exact absurd (Nat.lt_of_lt_of_le small big) (Nat.lt_irrefl _)
    · exact I.nofs big e
  refine PySem.W.kla_eval hdef ?_
  cases found : codeAmong pos ps.toList with
  | some cv =>
    obtain ⟨c', e, k⟩ := known pos cv found
    subst e
    refine PySem.W.kla_makeFunctionHit (mg := X.mg) (c := c) (P := P) (ps := ps) (closure_ok hfree) I.ok.glob (I.mod.glob.keeps I.bk) hcode (TB.code.keeps I.bk) there tr found (TB.bm.keeps I.bk) fun ctv h' tk grow size => ?_
    exact go _ c' _ ctv H _ (I.kept fun b o e => Heap.get?_push_of_some _ (grow b o e)) ⟨fun _ _ _ e => e, hT⟩ (Heap.get?_push_size _ rfl) (I.hok.fresh size) (outside _ size) k
  | none =>
    refine PySem.W.kla_makeFunction (mg := X.mg) (c := c) (P := P) (ps := ps) (closure_ok hfree) I.ok.glob (I.mod.glob.keeps I.bk) hcode (TB.code.keeps I.bk) there tr found TB.gP (TB.bm.keeps I.bk) fun c' ctv h' tk grow old size rec written => ?_
    obtain ⟨c2, oc, vs, t, e2, at2, dat, nam⟩ := rec
    cases e2
    have new : H c' = none := I.hok.fresh old
    have size2 : s.heap.objs.size ≤ h'.objs.size := Nat.le_trans old (Nat.le_of_lt size)
    have made := tabS_snoc (pos := pos) hP tr known new
    refine go h'.objs.size c' ((X.mg "__name__").getD .none) ctv _ _ (inv_table (t' := tk) (more := #[rawInt pos.line, rawInt pos.col, .ref c']) (h' := h'.push (PySem.W.kla_obj "<lambda>" (X.env.qual ++ "<lambda>") params body scope (cloFrom X.env.cells scope.names []) ((X.mg "__name__").getD .none) c' ctv)) I hP
      (fun b o ne e => Heap.get?_push_of_some _ (grow b o ne e)) (Heap.get?_push_of_some _ written) old ⟨oc, vs, t, Heap.get?_push_of_some _ at2, dat, nam⟩) made (Heap.get?_push_size _ rfl) ?_ (outside _ size2) upd_same
    rw [upd_ne (Nat.ne_of_gt size), upd_ne (Nat.ne_of_gt (Nat.lt_of_lt_of_le (Heap.lt_size there) size2))]
    exact I.hok.fresh size2
/-- f(lambda: e), f a def that calls what it got -/
def tLam1 (P : Addr) (q : Str) (TT : (XK → Hp → VK → Prop) → Hp → VK → Prop) (t : XK → TE) : TE := fun σ H Q => TabS H P q ∧ ∀ H1, LamMade P q H H1 → TT (fun E H' Q' => t E σ H' Q') H1 Q
theorem pe_lam1 {TT : (XK → Hp → VK → Prop) → Hp → VK → Prop} {x a : Str} {g c P : Addr} {k : Nat} {pg : Arguments} {bg : List Stmt} {sg : Scope} {dV kV doc pm cdv ct oc : Value} {an od : Option Addr} {osl : Array (Option Value)} {Ng : List Str}
    {params : Arguments} {body : Expr} {scope : Scope} {t : XK → TE} {p lpos pos : Pos} (hg : Gl X x) (hm : X.mg x = some (.ref g)) (hk : PySem.W.keepIn X.K (.ref g) = true)
    (lk : X.K.lookup g = some ⟨oc, od, .func (PySem.W.fnOf x x pg bg sg dV kV doc pm an cdv ct), osl⟩) (hcg : PySem.W.codeIn X.K cdv x = true) (hb : L2.Binds X.K (PySem.W.fnOf x x pg bg sg dV kV doc pm an cdv ct) [a] []) (Sg : FnScope Ng [a] sg) (hNg : Ng[0]? = some a) (hva : Vis sg a)
    (hG : GivesTo X Ng x sg g cdv bg a (X.env.qual ++ "<lambda>") TT)
    (TB : LamX.TabB X.base X.mg c P) (hcode : X.env.code = .ref c) (hr : Room (k + 2) X.A) (L : LamS X.env.scope scope) (hdef : defaultsOf params X.env = ([], []))
    (hbind : ∀ (q : Str) (cl : List (Str × Addr)) (pm cv ctv : Value), bindArgs (PySem.W.kla_fn "<lambda>" q params body scope cl pm cv ctv) ⟨[], []⟩ = pure [])
    (hbody : ∀ (A : Around) (outer : List Env) (s : Shared) (H : Hp) (E : XK) (f c' : Addr), Room k (A.deeper (lamEnv X scope s.heap.objs.size f c')) → PE (lamCx X A outer s H E scope f c') body (t E))
    (hdb : (x == ("__debug__" : Str)) = false := by decide) (hd : (a == ("__debug__" : Str)) = false := by decide) (hcd : (a == ("__classdict__" : Str)) = false := by decide) :
    PE X (.Call (.Name x p) [.Lambda params body scope lpos] [] pos) (tLam1 P (X.env.qual ++ "<lambda>") TT t) := by
  refine ⟨fun pins s σ H Q I ⟨hT, h⟩ => ?_⟩
  refine wpAny_Call_Name_kw (ld_glob I hg hm (PySem.W.callWith_K (h₀ := X.base) I.ok.mod.kin hk ?_ (by rfl) (by rfl)) hdb)
  refine Calls.spliced_cons (lamNew I TB hcode hT hdef (L.has I.ok) fun f c' pm' ctv H1 s' I1 made hf hfn hfr hco => Calls.spliced_nil ⟨I1.kIn, ?_⟩)
  have ran : codeAny (model X.prog X.w) X.A (.call (.ref g) ⟨[.ref f], []⟩) (CR C8.CX0 X.stack X.prog X.w H1 s' Q C8.E0) s' :=
    run_ofS (N := Ng) (ps := [a]) (us := [.ref f]) (vs := [.ref f]) lk hcg Sg hr I1.env0 (hb s' [.ref f] I1.kIn rfl) (.cons rfl .nil) rfl fun hr' => by
      obtain ⟨t', ht', hq'⟩ := hG f c' s' H1 Q (fun E H' Q' => t E σ H' Q') (fun W pn xe E p1 p2 tk hW => pe_act (i := 0) I1 L hf hfn hfr (hbind _ _ _ _ _) tk hW hr' (fun A outer s H hr2 => hbody A outer s H E f c' hr2) hNg hva hd hcd) hco (h H1 made)
      exact ⟨t', ht'.nox, hq'⟩
  refine wpAny_call (codeAny_mono ran fun r s2 hq => ?_)
  match r, hq with
  | .ok (.ret u), hq => exact I1.after hq
  | .ok .next, hq => exact False.elim hq
  | .ok .brk, hq => exact False.elim hq
  | .ok .cont, hq => exact False.elim hq
  | .error e, hq => exact (show False from hq).elim
end
end Gx
set_option Elab.async false
set_option linter.all false
set_option maxRecDepth 100000
set_option maxHeartbeats 1000000
namespace Dl
open PySem PySem.Spec PyProof.Rows L2 GxR Gx
/-- a def that may raise -/
structure ClX (P : Program) (w : World) (K : PySem.W.Frag) (mg : Str → Option Value) (base : Heap) (k : Nat) (x : Str) (sp : Sp) : Prop where
  ex : ∃ f fd ps, FnOk P w K mg base (L2.CX P w) k f fd ps sp ∧ mg x = some (.ref f) ∧ PySem.W.keepIn K (.ref f) = true ∧ Binds K fd ps []
section
variable {X : Cx} {k : Nat} {x : Str} {sp : Sp} {E : XK} {p pos : Pos} {e : Expr} {es : List Expr} {t : TA} {P : Program} {w : World} {K : PySem.W.Frag} {mg : Str → Option Value} {base : Heap} {G : List Addr}
theorem pe_clX (C : ClX X.prog X.w X.K X.mg X.base k x sp) (hr : Room k X.A) (hg : Gl X x) (hx : Passes (L2.CX X.prog X.w) X E) (ha : PA X (e :: es) t) (hdb : (x == ("__debug__" : Str)) = false := by decide)
    (he : starEach (e :: es) X.env = (false, eval e X.env) :: starEach es X.env := by rfl) (hpl : (backTo pos (starEach es X.env)).any (·.1) = false := by rfl) :
    PE X (.Call (.Name x p) (e :: es) [] pos) (tCall sp [] E t) := by
  obtain ⟨f, fd, ps, F, m, kp, b⟩ := C.ex
  exact pe_call F hr hg m kp b .nil hx ha hdb he hpl
theorem DefF.clX {st : Stmt} {f : Addr} {fd : FuncData} {N ps : List Str} {R : List Ar → Prop} {C : Addr} (D : DefF K mg base G x st ps f fd) (S : FnScope N ps (defScope st)) (len : ∀ ds, R ds → ds.length = ps.length)
    (hbody : ∀ (c Pt : Addr) (A : Around) (outer : List Env) (s : Shared) (H : Hp) (vs : List V) (ds : List Ar) (Q : VK) (E : XK), TabB base mg c Pt → Pt ∈ G → Room k (A.deeper (envOfC x (defScope st) s.heap.objs.size f (.ref c))) →
      TabsG G H → ArA K H vs ds → R ds → (∀ H', Ext G H H' → E (.ref C) Option.none H') →
      ∃ t, PSs (cxOf (L2.CX P w) P w K mg base N x (defScope st) f (.ref c) A outer s H E) (defBody st) t ∧ t { nx := fun _ H' => Q .non H', rt := Q } (start N vs) H) : ClX P w K mg base (k + 1) x (spE G K R C) := by
  obtain ⟨c, Pt, F, TB, hP⟩ := D.cP
  refine ⟨f, fd, ps, ?_, D.m, F.kp, D.b⟩
  obtain ⟨oc, od, kV, doc, pm, an, ct, osl, rfl, lk, hcd⟩ := F.ex
  refine fn_of lk hcd S (fun vs H Q E ⟨_, ds, h1, h2, _⟩ => (arA_len h1).trans (len ds h2)) fun A outer s H vs Q E hr hsp => ?_
  obtain ⟨tG, ds, h1, h2, q⟩ := hsp
  exact hbody c Pt A outer s H vs ds Q E TB hP hr tG h1 h2 q
end
end Dl
namespace Rh
open PySem PySem.Spec PyProof.Rows L2 GxR Gx Dl LiI LamX
theorem sc_told_law : FnScope ["what"] ["what"] (defScope s_told_law) := ⟨rfl, rfl, rfl, by decide +kernel, rfl, by decide +kernel, by decide +kernel⟩
/-- what _law_told makes of a BadTerm -/
def TTterm (C : Addr) : (XK → Hp → VK → Prop) → Hp → VK → Prop := fun tl H Q => tl (fun cls _ H' => cls = .ref C ∧ Q (.str (Str.ofString "term")) H') H Q
theorem told_term {X : Cx} {q : Str} {g CT CB CN CL : Addr} {cdg : Value} (mT : X.mg "BadTerm" = some (.ref CT)) (mB : X.mg "BadRule" = some (.ref CB)) (mN : X.mg "NoWay" = some (.ref CN)) (mL : X.mg "TooLarge" = some (.ref CL))
    (e1 : PySem.W.exmOne X.K (.ref CT) (.ref CT) = some true) :
    GivesTo X ["what"] "_law_told" (defScope s_told_law) g cdg (defBody s_told_law) "what" q (TTterm CT) := by
  intro f c' s H Q tl act hc h
  refine ⟨_, pss_one (ps_try_many (X := (cxOf C8.CX0 X.prog X.w X.K X.mg X.base ["what"] "_law_told" (defScope s_told_law) g cdg X.A X.stack s H C8.E0).nox)
      (tb := fun W D σ H => ∃ Ech : XK, (∀ cls d σ' H', Ech cls d H' → W cls d σ' H') ∧ σ[0]? = some (some (.ref f)) ∧ H c' = some (CodeO c' q) ∧ tl Ech H D.rt)
      rfl rfl LamX.takes0 (fun W pn xe tk _ => ⟨fun pins s' σ H' D I ⟨Ech, hW, h1, h2, h3⟩ => (pss_one (ps_ret (act W pn xe Ech _ _ tk hW))).run pins s' σ H' D I ⟨h1, h2, h3⟩⟩)
      (.cons ⟨rfl, by decide, .inl mT⟩ (fun a oe cls d pn _ _ => pss_one (ps_ret pe_str)) (.cons ⟨rfl, by decide, .inl mB⟩ (fun a oe cls d pn _ _ => pss_one (ps_ret pe_str))
        (.cons ⟨rfl, by decide, .inl mN⟩ (fun a oe cls d pn _ _ => pss_one (ps_ret pe_str)) (.cons ⟨rfl, by decide, .inl mL⟩ (fun a oe cls d pn _ _ => pss_one (ps_ret pe_str)) .nil))))), ?_⟩
  refine ⟨fun cls _ H' => cls = .ref CT ∧ Q (.str (Str.ofString "term")) H', fun cls d σ' H' ⟨ec, hq⟩ => ?_, rfl, hc, h⟩
  subst ec
  exact ⟨true, e1, (fun _ a _ => hq), (fun z => Bool.noConfusion z)⟩
def R_chkE (n : Nat) : List Ar → Prop := fun as => ∃ e, as = [.d e] ∧ okDn n e = true ∧ isTn n e = false
def R_atE : List Ar → Prop := fun as => ∃ t : T, as = [.d (enc t), .d (encP [9])] ∧ t.ok
section
variable {P : Program} {w : World} {K : PySem.W.Frag} {mg : Str → Option Value} {base : Heap} {G : List Addr} {f : Addr} {fd : FuncData} {CB : Addr}
end
end Rh
set_option Elab.async false
set_option linter.all false
set_option maxRecDepth 100000
set_option maxHeartbeats 1000000
/-! class Sum: its objects, __init__ -/
namespace Rh
open PySem PySem.Spec PyProof.Rows L2 L2.DX GxR Gx Dl LiI LamX
def toV (r : Row) : Ks × V := (r.1, .int r.2)
def rowD (r : Row) : PyData := .tuple [ksD r.1, .int r.2]
def RowsAt (H : Hp) (ts : List Addr) (rows : List Row) : Prop := Paired (PairT H) ts (rows.map toV)
def SumAt (C : Addr) (H : Hp) (p : Addr) (rows : List Row) : Prop := ∃ dx fs a o ts, H p = some (.ins C dx fs) ∧ fs.lookup ("rows" : Str) = some (.ref a) ∧ H a = some (.frz o (.tup (ts.map V.ref))) ∧ TupO o ∧ RowsAt H ts rows
def TupK (H H' : Hp) : Prop := ∀ a xs, H a = some (.tup xs) → H' a = some (.tup xs)
section
variable {G : List Addr} {H H' : Hp} {C p : Addr} {rows : List Row} {ts : List Addr}
theorem TupK.of (t : TabsG G H) (x : Ext G H H') : TupK H H' := fun a xs e => x.at t e fun ps z => by cases z
theorem TupK.upd {D : Addr} {o : HO} (h : ∀ xs, H D ≠ some (.tup xs)) : TupK H (upd H D o) := fun a xs e => by
  rw [upd_ne fun z => h xs (by rw [← z]; exact e)]
  exact e
theorem TupK.trans {H2 : Hp} (a : TupK H H') (b : TupK H' H2) : TupK H H2 := fun c xs e => b c xs (a c xs e)
theorem pairT_mono (k : TupK H H') {t : Addr} {q : Ks × V} (h : PairT H t q) : PairT H' t q := let ⟨b, h1, h2⟩ := h; ⟨b, k _ _ h1, k _ _ h2⟩
theorem RowsAt.mono (k : TupK H H') (h : RowsAt H ts rows) : RowsAt H' ts rows := Paired.mapP h fun _ _ z => pairT_mono k z
theorem RowsAt.len (h : RowsAt H ts rows) : ts.length = rows.length := by
  have := Paired.length h
  rwa [List.length_map] at this
theorem SumAt.ext (s : SumAt C H p rows) (t : TabsG G H) (x : Ext G H H') : SumAt C H' p rows := by
  obtain ⟨dx, fs, a, o, ts, h1, h2, h3, h4, h5⟩ := s
  exact ⟨dx, fs, a, o, ts, x.at t h1 (fun ps z => by cases z), h2, x.at t h3 (fun ps z => by cases z), h4, h5.mono (.of t x)⟩
theorem RowsAt.get {i : Nat} {t : Addr} (h : RowsAt H ts rows) (e : ts[i]? = some t) : ∃ r, rows[i]? = some r ∧ PairT H t (toV r) := by
  obtain ⟨q, h1, h2⟩ := LiI.paired_get h e
  rw [List.getElem?_map] at h1
  obtain ⟨r, hr, rfl⟩ := Option.map_eq_some_iff.mp h1
  exact ⟨r, hr, h2⟩
theorem RowsAt.snoc (h : RowsAt H ts rows) {t : Addr} {r : Row} (ht : PairT H t (toV r)) : RowsAt H (ts ++ [t]) (rows ++ [r]) := by
  unfold RowsAt
  rw [List.map_append]
  have : ∀ {ts : List Addr} {ps : List (Ks × V)}, Paired (PairT H) ts ps → Paired (PairT H) (ts ++ [t]) (ps ++ [toV r]) := fun h => by
    induction h with
    | nil => exact .cons ht .nil
    | cons a b ih => exact .cons a ih
  exact this h
def RowR (H : Hp) (v : V) (d : PyData) : Prop := ∃ t r, v = .ref t ∧ d = rowD r ∧ PairT H t (toV r)
theorem RowsAt.rel : ∀ {ts : List Addr} {rows : List Row}, RowsAt H ts rows → Paired (RowR H) (ts.map V.ref) (rows.map rowD)
  | _, [], .nil => .nil
  | _, r :: rs, .cons h t => .cons ⟨_, r, rfl, rfl, h⟩ (RowsAt.rel (rows := rs) t)
theorem rowD_inj {r r' : Row} (h : rowD r = rowD r') : r = r' := by
  obtain ⟨k, n⟩ := r
  obtain ⟨k', n'⟩ := r'
  unfold rowD at h
  injection h with h
  injection h with h1 h2
  injection h2 with h2 _
  injection h2 with h2
  have h1 : ksD k = ksD k' := h1
  have h2 : n = n' := h2
  rw [ksD_inj h1, h2]
theorem rel_rows : ∀ {ys : List V} {rows : List Row}, Paired (RowR H) ys (rows.map rowD) → ∃ ts : List Addr, ys = ts.map V.ref ∧ RowsAt H ts rows
  | _, [], .nil => ⟨[], rfl, .nil⟩
  | _, r :: rs, .cons h t => by
    obtain ⟨ts, e, h2⟩ := rel_rows (rows := rs) t
    obtain ⟨u, r', e1, e2, hp⟩ := h
    have := rowD_inj e2
    subst this
    exact ⟨u :: ts, by rw [e1, e]; rfl, .cons hp h2⟩
theorem RowsAt.dp {K : PySem.W.Frag} : ∀ {ts : List Addr} {rows : List Row}, RowsAt H ts rows → DpAll K H (ts.map V.ref) (rows.map rowD)
  | _, [], .nil => .nil
  | _, r :: rs, .cons ⟨b, h1, h2⟩ t => .cons (.tup (.inl (.inl h1)) (.cons (dp_ksD h2) (.cons (.int _) .nil))) (RowsAt.dp (rows := rs) t)
def srtR (rows : List Row) : List Row := rows.mergeSort fun a b => PySem.W.dataLe false (fun d => d) (rowD a) (rowD b)
theorem srtR_D (rows : List Row) : sortD (rows.map rowD) = (srtR rows).map rowD := (PySem.W.sort_maps rowD fun a _ b _ => rfl).symm
theorem srtR_perm (rows : List Row) : (srtR rows).Perm rows := List.mergeSort_perm _ _
theorem kDa_depth : ∀ k : Ks, PyData.depthAll (k.map kDa) = 0
  | [] => rfl
  | .inl i :: k => by rw [List.map_cons, PyData.depthAll, kDa_depth k]; rfl
  | .inr x :: k => by rw [List.map_cons, PyData.depthAll, kDa_depth k]; rfl
theorem row_depth (r : Row) : (rowD r).depth ≤ 60 := by
  have : (rowD r).depth = 2 := by
    simp [rowD, ksD, PyData.depth, PyData.depthAll, kDa_depth]
  omega
/-- all names are texts -/
def Txts (rows : List Row) : Prop := ∀ r ∈ rows, ∀ x ∈ r.1, ∃ z : Str, x = .inr z
theorem alike_txt : ∀ {k k' : Ks}, (∀ x ∈ k, ∃ z : Str, x = .inr z) → (∀ x ∈ k', ∃ z : Str, x = .inr z) → PySem.W.alikeAll (k.map kDa) (k'.map kDa) = true
  | [], [], _, _ => rfl
  | [], _ :: _, _, _ => rfl
  | _ :: _, [], _, _ => rfl
  | x :: k, y :: k', h, h' => by
    obtain ⟨z, rfl⟩ := h x List.mem_cons_self
    obtain ⟨z', rfl⟩ := h' y List.mem_cons_self
    have ih := alike_txt (fun x hx => h x (List.mem_cons_of_mem _ hx)) (fun x hx => h' x (List.mem_cons_of_mem _ hx))
    rw [List.map_cons, List.map_cons, PySem.W.alikeAll, ih]
    rfl
theorem rows_alike {rows : List Row} (h : Txts rows) : PySem.W.AllAlike (rows.map rowD) := by
  intro d hd d' hd'
  obtain ⟨r, hr, rfl⟩ := List.mem_map.mp hd
  obtain ⟨r', hr', rfl⟩ := List.mem_map.mp hd'
  have := alike_txt (h r hr) (h r' hr')
  show PySem.W.alikeAll [ksD r.1, .int r.2] [ksD r'.1, .int r'.2] = true
  rw [PySem.W.alikeAll, show PySem.W.alike (ksD r.1) (ksD r'.1) = PySem.W.alikeAll (r.1.map kDa) (r'.1.map kDa) from rfl, this]
  rfl
theorem rows_sortable (rows : List Row) : PySem.W.Sortable (rows.map rowD) := .inl fun d hd => by
  obtain ⟨r, hr, rfl⟩ := List.mem_map.mp hd
  exact ⟨_, _, rfl⟩
end
def sumM (i : Nat) : Stmt := match topS 10 with
  | .ClassDef _ _ _ body _ _ _ _ _ _ _ => body.getD i (.Pass ⟨0, 0, 0, 0⟩)
  | _ => .Pass ⟨0, 0, 0, 0⟩
theorem sc_sinit : FnScope ["self", "rows", "names", "number"] ["self", "rows"] (defScope (sumM 0)) := ⟨rfl, rfl, rfl, by decide +kernel, rfl, by decide +kernel, by decide +kernel⟩
abbrev nzR (rows : List Row) : List Row := rows.filter fun r => !decide (r.2 = 0)
/-- the class -/
structure SumC (K : PySem.W.Frag) (C : Addr) : Prop where
  cl : Cls K C
  n1 : NoAttr K C "rows"
def spSI (G : List Addr) (K : PySem.W.Frag) (C : Addr) : Sp := fun vs H Q _ => ∃ (x l dx : Addr) (ts : List Addr) (rows : List Row), vs = [.ref x, .ref l] ∧ H x = some (.ins C dx []) ∧ TabsG G H ∧ H l = some (.lst (ts.map V.ref)) ∧ RowsAt H ts rows ∧ rows.length ≤ 1000 ∧ Txts rows ∧
  ∀ H', (∀ b o, b ≠ x → b ∉ G → H b = some o → H' b = some o) → TabsG G H' → SumAt C H' x (srtR (nzR rows)) → Q .non H'
theorem tabs_insS {G : List Addr} {H : Hp} {x C dx : Addr} {fs : List (Str × V)} {o : HO} (t : TabsG G H) (e : H x = some (.ins C dx fs)) : TabsG G (upd H x o) := fun Q hQ => by
  obtain ⟨ps, h, tr⟩ := t Q hQ
  exact ⟨ps, by rw [upd_ne fun z => by rw [z, e] at h; cases h]; exact h, tr⟩
section
variable {P : Program} {w : World} {K : PySem.W.Frag} {mg : Str → Option Value} {base : Heap} {G : List Addr} {f c C : Addr} {fd : FuncData}
theorem fx_sinit (F : FunC K "__init__" "Sum.__init__" (sumM 0) f fd c) (T : SumC K C) (m1 : mg "tuple" = none) (m2 : mg "sorted" = none) : FnOk P w K mg base CX0 2 f fd ["self", "rows"] (spSI G K C) := by
  obtain ⟨oc, od, kV', doc, pm, an, ct, osl, rfl, lk, hcd⟩ := F.ex
  refine fn_of (k := 1) lk hcd sc_sinit (fun vs H Q E ⟨_, _, _, _, _, h, _⟩ => by rw [h]; rfl) fun A outer s H vs Q E hr hsp => ?_
  obtain ⟨x, l, dx, ts, rows, rfl, ex, tG, el, hrows, hlen, htx, q⟩ := hsp
  refine ⟨_, PSs.nox (pss_one (ps_fld (pv 0) (pe_callTy call_tupleF (by rfl) m1 (by decide +kernel) (pa_cons (pe_callB (cr_sortedR hr.units) (by rfl) m2 (by decide +kernel) (pa_cons
      (pe_lc (own := [("names", 2), ("number", 3)]) (g := gTup K 2 (gCons (gName 2) (gCons (gName 3) gNil))) (tt := tTest (tOp rNe (tVar 3) (tC (.int 0)))) rfl sc_sinit.nd (pi_list (pv 1)) (blkOk_by (N := ["self", "rows", "names", "number"]) (sc := defScope (sumM 0)) (by decide +kernel))
        (fun _ _ _ _ _ => pg_tup rfl (pgs_cons (pg_name (i := 2) sc_sinit.nd rfl (Or.inl rfl)) (pgs_cons (pg_name (i := 3) sc_sinit.nd rfl (Or.inl rfl)) pgs_nil))) (fun _ _ _ _ _ => pts_one (pt_cmpR op_ne (pv 3) pe_int (nomark _))) (fun _ _ _ _ _ => pe_tup (pa_cons (pv 2) (pa_cons (pv 3) pa_nil)))) pa_nil)) pa_nil)) (by rfl))), ?_⟩
  refine ⟨.ref l, rfl, l, rfl, ⟨_, SqL.of el⟩, fun D hD => ?_⟩
  refine lc_list (K := K) (a := l) (xs := ts.map V.ref) (fun i Hk => Ext G H Hk ∧ ∃ ts' : List Addr, Hk D = some (.lst (ts'.map V.ref)) ∧ RowsAt Hk ts' (nzR (rows.take i)) ∧ ts'.length ≤ i) ⟨Ext.new hD, [], upd_same, .nil, Nat.le_refl _⟩ (fun i Hk _ y => SqL.of (y.1.at tG el (fun ps z => by cases z))) (fun i v Hk hv y => ?_) (fun Hk y => ?_)
  · obtain ⟨y1, ts', e1, r1, l1⟩ := y
    have tk := tG.ext y1
    rw [List.getElem?_map] at hv
    obtain ⟨t, ht, rfl⟩ := Option.map_eq_some_iff.mp hv
    obtain ⟨r, er, hp⟩ := hrows.get ht
    have hi := (List.getElem?_eq_some_iff.mp ht).1
    obtain ⟨b, b1, b2⟩ := pairT_mono (.of tG y1) hp
    refine ⟨t, [.ref b, .int r.2], rfl, .inl (.inl b1), rfl, .ref b, [.int r.2], rfl, .int r.2, [], rfl, rfl, ?_⟩
    refine ⟨rfl, ?_⟩
    show tTest (tOp rNe (tVar 3) (tC (.int 0))) [some (.ref x), some (.ref l), some (.ref b), some (.int r.2)] Hk _
    refine edt_test (K := K) (ed_op (G := G) tk (ed_var (i := 3) tk rfl (.int r.2)) ed_int rd_neI) Hk (Ext.refl G Hk) _ fun H2 y2 => ?_
    have yy := y1.trans y2
    have et : nzR (rows.take (i + 1)) = nzR (rows.take i) ++ (if r.2 = 0 then [] else [r]) := by
      unfold nzR
      rw [take_snoc er, List.filter_append]
      congr 1
      by_cases h : r.2 = 0
      · rw [if_pos h]; simp [h]
      · rw [if_neg h]; simp [h]
    by_cases h0 : r.2 = 0
    · rw [show (!decide (r.2 = 0)) = false by simp [h0], if_neg Bool.false_ne_true]
      refine ⟨yy, ts', y2.at tk e1 (fun ps z => by cases z), ?_, by omega⟩
      rw [et, if_pos h0, List.append_nil]
      exact r1.mono (.of tk y2)
    · rw [show (!decide (r.2 = 0)) = true by simp [h0], if_pos rfl]
      refine ⟨.ref b, rfl, .int r.2, rfl, by show 2 ≤ sizeLine; decide, fun p hp => ?_⟩
      have t2 := tk.ext y2
      have y3 : Ext G H2 (upd H2 p (.tup [.ref b, .int r.2])) := Ext.new hp
      have e3 := y3.at t2 (y2.at tk e1 (fun ps z => by cases z)) (fun ps z => by cases z)
      have k3 : TupK Hk (upd H2 p (.tup [.ref b, .int r.2])) := TupK.of tk (y2.trans y3)
      have k4 : TupK (upd H2 p (.tup [.ref b, .int r.2])) (upd (upd H2 p (.tup [.ref b, .int r.2])) D (.lst (ts'.map V.ref ++ [.ref p]))) := TupK.upd fun xs z => by rw [e3] at z; cases z
      refine ⟨ts'.map V.ref, e3, by rw [List.length_map]; exact Nat.lt_of_lt_of_le (show ts'.length < 2000 by have := hrows.len; omega) (by decide), (yy.trans y3).mut hD e3 (fun ps z => by cases z), ts' ++ [p], by rw [upd_same, List.map_append]; rfl, ?_, by rw [List.length_append]; simp; omega⟩
      rw [et, if_neg h0]
      exact ((r1.mono k3).mono k4).snoc ⟨b, k4 _ _ upd_same, k4 _ _ (k3 _ _ b2)⟩
  · obtain ⟨y1, ts', e1, r1, l1⟩ := y
    rw [List.length_map, hrows.len, List.take_length] at r1
    have tk := tG.ext y1
    have hnz : Txts (nzR rows) := fun r hr => htx r (List.mem_filter.mp hr).1
    refine ⟨D, _, _, rfl, SqL.of e1, r1.dp, rows_alike hnz, rows_sortable _, fun d hd => by
      obtain ⟨r, _, rfl⟩ := List.mem_map.mp hd
      exact row_depth r, fun ys p hperm hp => ?_⟩
    have hp2 := hperm _ r1.rel
    rw [srtR_D] at hp2
    obtain ⟨ts2, rfl, r2⟩ := rel_rows hp2
    have y2 : Ext G Hk (upd Hk p (.lst (ts2.map V.ref))) := Ext.new hp
    refine ⟨p, _, rfl, SqL.of upd_same, fun l2 o ho hl2 => ?_⟩
    have t2 := tk.ext y2
    have y3 : Ext G (upd Hk p (.lst (ts2.map V.ref))) (upd (upd Hk p (.lst (ts2.map V.ref))) l2 (.frz o (.tup (ts2.map V.ref)))) := Ext.new hl2
    have yy := (y1.trans y2).trans y3
    have e3 : upd (upd Hk p (.lst (ts2.map V.ref))) l2 (.frz o (.tup (ts2.map V.ref))) l2 = some (.frz o (.tup (ts2.map V.ref))) := upd_same
    have r3 := r2.mono (TupK.of tk (y2.trans y3))
    generalize upd (upd Hk p (.lst (ts2.map V.ref))) l2 (.frz o (.tup (ts2.map V.ref))) = H4 at yy e3 r3 ⊢
    have t4 := tG.ext yy
    have ex4 := yy.at tG ex (fun ps z => by cases z)
    refine ⟨.ref x, rfl, x, C, dx, [], rfl, ex4, T.cl, T.n1, by show 0 < 1000; decide, ?_⟩
    have nx : l2 ≠ x := fun z => by rw [z, ex4] at e3; cases e3
    refine q _ (fun b o hb hG e => ?_) (tabs_insS t4 ex4) ⟨dx, _, l2, o, ts2, upd_same, rfl, by rw [upd_ne nx]; exact e3, ho, r3.mono (TupK.upd fun xs z => by rw [ex4] at z; cases z)⟩
    rw [upd_ne hb]
    exact yy.keep b hG o e
end
end Rh
set_option Elab.async false
set_option linter.all false
set_option maxRecDepth 100000
set_option maxHeartbeats 1000000
/-! add and times -/
namespace Rh
open PySem PySem.Spec PyProof.Rows L2 L2.DX GxR Gx Dl LiI LamX
structure Ok (rows : List Row) : Prop where
  g : Good rows
  t : Txts rows
theorem coef_srt (rows : List Row) (k : Ks) : coef (srtR (nzR rows)) k = coef rows k := by rw [coef_perm (srtR_perm _), coef_filter]
theorem keys_srt {rows : List Row} {k : Ks} (h : k ∈ keysR (srtR (nzR rows))) : k ∈ keysR rows := by
  obtain ⟨r, hr, rfl⟩ := List.mem_map.mp h
  have := (srtR_perm _).mem_iff.mp hr
  exact List.mem_map_of_mem (f := (·.1)) (List.mem_filter.mp this).1
theorem ok_srt {rows : List Row} (nd : (keysR rows).Nodup) (t : Txts rows) : Ok (srtR (nzR rows)) := by
  refine ⟨⟨?_, fun r hr => ?_⟩, fun r hr => ?_⟩
  · have p : (keysR (srtR (nzR rows))).Perm (keysR (nzR rows)) := (srtR_perm _).map _
    exact p.symm.nodup (nd.sublist (List.filter_sublist.map _))
  · have := (List.mem_filter.mp ((srtR_perm _).mem_iff.mp hr)).2
    simpa using this
  · exact t r (List.mem_filter.mp ((srtR_perm _).mem_iff.mp hr)).1
theorem nd_len {α : Type} : ∀ {l m : List α}, l.Nodup → (∀ x ∈ l, x ∈ m) → l.length ≤ m.length
  | [], _, _, _ => Nat.zero_le _
  | x :: l, m, nd, h => by
    have nd' := List.nodup_cons.mp nd
    obtain ⟨a, b, rfl⟩ := List.append_of_mem (h x List.mem_cons_self)
    have ih := nd_len (l := l) (m := a ++ b) nd'.2 fun y hy => by
      have := h y (List.mem_cons_of_mem _ hy)
      rcases List.mem_append.mp this with z | z
      · exact List.mem_append_left _ z
      · rcases List.mem_cons.mp z with z | z
        · exact absurd (z ▸ hy) nd'.1
        · exact List.mem_append_right _ z
    rw [List.length_append, List.length_cons]
    rw [List.length_append] at ih
    rw [List.length_cons]
    omega
/-! dicts of rows -/
theorem putK_toV (rows : List Row) (k : Ks) (n : Int) : putK (rows.map toV) k (.int n) = (putR rows k n).map toV := by
  have e : ((rows.map toV).any fun kv => decide (kv.1 = k)) = rows.any fun r => decide (r.1 = k) := by
    rw [List.any_map]
    rfl
  unfold putK putR
  rw [e]
  by_cases c : (rows.any fun r => decide (r.1 = k)) = true
  · rw [if_pos c, if_pos c, List.map_map, List.map_map]
    refine List.map_congr_left fun r _ => ?_
    show (if r.1 = k then (r.1, V.int n) else (r.1, V.int r.2)) = toV (if r.1 = k then (r.1, n) else r)
    split <;> rfl
  · rw [if_neg c, if_neg c, List.map_append]
    rfl
theorem valV_toV {rows : List Row} (nd : (keysR rows).Nodup) (k : Ks) : (valV (rows.map toV) k).getD (.int 0) = .int (coef rows k) := by
  induction rows with
  | nil => rfl
  | cons r rs ih =>
    have nd' := List.nodup_cons.mp (show (r.1 :: keysR rs).Nodup from nd)
    rw [List.map_cons, coef_cons]
    by_cases h : r.1 = k
    · rw [valV_pos (p := toV r) h, if_pos h, coef_none (by rw [← h]; exact nd'.1)]
      show V.int r.2 = _
      rw [Int.add_zero]
    · rw [valV_neg (p := toV r) h, if_neg h, ih nd'.2, Int.zero_add]
/-- d.get(k, 0), d of rows -/
theorem dget0 {H : Hp} {D b : Addr} {rows : List Row} {k : Ks} (nd : (keysR rows).Nodup) (e : Rd H D (.dT (rows.map toV))) (eb : H b = some (.tup (k.map kV))) : ∃ o, DGet H D (.ref b) o ∧ o.getD (.int 0) = .int (coef rows k) :=
  ⟨_, .inr ⟨_, k, b, e, rfl, eb, rfl⟩, valV_toV nd k⟩
theorem dput0 {H : Hp} {D b : Addr} {rows : List Row} {k : Ks} {n : Int} (e : H D = some (.dT (rows.map toV))) (eb : H b = some (.tup (k.map kV))) (hl : rows.length < 1000) : DPut H D (.ref b) (.int n) (upd H D (.dT ((putR rows k n).map toV))) := by
  rw [← putK_toV]
  exact DPut.t e eb (by rw [List.length_map]; exact Nat.lt_of_lt_of_le hl (by decide))
theorem units2 {k : Nat} {A : Around} (r : Room k A) : A.units + 2 < cLine := by have := r.un; omega
theorem s_for {K : PySem.W.Frag} {te : TE} {g : TG} {tb : TS} {D : Ends} {σ : L2.St} {H : Hp} (h : te σ H fun v H1 => ∃ a, v = .ref a ∧ (∃ xs, SqT K H1 a xs) ∧ ∃ W : Nat → Nat → L2.St → Hp → Prop, (∃ m, W 0 m σ H1) ∧ ∀ i m σ H, W i m σ H →
    ((Itt K a).stop i H ∧ D.nx σ H) ∨ ((Itt K a).go i H ∧ ∃ N : L2.St → Hp → Prop, (∀ σ' H', N σ' H' → ∃ m', m' < m ∧ W (i + 1) m' σ' H') ∧ ∀ x H', (Itt K a).yld i H x H' → g x σ H' fun σ2 H2 => tb { D with nx := N, ct := N, bk := D.nx } σ2 H2)) : tFor (iTup K te) g tb D σ H := h
section
variable {P : Program} {w : World} {K : PySem.W.Frag} {mg : Str → Option Value} {base : Heap} {G : List Addr} {f c C fi : Addr} {fd fdi : FuncData}
/-- Sum(e), e evaluated -/
theorem mk_core {H1 : Hp} {l : Addr} {ts : List Addr} {rows : List Row} {E : XK} {Q : VK} (t1 : TabsG G H1) (el : H1 l = some (.lst (ts.map V.ref))) (hr : RowsAt H1 ts rows) (hl : rows.length ≤ 1000) (ht : Txts rows) (q : ∀ p H2, Ext G H1 H2 → SumAt C H2 p (srtR (nzR rows)) → Q (.ref p) H2) :
    ∀ x dx, H1 x = none → H1 dx = none → dx ≠ x → spSI G K C (.ref x :: ([.ref l] ++ [])) (upd (upd H1 dx (.own x)) x (.ins C dx [])) (fun v H2 => v = .non ∧ Q (.ref x) H2) E := by
  intro x dx hx hdx ne
  have y2 : Ext G H1 (upd H1 dx (.own x)) := Ext.new hdx
  have hx2 : upd H1 dx (.own x) x = none := by rw [upd_ne fun z => ne z.symm]; exact hx
  have y3 : Ext G (upd H1 dx (.own x)) (upd (upd H1 dx (.own x)) x (.ins C dx [])) := Ext.new hx2
  have yy := y2.trans y3
  refine ⟨x, l, dx, ts, rows, rfl, upd_same, t1.ext yy, yy.at t1 el (fun ps z => by cases z), hr.mono (.of t1 yy), hl, ht, fun H' kp t' s => ⟨rfl, q x H' ⟨fun a na o e => ?_, fun P hP _ => t' P hP⟩ s⟩⟩
  exact kp a o (fun z => by rw [z, hx] at e; cases e) na (yy.keep a na o e)
def spAdd (G : List Addr) (C : Addr) : Sp := fun vs H Q _ => TabsG G H ∧ ∃ (p q : Addr) (r1 r2 : List Row), vs = [.ref p, .ref q] ∧ SumAt C H p r1 ∧ SumAt C H q r2 ∧ Ok r1 ∧ Ok r2 ∧ r1.length ≤ 100 ∧ r2.length ≤ 100 ∧
  ∀ z rows H', Ext G H H' → SumAt C H' z rows → Ok rows → (∀ k, coef rows k = coef r1 k + coef r2 k) → (∀ k ∈ keysR rows, k ∈ keysR r1 ∨ k ∈ keysR r2) → Q (.ref z) H'
abbrev NA : List Str := ["one", "other", "table", "names", "number"]
theorem sc_add : FnScope NA ["one", "other"] (defScope s_add) := ⟨rfl, rfl, rfl, by decide +kernel, rfl, by decide +kernel, by decide +kernel⟩
theorem sumAt_fld {σ : L2.St} {H : Hp} {i : Nat} {p : Addr} {r : List Row} {Q : VK} (T : SumC K C) (h : σ[i]? = some (some (.ref p))) (s : SumAt C H p r) (q : ∀ (a : Addr) (o : Obj) (ts : List Addr), H a = some (.frz o (.tup (ts.map V.ref))) → TupO o → RowsAt H ts r → Q (.ref a) H) : tFld K (tVar i) "rows" σ H Q := by
  obtain ⟨dx, fs, a, o, ts, h1, h2, h3, h4, h5⟩ := s
  exact ⟨.ref p, h, p, C, dx, fs, .ref a, rfl, h1, T.cl, T.n1, h2, q a o ts h3 h4 h5⟩
theorem txts_put {rows : List Row} {k : Ks} {n : Int} (t : Txts rows) (hk : ∀ x ∈ k, ∃ z : Str, x = .inr z) : Txts (putR rows k n) := fun r hr x hx => by
  have hk' : r.1 ∈ keysR (putR rows k n) := List.mem_map_of_mem (f := (·.1)) hr
  rcases putR_mem hk' with z | z
  · obtain ⟨r', h1, h2⟩ := List.mem_map.mp z
    exact t r' h1 x (by rw [h2]; exact hx)
  · exact hk x (by rw [← z]; exact hx)
/-- Sum(list(D.items())) -/
theorem run_end {σ : L2.St} {H : Hp} {i : Nat} {D : Addr} {acc : List Row} {E : XK} {Q : VK} (t : TabsG G H) (h : σ[i]? = some (some (.ref D))) (e : H D = some (.dT (acc.map toV))) (hl : acc.length ≤ 1000) (ht : Txts acc) (q : ∀ p H2, Ext G H H2 → SumAt C H2 p (srtR (nzR acc)) → Q (.ref p) H2) :
    tMake C (spSI G K C) [] E (tCons (tCB rListItT (tCons (tBM0 K "dict" rItemsT (tVar i)) tNil)) tNil) σ H Q := by
  refine ⟨.ref D, h, .inr (.inr (.inl ⟨rfl, .inr ⟨_, e⟩⟩)), D, _, rfl, rfl, e, fun p hp => ?_⟩
  have y1 : Ext G H (upd H p (itemsO p D)) := Ext.new hp
  have e1 := y1.at t e (fun ps z => by cases z)
  refine ⟨p, D, acc.map toV, rfl, upd_same, e1, fun H' l ts kp hl' el hpr => ?_⟩
  have y2 : Ext G (upd H p (itemsO p D)) H' := ⟨fun a _ o e => kp a o e, fun P _ ⟨ps, e, tr⟩ => ⟨ps, kp _ _ e, tr⟩⟩
  exact mk_core (t.ext (y1.trans y2)) el hpr (by omega) ht fun z H2 y3 s => q z H2 ((y1.trans y2).trans y3) s
theorem cl_add (D : DefF K mg base G "add" s_add ["one", "other"] f fd) (T : SumC K C) (M : Mk K C fi) (I : FnOk P w K mg base CX0 2 fi fdi ["self", "rows"] (spSI G K C)) (mS : mg "Sum" = some (.ref C)) (b : Binds K fdi ["self", "rows"] []) (m1 : mg "dict" = none) (m2 : mg "list" = none) : Cl0 P w K mg base 4 "add" (spAdd G C) := by
  refine D.clS (k := 3) sc_add (fun vs H Q E h => by obtain ⟨_, _, _, _, _, rfl, _⟩ := h; rfl) fun c Pt A outer s H vs Q E TB hP hr h => ?_
  refine ⟨_, pss_cons (ps_set (i := 2) sc_add.nd rfl (Or.inl rfl) (pe_callTy (call_dictPT rfl (units2 hr)) (by rfl) m1 (by decide +kernel) (pa_cons (pe_fld (pv 0) rfl) pa_nil)))
    (pss_cons (ps_for PassesOwn.never rfl (pi_tup (pe_fld (pv 1) rfl)) (pg_tup rfl (pgs_cons (pg_name (i := 3) sc_add.nd rfl (Or.inl rfl)) (pgs_cons (pg_name (i := 4) sc_add.nd rfl (Or.inl rfl)) pgs_nil)))
      (pss_one (ps_dput (hu_of hr) (pv 2) (pv 3) (pe_op op_add (pe_dget2 (hu_of hr) (pv 2) (pv 3) pe_int ⟨rfl, rfl, rfl, rfl⟩) (pv 4)) (by rfl))))
    (pss_one (ps_ret (pe_make M I (hr.mono (by omega)) (by rfl) mS b .nil pass0 (pa_cons (pe_callTy (call_listItT rfl) (by rfl) m2 (by decide +kernel) (pa_cons (pe_bm0 PySem.F.plainAttrs_dict PySem.F.slot_dict_items PySem.F.type_dict_items mt_itemsT (pv 2)) pa_nil)) pa_nil))))), ?_⟩
  obtain ⟨tG, p, q, r1, r2, rfl, s1, s2, o1, o2, l1, l2, qq⟩ := h
  refine s_seq (sumAt_fld (K := K) T rfl s1 fun a oa ts ha hoa hra => ?_)
  refine ⟨a, oa, ts, r1.map toV, rfl, ha, hoa, hra, by rw [List.map_map]; exact o1.g.nd, fun Dd hD => ?_⟩
  have y1 : Ext G H (upd H Dd (.dT (r1.map toV))) := Ext.new hD
  have t1 := tG.ext y1
  have eD : upd H Dd (.dT (r1.map toV)) Dd = some (.dT (r1.map toV)) := upd_same
  have s2' := s2.ext tG y1
  generalize upd H Dd (.dT (r1.map toV)) = H1 at y1 t1 eD s2' ⊢
  dsimp only [gName]
  refine s_seq (s_for ?_)
  refine (sumAt_fld (K := K) (i := 1) T rfl s2' fun a2 oa2 ts2 ha2 hoa2 hra2 => ?_)
  have len2 := hra2.len
  refine ⟨a2, rfl, ⟨_, .inl (.inr ⟨_, ha2⟩)⟩, for_tup (K := K) (a := a2) (xs := ts2.map V.ref) (fun i σ' H' => ∃ acc o3 o4, σ' = [some (.ref p), some (.ref q), some (.ref Dd), o3, o4] ∧ H' Dd = some (.dT (acc.map toV)) ∧ Ext G H H' ∧ H' a2 = some (.frz oa2 (.tup (ts2.map V.ref))) ∧ RowsAt H' ts2 r2 ∧ (keysR acc).Nodup ∧ Txts acc ∧ (∀ k, coef acc k = coef r1 k + coef (r2.take i) k) ∧ (∀ k ∈ keysR acc, k ∈ keysR r1 ∨ k ∈ keysR r2) ∧ acc.length ≤ r1.length + i) ?_ (fun i σ' H' _ ⟨_, _, _, _, _, _, e, _⟩ => .inl (.inr ⟨_, e⟩)) (fun i v σ' H' hv hp => ?_) (fun σ' H' hp => ?_)⟩
  · exact ⟨r1, none, none, rfl, eD, y1, ha2, hra2, o1.g.nd, o1.t, fun k => by rw [List.take_zero, coef_nil, Int.add_zero], fun k hk => .inl hk, by omega⟩
  · obtain ⟨acc, o3, o4, rfl, eD', y', ha', hr', nd, tx, cf, ks, la⟩ := hp
    have t' := tG.ext y'
    rw [List.getElem?_map] at hv
    obtain ⟨t, ht, rfl⟩ := Option.map_eq_some_iff.mp hv
    obtain ⟨r, er, b, b1, b2⟩ := hr'.get ht
    have b1 : H' t = some (.tup [.ref b, .int r.2]) := b1
    have b2 : H' b = some (.tup (r.1.map kV)) := b2
    have hi := (List.getElem?_eq_some_iff.mp ht).1
    refine ⟨t, [.ref b, .int r.2], rfl, .inl (.inl b1), rfl, .ref b, [.int r.2], rfl, .int r.2, [], rfl, rfl, ?_⟩
    obtain ⟨o, hg, ho⟩ := dget0 nd (.inl eD') b2
    refine ⟨.ref Dd, rfl, Dd, rfl, .inr ⟨_, .inl eD'⟩, .ref b, rfl, o, hg, ?_⟩
    rw [ho]
    refine ⟨.int r.2, rfl, _, _, rfl, rfl, .ref Dd, rfl, .ref b, rfl, Dd, _, rfl, dput0 eD' b2 (by omega), ?_⟩
    have kT : TupK H' (upd H' Dd (.dT ((putR acc r.1 (coef acc r.1 + r.2)).map toV))) := TupK.upd fun xs z => by rw [eD'] at z; cases z
    have na : a2 ≠ Dd := fun z => by rw [z, eD'] at ha'; cases ha'
    have mr : r ∈ r2 := List.mem_of_getElem? er
    refine ⟨putR acc r.1 (coef acc r.1 + r.2), _, _, rfl, upd_same, y'.mut hD eD' (fun ps z => by cases z), by rw [upd_ne na]; exact ha', hr'.mono kT, putR_nd nd, txts_put tx (o2.t r mr), fun k => ?_, fun k hk => ?_, by have := putR_len acc r.1 (coef acc r.1 + r.2); omega⟩
    · rw [coef_putR nd, take_snoc er, coef_app, coef_cons, coef_nil]
      by_cases h : k = r.1
      · rw [if_pos h, if_pos h.symm, h, cf]
        omega
      · rw [if_neg h, if_neg fun z => h z.symm, cf]
        omega
    · rcases putR_mem hk with z | z
      · exact ks k z
      · exact .inr (by rw [z]; exact List.mem_map_of_mem (f := (·.1)) mr)
  · obtain ⟨acc, o3, o4, rfl, eD', y', ha', hr', nd, tx, cf, ks, la⟩ := hp
    rw [List.length_map] at cf la
    have hl2 : ts2.length ≤ 100 := by omega
    refine run_end (K := K) (G := G) (tG.ext y') rfl eD' (by omega) tx fun z H2 y2 sz => ?_
    refine qq z _ H2 (y'.trans y2) sz (ok_srt nd tx) (fun k => ?_) fun k hk => ks k (keys_srt hk)
    rw [coef_srt, cf, len2, List.take_length]
end
end Rh
set_option Elab.async false
set_option linter.all false
set_option maxRecDepth 100000
set_option maxHeartbeats 1000000
/-! times -/
namespace Rh
open PySem PySem.Spec PyProof.Rows L2 L2.DX GxR Gx Dl LiI LamX
def srtKs (k : Ks) : Ks := k.mergeSort fun a b => PySem.W.dataLe false (fun d => d) (kDa a) (kDa b)
theorem srtKs_D (k : Ks) : sortD (k.map kDa) = (srtKs k).map kDa := (PySem.W.sort_maps kDa fun a _ b _ => rfl).symm
theorem srtKs_perm (k : Ks) : (srtKs k).Perm k := List.mergeSort_perm _ _
theorem txt_strs : ∀ {k : Ks}, (∀ x ∈ k, ∃ z : Str, x = .inr z) → ∃ xs : List Str, k = xs.map Sum.inr
  | [], _ => ⟨[], rfl⟩
  | x :: k, h => by
    obtain ⟨z, rfl⟩ := h x List.mem_cons_self
    obtain ⟨xs, rfl⟩ := txt_strs (k := k) fun x hx => h x (List.mem_cons_of_mem _ hx)
    exact ⟨z :: xs, rfl⟩
theorem map_kV (xs : List Str) : (xs.map Sum.inr : Ks).map kV = xs.map V.str := by rw [List.map_map]; rfl
theorem map_kDa (xs : List Str) : (xs.map Sum.inr : Ks).map kDa = xs.map PyData.str := by rw [List.map_map]; rfl
theorem kDa_map_inj : ∀ {a b : Ks}, a.map kDa = b.map kDa → a = b
  | [], [], _ => rfl
  | [], _ :: _, h => by cases h
  | _ :: _, [], h => by cases h
  | x :: a, y :: b, h => by
    rw [List.map_cons, List.map_cons] at h
    injection h with h1 h2
    rw [kDa_map_inj h2]
    congr 1
    cases x <;> cases y <;> simp_all [kDa]
theorem txt_app {a b : Ks} (ha : ∀ x ∈ a, ∃ z : Str, x = .inr z) (hb : ∀ x ∈ b, ∃ z : Str, x = .inr z) : ∀ x ∈ a ++ b, ∃ z : Str, x = .inr z := fun x hx => by
  rcases List.mem_append.mp hx with h | h
  · exact ha x h
  · exact hb x h
theorem txt_srt {k : Ks} (h : ∀ x ∈ k, ∃ z : Str, x = .inr z) : ∀ x ∈ srtKs k, ∃ z : Str, x = .inr z := fun x hx => h x ((srtKs_perm k).mem_iff.mp hx)
def rowP (a b : Row) : Row := (srtKs (a.1 ++ b.1), a.2 * b.2)
theorem prod_snoc {r1 r2 : List Row} {i : Nat} {a : Row} (h : r1[i]? = some a) : prodR srtKs (r1.take (i + 1)) r2 = prodR srtKs (r1.take i) r2 ++ r2.map (rowP a) := by
  unfold prodR
  rw [take_snoc h, List.flatMap_append]
  simp [rowP]
theorem rowP_mem {r1 r2 : List Row} {a b : Row} (ha : a ∈ r1) (hb : b ∈ r2) : rowP a b ∈ prodR srtKs r1 r2 := List.mem_flatMap.mpr ⟨a, ha, List.mem_map.mpr ⟨b, hb, rfl⟩⟩
section
variable {P : Program} {w : World} {K : PySem.W.Frag} {mg : Str → Option Value} {base : Heap} {G : List Addr} {f c C fi : Addr} {fd fdi : FuncData}
def spTimes (G : List Addr) (C : Addr) : Sp := fun vs H Q _ => TabsG G H ∧ ∃ (p q : Addr) (r1 r2 : List Row), vs = [.ref p, .ref q] ∧ SumAt C H p r1 ∧ SumAt C H q r2 ∧ Ok r1 ∧ Ok r2 ∧ r1.length ≤ 20 ∧ r2.length ≤ 20 ∧ (∀ r ∈ r1, -(2 ^ 60) < r.2 ∧ r.2 < 2 ^ 60) ∧ (∀ r ∈ r1, r.1.length ≤ 1000) ∧ (∀ r ∈ r2, r.1.length ≤ 1000) ∧
  ∀ z rows H', Ext G H H' → SumAt C H' z rows → Ok rows → (∀ k, coef rows k = coef (prodR srtKs r1 r2) k) → (∀ k ∈ keysR rows, k ∈ keysR (prodR srtKs r1 r2)) → Q (.ref z) H'
abbrev NT : List Str := ["one", "other", "table", "names", "number", "more", "again", "key"]
theorem sc_times : FnScope NT ["one", "other"] (defScope s_times) := ⟨rfl, rfl, rfl, by decide +kernel, rfl, by decide +kernel, by decide +kernel⟩
/-- tuple(sorted(a + b)) -/
theorem run_key {σ : L2.St} {H : Hp} {i j : Nat} {b1 b2 : Addr} {k1 k2 : Ks} {Q : VK} (t : TabsG G H) (h1 : σ[i]? = some (some (.ref b1))) (h2 : σ[j]? = some (some (.ref b2))) (e1 : H b1 = some (.tup (k1.map kV))) (e2 : H b2 = some (.tup (k2.map kV))) (t1 : ∀ x ∈ k1, ∃ z : Str, x = .inr z) (t2 : ∀ x ∈ k2, ∃ z : Str, x = .inr z) (l1 : k1.length ≤ 1000) (l2 : k2.length ≤ 1000)
    (q : ∀ z H', Ext G H H' → H' z = some (.tup ((srtKs (k1 ++ k2)).map kV)) → Q (.ref z) H') :
    tCB (fun xs H Q => ∃ p ys, xs = [.ref p] ∧ ((SqL K H p ys ∧ ∀ l, H l = none → Q (.ref l) (upd H l (.tup ys))) ∨ (SqT K H p ys ∧ Q (.ref p) H))) (tCons (tCB (rSortedTS K) (tCons (tOp (rCatA K) (tVar i) (tVar j)) tNil)) tNil) σ H Q := by
  have fin : ∀ (r : Addr) (H1 : Hp), Ext G H H1 → H1 r = some (.tup ((k1 ++ k2).map kV)) → rSortedTS K [.ref r] H1 (fun v H2 => ∃ p ys, [v] = [.ref p] ∧ ((SqL K H2 p ys ∧ ∀ l, H2 l = none → Q (.ref l) (upd H2 l (.tup ys))) ∨ (SqT K H2 p ys ∧ Q (.ref p) H2))) := fun r H1 y e => by
    obtain ⟨xs, hx⟩ := txt_strs (txt_app t1 t2)
    rw [hx, map_kV] at e
    refine ⟨r, xs, rfl, .inl (.inl e), fun ys p hys hp => ⟨p, _, rfl, .inl ⟨SqL.of upd_same, fun l hl => ?_⟩⟩⟩
    have ek : (ys.map Sum.inr : Ks) = srtKs (k1 ++ k2) := kDa_map_inj (by rw [map_kDa, hys, ← srtKs_D, hx, map_kDa])
    refine q l _ ((y.trans (Ext.new hp)).trans (Ext.new hl)) ?_
    rw [upd_same, ← ek, map_kV]
  have kl : ∀ k : Ks, (k.map kV).length = k.length := fun k => List.length_map _
  refine ⟨.ref b1, h1, .ref b2, h2, b1, b2, k1.map kV, k2.map kV, rfl, rfl, .inl (.inl e1), .inl (.inl e2), by rw [kl, kl]; exact Nat.le_trans (show k1.length + k2.length ≤ 2000 by omega) (by decide), fun h0 => ?_, fun h0 h0' => ?_, fun h0 h0' p hp => ?_⟩
  · refine fin b2 H (Ext.refl G H) ?_
    rw [List.map_append, h0]
    exact e2
  · refine fin b1 H (Ext.refl G H) ?_
    rw [List.map_append, h0', List.append_nil]
    exact e1
  · refine fin p _ (Ext.new hp) ?_
    rw [upd_same, List.map_append]
theorem cl_times (D : DefF K mg base G "times" s_times ["one", "other"] f fd) (T : SumC K C) (M : Mk K C fi) (I : FnOk P w K mg base CX0 2 fi fdi ["self", "rows"] (spSI G K C)) (mS : mg "Sum" = some (.ref C)) (b : Binds K fdi ["self", "rows"] []) (m1 : mg "tuple" = none) (m2 : mg "list" = none) (m3 : mg "sorted" = none) : Cl0 P w K mg base 4 "times" (spTimes G C) := by
  refine D.clS (k := 3) sc_times (fun vs H Q E h => by obtain ⟨_, _, _, _, _, rfl, _⟩ := h; rfl) fun c Pt A outer s H vs Q E TB hP hr h => ?_
  refine ⟨_, pss_cons (ps_set (i := 2) sc_times.nd rfl (Or.inl rfl) pe_dnewT)
    (pss_cons (ps_for PassesOwn.never rfl (pi_tup (pe_fld (pv 0) rfl)) (pg_tup rfl (pgs_cons (pg_name (i := 3) sc_times.nd rfl (Or.inl rfl)) (pgs_cons (pg_name (i := 4) sc_times.nd rfl (Or.inl rfl)) pgs_nil)))
      (pss_one (ps_for PassesOwn.never rfl (pi_tup (pe_fld (pv 1) rfl)) (pg_tup rfl (pgs_cons (pg_name (i := 5) sc_times.nd rfl (Or.inl rfl)) (pgs_cons (pg_name (i := 6) sc_times.nd rfl (Or.inl rfl)) pgs_nil)))
        (pss_cons (ps_set (i := 7) sc_times.nd rfl (Or.inl rfl) (pe_callTy call_tuple_of (by rfl) m1 (by decide +kernel) (pa_cons (pe_callB (cr_sortedTS hr.units) (by rfl) m3 (by decide +kernel) (pa_cons (pe_op op_catA (pv 3) (pv 5)) pa_nil)) pa_nil)))
        (pss_one (ps_dput (hu_of hr) (pv 2) (pv 7) (pe_op op_add (pe_dget2 (hu_of hr) (pv 2) (pv 7) pe_int ⟨rfl, rfl, rfl, rfl⟩) (pe_op op_mul (pv 4) (pv 6))) (by rfl)))))))
    (pss_one (ps_ret (pe_make M I (hr.mono (by omega)) (by rfl) mS b .nil pass0 (pa_cons (pe_callTy (call_listItT rfl) (by rfl) m2 (by decide +kernel) (pa_cons (pe_bm0 PySem.F.plainAttrs_dict PySem.F.slot_dict_items PySem.F.type_dict_items mt_itemsT (pv 2)) pa_nil)) pa_nil))))), ?_⟩
  obtain ⟨tG, p, q, r1, r2, rfl, s1, s2, o1, o2, l1, l2, bd, kl1, kl2, qq⟩ := h
  obtain ⟨dx1, fs1, a1, oa1, ts1, e11, e12, e13, e14, e15⟩ := s1
  obtain ⟨dx2, fs2, a2, oa2, ts2, e21, e22, e23, e24, e25⟩ := s2
  have len1 := e15.len
  have len2 := e25.len
  have at_ : ∀ {H' : Hp} {a : Addr} {o : HO}, Ext G H H' → H a = some o → (∀ ps, o ≠ .tbl ps) → H' a = some o := fun y e n => y.at tG e n
  refine s_seq fun Dd hD => ?_
  have y1 : Ext G H (upd H Dd (.dT [])) := Ext.new hD
  have eD : upd H Dd (.dT []) Dd = some (.dT []) := upd_same
  generalize upd H Dd (.dT []) = H1 at y1 eD ⊢
  dsimp only [gName]
  refine s_seq (s_for ?_)
  refine ⟨.ref p, rfl, p, C, dx1, fs1, .ref a1, rfl, at_ y1 e11 (fun ps z => by cases z), T.cl, T.n1, e12, ?_⟩
  refine ⟨a1, rfl, ⟨_, .inl (.inr ⟨_, at_ y1 e13 (fun ps z => by cases z)⟩)⟩, for_tup (K := K) (a := a1) (xs := ts1.map V.ref) (fun i σ' H' => ∃ acc o3 o4 o5 o6 o7, σ' = [some (.ref p), some (.ref q), some (.ref Dd), o3, o4, o5, o6, o7] ∧ H' Dd = some (.dT (acc.map toV)) ∧ Ext G H H' ∧ (keysR acc).Nodup ∧ Txts acc ∧ (∀ k, coef acc k = coef (prodR srtKs (r1.take i) r2) k) ∧ (∀ k ∈ keysR acc, k ∈ keysR (prodR srtKs r1 r2)) ∧ acc.length ≤ i * 20) ?_ (fun i σ' H' _ ⟨_, _, _, _, _, _, _, _, e, _⟩ => .inl (.inr ⟨_, at_ e e13 (fun ps z => by cases z)⟩)) (fun i v σ' H' hv hp => ?_) (fun σ' H' hp => ?_)⟩
  · exact ⟨[], none, none, none, none, none, rfl, eD, y1, List.nodup_nil, fun r hr => (by cases hr), fun k => rfl, fun k hk => (by cases hk), Nat.zero_le _⟩
  · obtain ⟨acc, o3, o4, o5, o6, o7, rfl, eD', y', nd, tx, cf, ks, la⟩ := hp
    rw [List.getElem?_map] at hv
    obtain ⟨t, ht, rfl⟩ := Option.map_eq_some_iff.mp hv
    obtain ⟨ra, era, ba, b1, b2⟩ := e15.get ht
    have b1 : H t = some (.tup [.ref ba, .int ra.2]) := b1
    have b2 : H ba = some (.tup (ra.1.map kV)) := b2
    have mra : ra ∈ r1 := List.mem_of_getElem? era
    have hi := (List.getElem?_eq_some_iff.mp ht).1
    refine ⟨t, [.ref ba, .int ra.2], rfl, .inl (.inl (at_ y' b1 (fun ps z => by cases z))), rfl, .ref ba, [.int ra.2], rfl, .int ra.2, [], rfl, rfl, ?_⟩
    refine s_for ?_
    refine ⟨.ref q, rfl, q, C, dx2, fs2, .ref a2, rfl, at_ y' e21 (fun ps z => by cases z), T.cl, T.n1, e22, ?_⟩
    refine ⟨a2, rfl, ⟨_, .inl (.inr ⟨_, at_ y' e23 (fun ps z => by cases z)⟩)⟩, for_tup (K := K) (a := a2) (xs := ts2.map V.ref) (fun j σ' H' => ∃ acc o5 o6 o7, σ' = [some (.ref p), some (.ref q), some (.ref Dd), some (.ref ba), some (.int ra.2), o5, o6, o7] ∧ H' Dd = some (.dT (acc.map toV)) ∧ Ext G H H' ∧ (keysR acc).Nodup ∧ Txts acc ∧ (∀ k, coef acc k = coef (prodR srtKs (r1.take i) r2 ++ (r2.take j).map (rowP ra)) k) ∧ (∀ k ∈ keysR acc, k ∈ keysR (prodR srtKs r1 r2)) ∧ acc.length ≤ i * 20 + j) ?_ (fun j σ' H' _ ⟨_, _, _, _, _, _, e, _⟩ => .inl (.inr ⟨_, at_ e e23 (fun ps z => by cases z)⟩)) (fun j v σ' H2 hv hp => ?_) (fun σ' H2 hp => ?_)⟩
    · exact ⟨acc, o5, o6, o7, rfl, eD', y', nd, tx, fun k => by rw [cf, List.take_zero, List.map_nil, List.append_nil], ks, la⟩
    · obtain ⟨acc2, p5, p6, p7, rfl, eD2, y2, nd2, tx2, cf2, ks2, la2⟩ := hp
      rw [List.getElem?_map] at hv
      obtain ⟨u, hu, rfl⟩ := Option.map_eq_some_iff.mp hv
      obtain ⟨rb, erb, bb, c1, c2⟩ := e25.get hu
      have c1 : H u = some (.tup [.ref bb, .int rb.2]) := c1
      have c2 : H bb = some (.tup (rb.1.map kV)) := c2
      have mrb : rb ∈ r2 := List.mem_of_getElem? erb
      have hj := (List.getElem?_eq_some_iff.mp hu).1
      refine ⟨u, [.ref bb, .int rb.2], rfl, .inl (.inl (at_ y2 c1 (fun ps z => by cases z))), rfl, .ref bb, [.int rb.2], rfl, .int rb.2, [], rfl, rfl, ?_⟩
      refine s_seq ?_
      have t2 := tG.ext y2
      refine run_key (K := K) (G := G) (i := 3) (j := 5) (k1 := ra.1) (k2 := rb.1) t2 rfl rfl (at_ y2 b2 (fun ps z => by cases z)) (at_ y2 c2 (fun ps z => by cases z)) (o1.t ra mra) (o2.t rb mrb) (kl1 ra mra) (kl2 rb mrb) fun z H3 y3 ez => ?_
      have y13 := y2.trans y3
      have eD3 := y3.at t2 eD2 (fun ps z => by cases z)
      obtain ⟨o, hg, ho⟩ := dget0 nd2 (.inl eD3) ez
      refine ⟨.ref Dd, rfl, Dd, rfl, .inr ⟨_, .inl eD3⟩, .ref z, rfl, o, hg, ?_⟩
      rw [ho]
      refine ⟨.int ra.2, rfl, .int rb.2, rfl, ra.2, rb.2, rfl, rfl, .inl ⟨by have := (bd ra mra).1; omega, by have := (bd ra mra).2; omega⟩, ?_⟩
      refine ⟨_, _, rfl, rfl, .ref Dd, rfl, .ref z, rfl, Dd, _, rfl, dput0 eD3 ez (by omega), ?_⟩
      have hk : ∀ x ∈ srtKs (ra.1 ++ rb.1), ∃ z : Str, x = .inr z := txt_srt (txt_app (o1.t ra mra) (o2.t rb mrb))
      refine ⟨putR acc2 (srtKs (ra.1 ++ rb.1)) (coef acc2 (srtKs (ra.1 ++ rb.1)) + ra.2 * rb.2), _, _, _, rfl, upd_same, y13.mut hD eD3 (fun ps z => by cases z), putR_nd nd2, txts_put tx2 hk, fun k => ?_, fun k hk2 => ?_, by have := putR_len acc2 (srtKs (ra.1 ++ rb.1)) (coef acc2 (srtKs (ra.1 ++ rb.1)) + ra.2 * rb.2); omega⟩
      · rw [coef_putR nd2, take_snoc erb, List.map_append, ← List.append_assoc, coef_app, ← cf2, List.map_cons, List.map_nil, coef_cons, coef_nil]
        show _ = _ + ((if srtKs (ra.1 ++ rb.1) = k then ra.2 * rb.2 else 0) + 0)
        by_cases h : k = srtKs (ra.1 ++ rb.1)
        · rw [if_pos h, if_pos h.symm, h]
          omega
        · rw [if_neg h, if_neg fun z => h z.symm]
          omega
      · rcases putR_mem hk2 with z | z
        · exact ks2 k z
        · rw [z]
          exact List.mem_map_of_mem (f := (·.1)) (rowP_mem mra mrb)
    · obtain ⟨acc2, p5, p6, p7, rfl, eD2, y2, nd2, tx2, cf2, ks2, la2⟩ := hp
      rw [List.length_map] at cf2 la2
      refine ⟨acc2, _, _, p5, p6, p7, rfl, eD2, y2, nd2, tx2, fun k => ?_, ks2, by omega⟩
      rw [cf2, len2, List.take_length, prod_snoc era]
  · obtain ⟨acc, o3, o4, o5, o6, o7, rfl, eD', y', nd, tx, cf, ks, la⟩ := hp
    rw [List.length_map] at cf la
    refine run_end (K := K) (G := G) (tG.ext y') rfl eD' (by omega) tx fun z H2 y2 sz => ?_
    refine qq z _ H2 (y'.trans y2) sz (ok_srt nd tx) (fun k => ?_) fun k hk => ks k (keys_srt hk)
    rw [coef_srt, cf, len1, List.take_length]
end
end Rh
set_option Elab.async false
set_option linter.all false
set_option maxRecDepth 100000
set_option maxHeartbeats 1000000
/-! walks over values and rows in generator expressions; value, is_greater, no_less -/
namespace Dl
open PySem PySem.Spec PyProof.Rows L2 L2.DX GxR Gx LiI
section
variable {G : List Addr} {K : PySem.W.Frag} {σ : L2.St} {H : Hp} {te tb : TE}
theorem gx_valsT {P : Addr} {i : Nat} {vs : List Nat} {α : Type} {a0 : Tok → α} {Cs : α → V → Hp → (α → Hp → Prop) → Prop} {Fn : α → Hp → Prop} {d : Addr} {o : Obj} {kvs : List (List L2.Key × V)} (hP : P ∈ G) (tG : TabsG G H) (h : ∀ Q : VK, Q (.ref d) H → te σ H Q) (e : H d = some (.frz o (.dT kvs))) (hi : i ∈ vs)
    (Pv : Nat → α → Prop) (h0 : ∀ tk, Pv 0 (a0 tk))
    (hb : ∀ j kv al H1, kvs[j]? = some kv → Pv j al → Ext G H H1 → TabsG G H1 → tb ((wipe σ vs).set i (some kv.2)) H1 fun y H2 => Cs al y H2 fun al' H3 => Ext G H1 H3 ∧ Pv (j + 1) al')
    (hd : ∀ al H1, Pv kvs.length al → Ext G H H1 → Fn al H1) : tGx P (iValsT te) (gName i) tYes tb vs a0 Cs Fn σ H := h _ (by
  refine ⟨d, o, kvs, rfl, e, tG P hP, fun H3 hT => ?_⟩
  have x3 : Ext G H H3 := Ext.tabbed hP hT
  refine ⟨fun k m al Hk => m = kvs.length - k ∧ k ≤ kvs.length ∧ Ext G H Hk ∧ Pv k al, ⟨kvs.length, fun tk => ⟨rfl, Nat.zero_le _, x3, h0 tk⟩⟩, ?_⟩
  rintro k m al Hk ⟨rfl, hk, y1, p⟩
  have ek := y1.at tG e fun ps z => by cases z
  by_cases hlt : k < kvs.length
  · refine .inr ⟨⟨ek, hlt⟩, fun al' H' => Ext G Hk H' ∧ Pv (k + 1) al', fun al' H' z => ⟨kvs.length - (k + 1), by omega, rfl, hlt, y1.trans z.1, z.2⟩, fun y H' hy => ?_⟩
    obtain ⟨e', kk, hk'⟩ := hy
    subst e'
    exact ⟨wipe_set σ vs i (some y) hi, hb k _ al _ hk' p y1 (tG.ext y1)⟩
  · have e' : k = kvs.length := by omega
    subst e'
    exact .inl ⟨⟨ek, Nat.le_refl _⟩, hd al Hk p y1⟩)
end
end Dl
namespace Rh
open PySem PySem.Spec PyProof.Rows L2 L2.DX GxR Gx Dl LiI LamX
section
variable {G : List Addr} {K : PySem.W.Frag} {σ : L2.St} {H : Hp} {te tb : TE}
theorem run_allV {P : Addr} {i : Nat} {vs : List Nat} {p : Int → Bool} {d : Addr} {o : Obj} {rows : List Row} {Q : VK} (hP : P ∈ G) (tG : TabsG G H) (h : ∀ Q : VK, Q (.ref d) H → te σ H Q) (e : H d = some (.frz o (.dT (rows.map toV)))) (hi : i ∈ vs)
    (hb : ∀ (n : Int) H1, Ext G H H1 → TabsG G H1 → Ed G K tb ((wipe σ vs).set i (some (.int n))) H1 (.bool (p n))) (q : ∀ H', Ext G H H' → Q (.bl (rows.all fun r => p r.2)) H') : tAllG P (iValsT te) (gName i) tYes tb vs σ H Q := by
  refine gx_valsT hP tG h e hi (fun k _ => ∀ r ∈ rows.take k, p r.2 = true) (fun _ d hd => by simp at hd) (fun k kv al H2 hk hp x2 t2 => ?_) fun al H2 hp x2 => ?_
  · rw [List.getElem?_map] at hk
    obtain ⟨r, hr, rfl⟩ := Option.map_eq_some_iff.mp hk
    refine hb r.2 H2 x2 t2 H2 (Ext.refl G H2) _ fun w H3 x3 rr => ⟨p r.2, dp_bl rr, ?_⟩
    cases hpd : p r.2 with
    | true =>
      rw [if_pos rfl]
      refine ⟨x3, fun d' hd' => ?_⟩
      rw [take_snoc hr] at hd'
      rcases List.mem_append.mp hd' with z | z
      · exact hp d' z
      · rw [List.mem_singleton.mp z]; exact hpd
    | false =>
      rw [if_neg Bool.false_ne_true]
      have e : (rows.all fun r => p r.2) = false := by
        rw [List.all_eq_false]
        exact ⟨r, List.mem_of_getElem? hr, by rw [hpd]; exact Bool.false_ne_true⟩
      have := q H3 (x2.trans x3)
      rwa [e] at this
  · rw [List.length_map, List.take_length] at hp
    have := q H2 x2
    rwa [List.all_eq_true.mpr hp] at this
theorem run_anyV {P : Addr} {i : Nat} {vs : List Nat} {p : Int → Bool} {d : Addr} {o : Obj} {rows : List Row} {Q : VK} (hP : P ∈ G) (tG : TabsG G H) (h : ∀ Q : VK, Q (.ref d) H → te σ H Q) (e : H d = some (.frz o (.dT (rows.map toV)))) (hi : i ∈ vs)
    (hb : ∀ (n : Int) H1, Ext G H H1 → TabsG G H1 → Ed G K tb ((wipe σ vs).set i (some (.int n))) H1 (.bool (p n))) (q : ∀ H', Ext G H H' → Q (.bl (rows.any fun r => p r.2)) H') : tAnyG P (iValsT te) (gName i) tYes tb vs σ H Q := by
  refine gx_valsT hP tG h e hi (fun k _ => ∀ r ∈ rows.take k, p r.2 = false) (fun _ d hd => by simp at hd) (fun k kv al H2 hk hp x2 t2 => ?_) fun al H2 hp x2 => ?_
  · rw [List.getElem?_map] at hk
    obtain ⟨r, hr, rfl⟩ := Option.map_eq_some_iff.mp hk
    refine hb r.2 H2 x2 t2 H2 (Ext.refl G H2) _ fun w H3 x3 rr => ⟨p r.2, dp_bl rr, ?_⟩
    cases hpd : p r.2 with
    | false =>
      rw [if_neg Bool.false_ne_true]
      refine ⟨x3, fun d' hd' => ?_⟩
      rw [take_snoc hr] at hd'
      rcases List.mem_append.mp hd' with z | z
      · exact hp d' z
      · rw [List.mem_singleton.mp z]; exact hpd
    | true =>
      rw [if_pos rfl]
      have e : (rows.any fun r => p r.2) = true := by
        rw [List.any_eq_true]
        exact ⟨r, List.mem_of_getElem? hr, hpd⟩
      have := q H3 (x2.trans x3)
      rwa [e] at this
  · rw [List.length_map, List.take_length] at hp
    have e : (rows.any fun r => p r.2) = false := by
      rw [List.any_eq_false]
      exact fun r hr => by rw [hp r hr]; exact Bool.false_ne_true
    have := q H2 x2
    rwa [e] at this
def AllRest (P : Addr) (K : PySem.W.Frag) (g : TG) (tt : TT) (tb : TE) (vs : List Nat) (σ : L2.St) (Q : VK) : VK := fun v H1 => ∃ a, v = .ref a ∧ (∃ xs, SqT K H1 a xs) ∧ (TabG H1 P ∧ ∀ H1', Tabbed P H1 H1' → ∃ W : Nat → Nat → Unit → Hp → Prop, (∃ m, ∀ _tk : Tok, W 0 m () H1') ∧ ∀ i m al H, W i m al H → ((Itt K a).stop i H ∧ Q (.bl true) H) ∨ ((Itt K a).go i H ∧ ∃ Nx : Unit → Hp → Prop, (∀ al' H', Nx al' H' → ∃ m', m' < m ∧ W (i + 1) m' al' H') ∧
    ∀ x H', (Itt K a).yld i H x H' → g x (wipe σ vs) H' fun σ2 H2 => wipe σ2 vs = wipe σ vs ∧ tt σ2 H2 fun b H3 => if b = true then tb σ2 H3 fun y H4 => ∃ k, y = .bl k ∧ if k = true then Nx () H4 else Q (.bl false) H4 else Nx al H3))
theorem s_allG {P : Addr} {g : TG} {tt : TT} {vs : List Nat} {Q : VK} (h : te σ H (AllRest P K g tt tb vs σ Q)) : tAllG P (iTup K te) g tt tb vs σ H Q := h
/-- all(.. for names, number in t) -/
theorem allR_core {P : Addr} {i j : Nat} {vs : List Nat} {p : Int → Bool} {a : Addr} {o : Obj} {ts : List Addr} {rows : List Row} {Q : VK} (hP : P ∈ G) (t2 : TabsG G H) (e : H a = some (.frz o (.tup (ts.map V.ref)))) (hr : RowsAt H ts rows)
    (hw : ∀ x y, wipe (((wipe σ vs).set i x).set j y) vs = wipe σ vs)
    (hb : ∀ (b : V) (n : Int) H1, Ext G H H1 → TabsG G H1 → Ed G K tb (((wipe σ vs).set i (some b)).set j (some (.int n))) H1 (.bool (p n))) (q : ∀ H', Ext G H H' → Q (.bl (rows.all fun r => p r.2)) H') : AllRest P K (gTup K 2 (gCons (gName i) (gCons (gName j) gNil))) tYes tb vs σ Q (.ref a) H := by
  have len := hr.len
  refine ⟨a, rfl, ⟨_, .inl (.inr ⟨_, e⟩)⟩, t2 P hP, fun H3 hT => ?_⟩
  have x3 : Ext G H H3 := Ext.tabbed hP hT
  refine ⟨fun k m al Hk => m = ts.length - k ∧ k ≤ ts.length ∧ Ext G H Hk ∧ ∀ r ∈ rows.take k, p r.2 = true, ⟨ts.length, fun tk => ⟨rfl, Nat.zero_le _, x3, fun d hd => by simp at hd⟩⟩, ?_⟩
  rintro k m al Hk ⟨rfl, hk, y1, hp⟩
  have tk := t2.ext y1
  have ek : SqT K Hk a (ts.map V.ref) := .inl (.inr ⟨_, y1.at t2 e fun ps z => by cases z⟩)
  by_cases hlt : k < ts.length
  · refine .inr ⟨⟨_, (ts.map V.ref)[k]'(by rw [List.length_map]; exact hlt), ek, by simp [hlt]⟩, fun al' H' => Ext G Hk H' ∧ ∀ r ∈ rows.take (k + 1), p r.2 = true, fun al' H' z => ⟨ts.length - (k + 1), by omega, rfl, hlt, y1.trans z.1, z.2⟩, fun y H' hy => ?_⟩
    obtain ⟨e', hy⟩ := hy
    subst e'
    have hk' := hy _ ek
    rw [List.getElem?_map] at hk'
    obtain ⟨t, ht, rfl⟩ := Option.map_eq_some_iff.mp hk'
    obtain ⟨r, er, b, b1, b2⟩ := (hr.mono (.of t2 y1)).get ht
    have b1 : H' t = some (.tup [.ref b, .int r.2]) := b1
    refine ⟨t, [.ref b, .int r.2], rfl, .inl (.inl b1), rfl, .ref b, [.int r.2], rfl, .int r.2, [], rfl, rfl, hw _ _, ?_⟩
    refine hb (.ref b) r.2 H' (y1) tk H' (Ext.refl G H') _ fun w H4 x4 rr => ⟨p r.2, dp_bl rr, ?_⟩
    cases hpd : p r.2 with
    | true =>
      rw [if_pos rfl]
      refine ⟨x4, fun d' hd' => ?_⟩
      rw [take_snoc er] at hd'
      rcases List.mem_append.mp hd' with z | z
      · exact hp d' z
      · rw [List.mem_singleton.mp z]; exact hpd
    | false =>
      rw [if_neg Bool.false_ne_true]
      have e2 : (rows.all fun r => p r.2) = false := by
        rw [List.all_eq_false]
        exact ⟨r, List.mem_of_getElem? er, by rw [hpd]; exact Bool.false_ne_true⟩
      have := q H4 (y1.trans x4)
      rwa [e2] at this
  · have e' : k = ts.length := by omega
    subst e'
    refine .inl ⟨⟨_, ek, by rw [List.length_map]; exact Nat.le_refl _⟩, ?_⟩
    rw [len, List.take_length] at hp
    have := q Hk (y1)
    rwa [List.all_eq_true.mpr hp] at this
/-- [(names, -number) for names, number in s.rows] -/
theorem run_negs {C p : Addr} {i a b : Nat} {rows : List Row} {Q : VK} (T : SumC K C) (tG : TabsG G H) (h : σ[i]? = some (some (.ref p))) (s : SumAt C H p rows) (hl : rows.length ≤ 1000)
    (hA : ∀ x y, (((wipe σ [a, b]).set a (some x)).set b (some y))[a]? = some (some x)) (hB : ∀ x y, (((wipe σ [a, b]).set a (some x)).set b (some y))[b]? = some (some y)) (hw : ∀ x y, wipe (((wipe σ [a, b]).set a x).set b y) [a, b] = wipe σ [a, b])
    (q : ∀ l ts H', Ext G H H' → H' l = some (.lst (ts.map V.ref)) → RowsAt H' ts (negR rows) → Q (.ref l) H') :
    tLc (iTup K (tFld K (tVar i) "rows")) (gTup K 2 (gCons (gName a) (gCons (gName b) gNil))) tYes (tTup (tCons (tVar a) (tCons (tUn (rU fun i => .int (-i)) (tVar b)) tNil))) [a, b] σ H Q := by
  obtain ⟨dx, fs, ar, o, ts, h1, h2, h3, h4, h5⟩ := s
  have len := h5.len
  refine ⟨.ref p, h, p, C, dx, fs, .ref ar, rfl, h1, T.cl, T.n1, h2, ar, rfl, ⟨_, .inl (.inr ⟨_, h3⟩)⟩, fun L hL => ?_⟩
  refine lc_tup (K := K) (a := ar) (xs := ts.map V.ref) (fun k Hk => Ext G H Hk ∧ ∃ ts' : List Addr, Hk L = some (.lst (ts'.map V.ref)) ∧ RowsAt Hk ts' (negR (rows.take k)) ∧ ts'.length = k) ⟨Ext.new hL, [], upd_same, .nil, rfl⟩ (fun k Hk _ y => .inl (.inr ⟨_, y.1.at tG h3 (fun ps z => by cases z)⟩)) (fun k v Hk hv y => ?_) (fun Hk y => ?_)
  · obtain ⟨y1, ts', e1, r1, l1⟩ := y
    have tk := tG.ext y1
    rw [List.getElem?_map] at hv
    obtain ⟨t, ht, rfl⟩ := Option.map_eq_some_iff.mp hv
    obtain ⟨r, er, bb, b1, b2⟩ := (h5.mono (.of tG y1)).get ht
    have b1 : Hk t = some (.tup [.ref bb, .int r.2]) := b1
    have hi := (List.getElem?_eq_some_iff.mp ht).1
    refine ⟨t, [.ref bb, .int r.2], rfl, .inl (.inl b1), rfl, .ref bb, [.int r.2], rfl, .int r.2, [], rfl, rfl, hw _ _, ?_⟩
    dsimp only [tYes]
    refine iteT ?_
    refine ⟨.ref bb, hA _ _, .int r.2, hB _ _, r.2, rfl, by show 2 ≤ sizeLine; decide, fun z hz => ?_⟩
    have y3 : Ext G Hk (upd Hk z (.tup [.ref bb, .int (-r.2)])) := Ext.new hz
    have e3 := y3.at tk e1 (fun ps z => by cases z)
    have k3 : TupK Hk (upd Hk z (.tup [.ref bb, .int (-r.2)])) := TupK.of tk y3
    have k4 : TupK (upd Hk z (.tup [.ref bb, .int (-r.2)])) (upd (upd Hk z (.tup [.ref bb, .int (-r.2)])) L (.lst (ts'.map V.ref ++ [.ref z]))) := TupK.upd fun xs w => by rw [e3] at w; cases w
    refine ⟨ts'.map V.ref, e3, by rw [List.length_map]; exact Nat.lt_of_lt_of_le (show ts'.length < 2000 by omega) (by decide), (y1.trans y3).mut hL e3 (fun ps z => by cases z), ts' ++ [z], by rw [upd_same, List.map_append]; rfl, ?_, by rw [List.length_append, l1]; rfl⟩
    have et : negR (rows.take (k + 1)) = negR (rows.take k) ++ [(r.1, -r.2)] := by
      unfold negR
      rw [take_snoc er, List.map_append]
      rfl
    rw [et]
    exact ((r1.mono k3).mono k4).snoc ⟨bb, k4 _ _ upd_same, k4 _ _ (k3 _ _ b2)⟩
  · obtain ⟨y1, ts', e1, r1, l1⟩ := y
    rw [List.length_map, len, List.take_length] at r1
    exact q L ts' Hk y1 e1 r1
end
end Rh
set_option Elab.async false
set_option linter.all false
set_option maxRecDepth 100000
set_option maxHeartbeats 1000000
/-! value, is_greater, no_less -/
namespace Rh
open PySem PySem.Spec PyProof.Rows L2 L2.DX GxR Gx Dl LiI LamX
section
variable {P : Program} {w : World} {K : PySem.W.Frag} {mg : Str → Option Value} {base : Heap} {G : List Addr} {f c C fi : Addr} {fd fdi : FuncData}
/-- what a dict of numbers tells of names -/
def Tells (kvs : List (L2.Key × V)) (ρ : L2.Key → Int) (rows : List Row) : Prop := ∀ r ∈ rows, ∀ x ∈ r.1, valV kvs x = some (.int (ρ x)) ∧ 0 ≤ ρ x ∧ ρ x ≤ 9
def spVal (G : List Addr) (C : Addr) : Sp := fun vs H Q _ => TabsG G H ∧ ∃ (p d : Addr) (rows : List Row) (kvs : List (L2.Key × V)) (ρ : L2.Key → Int), vs = [.ref p, .ref d] ∧ SumAt C H p rows ∧ H d = some (.dK kvs) ∧ Txts rows ∧ Tells kvs ρ rows ∧ ∀ H', Ext G H H' → Q (.int (val ρ rows)) H'
abbrev NV : List Str := ["total", "table", "found", "names", "number", "name"]
theorem sc_value : FnScope NV ["total", "table"] (defScope s_value) := ⟨rfl, rfl, rfl, by decide +kernel, rfl, by decide +kernel, by decide +kernel⟩
theorem mono_snoc (ρ : L2.Key → Int) {k : Ks} {i : Nat} {x : L2.Key} (h : k[i]? = some x) : mono ρ (k.take (i + 1)) = mono ρ (k.take i) * ρ x := by
  rw [take_snoc h, mono_app, mono_cons, mono_nil, Int.mul_one]
theorem val_snoc (ρ : L2.Key → Int) {rows : List Row} {i : Nat} {r : Row} (h : rows[i]? = some r) : val ρ (rows.take (i + 1)) = val ρ (rows.take i) + r.2 * mono ρ r.1 := by
  rw [take_snoc h, val_app, val_cons, val_nil, Int.add_zero]
theorem cl_value (D : DefF K mg base G "value" s_value ["total", "table"] f fd) (T : SumC K C) : Cl0 P w K mg base 2 "value" (spVal G C) := by
  refine D.clS (k := 1) sc_value (fun vs H Q E h => by obtain ⟨_, _, _, _, _, _, rfl, _⟩ := h; rfl) fun c Pt A outer s H vs Q E TB hP hr h => ?_
  refine ⟨_, pss_cons (ps_set (i := 2) sc_value.nd rfl (Or.inl rfl) pe_int)
    (pss_cons (ps_for PassesOwn.never rfl (pi_tup (pe_fld (pv 0) rfl)) (pg_tup rfl (pgs_cons (pg_name (i := 3) sc_value.nd rfl (Or.inl rfl)) (pgs_cons (pg_name (i := 4) sc_value.nd rfl (Or.inl rfl)) pgs_nil)))
      (pss_cons (ps_for PassesOwn.never rfl (pi_tup (pv 3)) (pg_name (i := 5) sc_value.nd rfl (Or.inl rfl)) (pss_one (ps_aug (i := 4) sc_value.nd rfl (.inl rfl) (pe_dget (hu_of hr) (pv 1) (pv 5) (fun _ _ => rfl)) iop_mul)))
      (pss_one (ps_aug (i := 2) sc_value.nd rfl (.inl rfl) (pv 4) ip_add))))
    (pss_one (ps_ret (pv 2)))), ?_⟩
  obtain ⟨tG, p, d, rows, kvs, ρ, rfl, s1, ed, tx, tl, qq⟩ := h
  obtain ⟨dx1, fs1, a1, oa1, ts1, e11, e12, e13, e14, e15⟩ := s1
  have len1 := e15.len
  have at_ : ∀ {H' : Hp} {a : Addr} {o : HO}, Ext G H H' → H a = some o → (∀ ps, o ≠ .tbl ps) → H' a = some o := fun y e n => y.at tG e n
  refine s_seq ?_
  dsimp only [tAsg, tC, gName]
  refine s_seq (s_for ?_)
  refine ⟨.ref p, rfl, p, C, dx1, fs1, .ref a1, rfl, e11, T.cl, T.n1, e12, ?_⟩
  refine ⟨a1, rfl, ⟨_, .inl (.inr ⟨_, e13⟩)⟩, for_tup (K := K) (a := a1) (xs := ts1.map V.ref) (fun i σ' H' => ∃ o3 o4 o5, σ' = [some (.ref p), some (.ref d), some (.int (val ρ (rows.take i))), o3, o4, o5] ∧ Ext G H H') ⟨none, none, none, rfl, Ext.refl G H⟩ (fun i σ' H' _ ⟨_, _, _, _, e⟩ => .inl (.inr ⟨_, at_ e e13 (fun ps z => by cases z)⟩)) (fun i v σ' H' hv hp => ?_) (fun σ' H' hp => ?_)⟩
  · obtain ⟨o3, o4, o5, rfl, y'⟩ := hp
    rw [List.getElem?_map] at hv
    obtain ⟨t, ht, rfl⟩ := Option.map_eq_some_iff.mp hv
    obtain ⟨r, er, b, b1, b2⟩ := e15.get ht
    have b1 : H t = some (.tup [.ref b, .int r.2]) := b1
    have b2 : H b = some (.tup (r.1.map kV)) := b2
    have mr : r ∈ rows := List.mem_of_getElem? er
    refine ⟨t, [.ref b, .int r.2], rfl, .inl (.inl (at_ y' b1 (fun ps z => by cases z))), rfl, .ref b, [.int r.2], rfl, .int r.2, [], rfl, rfl, ?_⟩
    refine s_seq (s_for ?_)
    refine ⟨.ref b, rfl, b, rfl, ⟨_, .inl (.inl (at_ y' b2 (fun ps z => by cases z)))⟩, for_tup (K := K) (a := b) (xs := r.1.map kV) (fun j σ' H' => ∃ o5, σ' = [some (.ref p), some (.ref d), some (.int (val ρ (rows.take i))), some (.ref b), some (.int (r.2 * mono ρ (r.1.take j))), o5] ∧ Ext G H H') ⟨o5, by rw [List.take_zero, mono_nil, Int.mul_one]; rfl, y'⟩ (fun j σ' H' _ ⟨_, _, e⟩ => .inl (.inl (at_ e b2 (fun ps z => by cases z)))) (fun j v σ' H2 hv hp => ?_) (fun σ' H2 hp => ?_)⟩
    · obtain ⟨o5', rfl, y2⟩ := hp
      rw [List.getElem?_map] at hv
      obtain ⟨x, hx, rfl⟩ := Option.map_eq_some_iff.mp hv
      have mx : x ∈ r.1 := List.mem_of_getElem? hx
      obtain ⟨tv, t0, t9⟩ := tl r mr x mx
      have ed2 := at_ y2 ed (fun ps z => by cases z)
      have g : DGet H2 d (kV x) (some (.int (ρ x))) := by
        rw [← tv]
        exact DGet.k ed2
      refine ⟨.int (r.2 * mono ρ (r.1.take j)), rfl, .ref d, rfl, kV x, rfl, d, .int (ρ x), rfl, g, ?_⟩
      refine ⟨_, _, rfl, rfl, .inr ⟨by omega, by omega⟩, ?_⟩
      refine ⟨some (kV x), ?_, y2⟩
      rw [mono_snoc ρ hx, ← Int.mul_assoc]
      rfl
    · obtain ⟨o5', rfl, y2⟩ := hp
      rw [List.length_map, List.take_length]
      refine ⟨.int (val ρ (rows.take i)), rfl, .int (r.2 * mono ρ r.1), rfl, ?_⟩
      refine ⟨_, _, rfl, rfl, some (.ref b), some (.int (r.2 * mono ρ r.1)), o5', ?_, y2⟩
      rw [val_snoc ρ er]
      rfl
  · obtain ⟨o3, o4, o5, rfl, y'⟩ := hp
    rw [List.length_map, len1, List.take_length]
    exact ⟨_, rfl, qq H' y'⟩
end
end Rh
set_option Elab.async false
set_option linter.all false
set_option maxRecDepth 100000
set_option maxHeartbeats 1000000
/-! is_greater, no_less -/
namespace Rh
open PySem PySem.Spec PyProof.Rows L2 L2.DX GxR Gx Dl LiI LamX
theorem negR_len (rows : List Row) : (negR rows).length = rows.length := List.length_map _
theorem negR_txts {rows : List Row} (t : Txts rows) : Txts (negR rows) := fun r hr => by
  obtain ⟨x, hx, rfl⟩ := List.mem_map.mp hr
  exact t x hx
theorem srt_len (rows : List Row) : (srtR (nzR rows)).length ≤ rows.length := by
  rw [(srtR_perm _).length_eq]
  exact List.length_filter_le _ _
section
variable {P : Program} {w : World} {K : PySem.W.Frag} {mg : Str → Option Value} {base : Heap} {G : List Addr} {f c C fi : Addr} {fd fdi : FuncData}
def grB (rows : List Row) : Bool := decide (0 < coef rows []) && rows.all fun r => decide (0 ≤ r.2)
def leB (rows : List Row) : Bool := rows.all fun r => decide (0 ≤ r.2)
/-- the answer is told by the difference -/
def spCmp (B : List Row → Bool) (G : List Addr) (C : Addr) : Sp := fun vs H Q _ => TabsG G H ∧ ∃ (p q : Addr) (r1 r2 : List Row), vs = [.ref p, .ref q] ∧ SumAt C H p r1 ∧ SumAt C H q r2 ∧ Ok r1 ∧ Ok r2 ∧ r1.length ≤ 100 ∧ r2.length ≤ 100 ∧
  ∀ rows H', Ext G H H' → Ok rows → (∀ k, coef rows k = coef r1 k - coef r2 k) → Q (.bl (B rows)) H'
abbrev NG : List Str := ["one", "other", "rest", "names", "number"]
theorem sc_greater : FnScope NG ["one", "other"] (defScope s_is_greater) := ⟨rfl, rfl, rfl, by decide +kernel, rfl, by decide +kernel, by decide +kernel⟩
theorem s_consQ {te : TE} {ta : TA} {Q : List V → Hp → Prop} {σ : L2.St} {H : Hp} (h : te σ H fun v H1 => ta σ H1 fun vs H2 => Q (v :: vs) H2) : tCons te ta σ H Q := h
theorem s_makeR {C : Addr} {sp : Sp} {dvs : List V} {E : XK} {t : TA} {σ : L2.St} {H : Hp} {Q : VK} (h : t σ H fun vs H1 => ∀ x dx, H1 x = none → H1 dx = none → dx ≠ x → sp (.ref x :: (vs ++ dvs)) (upd (upd H1 dx (.own x)) x (.ins C dx [])) (fun v H2 => v = .non ∧ Q (.ref x) H2) E) : tMake C sp dvs E t σ H Q := h
/-- add(one, Sum([(names, -number) for names, number in other.rows])) -/
theorem run_diff {σ : L2.St} {H : Hp} {p q : Addr} {r1 r2 : List Row} {a b : Nat} {E E2 : XK} {Q : VK} (T : SumC K C) (tG : TabsG G H) (h0 : σ[0]? = some (some (.ref p))) (h1 : σ[1]? = some (some (.ref q))) (s1 : SumAt C H p r1) (s2 : SumAt C H q r2) (o1 : Ok r1) (o2 : Ok r2) (l1 : r1.length ≤ 100) (l2 : r2.length ≤ 100)
    (hA : ∀ x y, (((wipe σ [a, b]).set a (some x)).set b (some y))[a]? = some (some x)) (hB : ∀ x y, (((wipe σ [a, b]).set a (some x)).set b (some y))[b]? = some (some y)) (hw : ∀ x y, wipe (((wipe σ [a, b]).set a x).set b y) [a, b] = wipe σ [a, b])
    (qq : ∀ z rows H', Ext G H H' → SumAt C H' z rows → Ok rows → (∀ k, coef rows k = coef r1 k - coef r2 k) → Q (.ref z) H') :
    tCall (spAdd G C) [] E (tCons (tVar 0) (tCons (tMake C (spSI G K C) [] E2 (tCons (tLc (iTup K (tFld K (tVar 1) "rows")) (gTup K 2 (gCons (gName a) (gCons (gName b) gNil))) tYes (tTup (tCons (tVar a) (tCons (tUn (rU fun i => .int (-i)) (tVar b)) tNil))) [a, b]) tNil)) tNil)) σ H Q := by
  refine ⟨.ref p, h0, ?_⟩
  show tCons _ _ σ H _
  refine s_consQ ?_
  refine s_makeR (s_consQ ?_)
  refine run_negs (K := K) (i := 1) T tG h1 s2 (by omega) hA hB hw fun l ts H1 y1 el hr1 => ?_
  have t1 := tG.ext y1
  show ∀ x dx, H1 x = none → H1 dx = none → dx ≠ x → spSI G K C (.ref x :: ([.ref l] ++ [])) (upd (upd H1 dx (.own x)) x (.ins C dx [])) (fun v H2 => v = .non ∧ spAdd G C [.ref p, .ref x] H2 Q E) E2
  refine mk_core (Q := fun v H2 => spAdd G C [.ref p, v] H2 Q E) t1 el hr1 (by rw [negR_len]; omega) (negR_txts o2.t) fun z H2 y2 sz => ?_
  have y12 := y1.trans y2
  refine ⟨tG.ext y12, p, z, r1, _, rfl, s1.ext tG y12, sz, o1, ok_srt (neg_good o2.g).nd (negR_txts o2.t), l1, by have := srt_len (negR r2); rw [negR_len] at this; omega, fun u rows H3 y3 su ok cf ks => ?_⟩
  refine qq u rows H3 (y12.trans y3) su ok fun k => ?_
  rw [cf, coef_srt, coef_neg]
  omega
theorem cl_greater (D : DefF K mg base G "is_greater" s_is_greater ["one", "other"] f fd) (T : SumC K C) (M : Mk K C fi) (I : FnOk P w K mg base CX0 2 fi fdi ["self", "rows"] (spSI G K C)) (mS : mg "Sum" = some (.ref C)) (b : Binds K fdi ["self", "rows"] []) (ad : Cl0 P w K mg base 4 "add" (spAdd G C)) (m1 : mg "dict" = none) (m2 : mg "all" = none) : Cl0 P w K mg base 6 "is_greater" (spCmp grB G C) := by
  refine D.clS (k := 5) sc_greater (fun vs H Q E h => by obtain ⟨_, _, _, _, _, rfl, _⟩ := h; rfl) fun c Pt A outer s H vs Q E TB hP hr h => ?_
  refine ⟨_, pss_cons (ps_set (i := 2) sc_greater.nd rfl (Or.inl rfl) (pe_callTy (call_dictPF rfl (units2 hr)) (by rfl) m1 (by decide +kernel) (pa_cons (pe_fld (pe_cl ad (hr.mono (by omega)) rfl (pa_cons (pv 0) (pa_cons (pe_make M I (hr.mono (by omega)) (by rfl) mS b .nil pass0 (pa_cons
      (pe_lc (own := [("names", 3), ("number", 4)]) (g := gTup K 2 (gCons (gName 3) (gCons (gName 4) gNil))) (tt := tYes) rfl sc_greater.nd (pi_tup (pe_fld (pv 1) rfl)) (blkOk_by (N := NG) (sc := defScope s_is_greater) (by decide +kernel))
        (fun _ _ _ _ _ => pg_tup rfl (pgs_cons (pg_name (i := 3) sc_greater.nd rfl (Or.inl rfl)) (pgs_cons (pg_name (i := 4) sc_greater.nd rfl (Or.inl rfl)) pgs_nil))) (fun _ _ _ _ _ => pts_nil) (fun _ _ _ _ _ => pe_tup (pa_cons (pv 3) (pa_cons (pe_un un_neg (pv 4)) pa_nil)))) pa_nil)) pa_nil))) rfl) pa_nil)))
    (pss_one (ps_ret (pe_and (pe_cmpR op_gt (pe_dget2 (hu_of hr) (pv 2) (pe_tup pa_nil) pe_int ⟨rfl, rfl, rfl, rfl⟩) pe_int (nomark _))
      (pe_one (pe_allG (own := [("number", 4)]) hr sc_greater.nd TB rfl (blkOk_by (N := NG) (sc := defScope s_is_greater) (by decide +kernel)) m2 (pi_valuesT (pv 2)) (fun s H C code fp A _ => pg_name (i := 4) sc_greater.nd rfl (Or.inl rfl)) (fun s H C code fp A _ => pts_nil) (fun s H C code fp A _ => pe_cmpR op_ge (pv 4) pe_int (nomark _))))))), ?_⟩
  obtain ⟨tG, p, q, r1, r2, rfl, s1, s2, o1, o2, l1, l2, qq⟩ := h
  refine s_seq ?_
  refine run_diff (K := K) (σ := [some (.ref p), some (.ref q), none, none, none]) T tG rfl rfl s1 s2 o1 o2 l1 l2 (fun x y => rfl) (fun x y => rfl) (fun x y => rfl) fun z rows H1 y1 sz ok cf => ?_
  obtain ⟨dx, fs, a, o, ts, h1, h2, h3, h4, h5⟩ := sz
  refine ⟨z, C, dx, fs, .ref a, rfl, h1, T.cl, T.n1, h2, ?_⟩
  refine ⟨a, o, ts, rows.map toV, rfl, h3, h4, h5, by rw [List.map_map]; exact ok.g.nd, fun d od hd => ?_⟩
  have t1 := tG.ext y1
  have y2 : Ext G H1 (upd H1 d (.frz od (.dT (rows.map toV)))) := Ext.new hd
  have e2 : upd H1 d (.frz od (.dT (rows.map toV))) d = some (.frz od (.dT (rows.map toV))) := upd_same
  have t2 := t1.ext y2
  have y12 := y1.trans y2
  generalize upd H1 d (.frz od (.dT (rows.map toV))) = H2 at e2 t2 y12 ⊢
  dsimp only [gName]
  refine ⟨.ref d, rfl, d, rfl, .inr ⟨_, .inr ⟨_, e2⟩⟩, Nat.zero_le _, fun u hu => ?_⟩
  have y3 : Ext G H2 (upd H2 u (.tup [])) := Ext.new hu
  have e3 := y3.at t2 e2 (fun ps z => by cases z)
  have t3 := t2.ext y3
  obtain ⟨oo, hg, ho⟩ := dget0 (k := []) ok.g.nd (.inr ⟨_, e3⟩) (show upd H2 u (.tup []) u = some (.tup (([] : Ks).map kV)) from upd_same)
  refine ⟨oo, hg, ?_⟩
  rw [ho]
  refine ⟨coef rows [], 0, rfl, rfl, decide (0 < coef rows []), rfl, ?_⟩
  cases hc : decide (0 < coef rows []) with
  | false =>
    have := qq rows _ (y12.trans y3) ok cf
    rw [grB, hc] at this
    exact this
  | true =>
    refine run_allV (K := K) (p := fun n => decide (0 ≤ n)) hP t3 (fun Q q => ⟨_, rfl, q⟩) e3 (by decide) (fun n H4 y4 t4 => ed_op t4 (ed_var t4 rfl (.int n)) ed_int rd_geI) fun H4 y4 => ?_
    have := qq rows H4 ((y12.trans y3).trans y4) ok cf
    rw [grB, hc] at this
    exact this
abbrev NL' : List Str := ["one", "other", "names", "n", "number"]
theorem sc_noless : FnScope NL' ["one", "other"] (defScope s_no_less) := ⟨rfl, rfl, rfl, by decide +kernel, rfl, by decide +kernel, by decide +kernel⟩
theorem cl_noless (D : DefF K mg base G "no_less" s_no_less ["one", "other"] f fd) (T : SumC K C) (M : Mk K C fi) (I : FnOk P w K mg base CX0 2 fi fdi ["self", "rows"] (spSI G K C)) (mS : mg "Sum" = some (.ref C)) (b : Binds K fdi ["self", "rows"] []) (ad : Cl0 P w K mg base 4 "add" (spAdd G C)) (m2 : mg "all" = none) : Cl0 P w K mg base 6 "no_less" (spCmp leB G C) := by
  refine D.clS (k := 5) sc_noless (fun vs H Q E h => by obtain ⟨_, _, _, _, _, rfl, _⟩ := h; rfl) fun c Pt A outer s H vs Q E TB hP hr h => ?_
  refine ⟨_, pss_one (ps_ret (pe_allG (own := [("names", 2), ("number", 4)]) (g := gTup K 2 (gCons (gName 2) (gCons (gName 4) gNil))) hr sc_noless.nd TB rfl (blkOk_by (N := NL') (sc := defScope s_no_less) (by decide +kernel)) m2
      (pi_tup (pe_fld (pe_cl ad (hr.mono (by omega)) rfl (pa_cons (pv 0) (pa_cons (pe_make M I (hr.mono (by omega)) (by rfl) mS b .nil pass0 (pa_cons
        (pe_lc (own := [("names", 2), ("n", 3)]) (g := gTup K 2 (gCons (gName 2) (gCons (gName 3) gNil))) (tt := tYes) rfl sc_noless.nd (pi_tup (pe_fld (pv 1) rfl)) (blkOk_by (N := NL') (sc := defScope s_no_less) (by decide +kernel))
          (fun _ _ _ _ _ => pg_tup rfl (pgs_cons (pg_name (i := 2) sc_noless.nd rfl (Or.inl rfl)) (pgs_cons (pg_name (i := 3) sc_noless.nd rfl (Or.inl rfl)) pgs_nil))) (fun _ _ _ _ _ => pts_nil) (fun _ _ _ _ _ => pe_tup (pa_cons (pv 2) (pa_cons (pe_un un_neg (pv 3)) pa_nil)))) pa_nil)) pa_nil))) rfl))
      (fun s H C code fp A _ => pg_tup rfl (pgs_cons (pg_name (i := 2) sc_noless.nd rfl (Or.inl rfl)) (pgs_cons (pg_name (i := 4) sc_noless.nd rfl (Or.inl rfl)) pgs_nil))) (fun s H C code fp A _ => pts_nil) (fun s H C code fp A _ => pe_cmpR op_ge (pv 4) pe_int (nomark _)))), ?_⟩
  obtain ⟨tG, p, q, r1, r2, rfl, s1, s2, o1, o2, l1, l2, qq⟩ := h
  refine s_allG ?_
  refine run_diff (K := K) (σ := [some (.ref p), some (.ref q), none, none, none]) T tG rfl rfl s1 s2 o1 o2 l1 l2 (fun x y => rfl) (fun x y => rfl) (fun x y => rfl) fun z rows H1 y1 sz ok cf => ?_
  obtain ⟨dx, fs, a, o, ts, h1, h2, h3, h4, h5⟩ := sz
  refine ⟨z, C, dx, fs, .ref a, rfl, h1, T.cl, T.n1, h2, ?_⟩
  exact allR_core (K := K) (σ := [some (.ref p), some (.ref q), none, none, none]) (p := fun n => decide (0 ≤ n)) hP (tG.ext y1) h3 h5 (fun x y => rfl) (fun bb n H4 y4 t4 => ed_op t4 (ed_var t4 rfl (.int n)) ed_int rd_geI) fun H4 y4 => qq rows H4 (y1.trans y4) ok cf
end
end Rh
set_option Elab.async false
set_option linter.all false
set_option maxRecDepth 100000
set_option maxHeartbeats 1000000
/-! of_term's polynomial -/
namespace Rh
open PySem PySem.Spec PyProof.Rows L2 L2.DX GxR Gx Dl LiI LamX
abbrev kX (s : String) : L2.Key := .inr (Str.ofString s)
abbrev kx0 : Ks := [kX "x0"]
abbrev kx1 : Ks := [kX "x1"]
/-- a weighed sum of rows -/
def wsum (g : Ks → Int) (rows : List Row) : Int := (rows.map fun r => r.2 * g r.1).sum
def wS (g : Ks → Int) (S : List Ks) (c : Ks → Int) : Int := (S.map fun k => c k * g k).sum
theorem wsum_cons (g : Ks → Int) (r : Row) (rows : List Row) : wsum g (r :: rows) = r.2 * g r.1 + wsum g rows := by simp [wsum]
theorem wsum_app (g : Ks → Int) (a b : List Row) : wsum g (a ++ b) = wsum g a + wsum g b := by simp [wsum]
theorem wS_cons (g : Ks → Int) (k : Ks) (S : List Ks) (c : Ks → Int) : wS g (k :: S) c = c k * g k + wS g S c := by simp [wS]
theorem wS_add (g : Ks → Int) (S : List Ks) (c d : Ks → Int) : wS g S (fun k => c k + d k) = wS g S c + wS g S d := by
  induction S with
  | nil => rfl
  | cons k S ih =>
    rw [wS_cons, wS_cons, wS_cons, ih, Int.add_mul]
    omega
theorem wS_zero (g : Ks → Int) (S : List Ks) (c : Ks → Int) (h : ∀ k ∈ S, c k = 0) : wS g S c = 0 := by
  induction S with
  | nil => rfl
  | cons k S ih => rw [wS_cons, h k List.mem_cons_self, ih fun k hk => h k (List.mem_cons_of_mem _ hk), Int.zero_mul]; rfl
theorem wS_one (g : Ks → Int) {S : List Ks} (nd : S.Nodup) {r : Row} (h : r.1 ∈ S) : wS g S (fun k => if r.1 = k then r.2 else 0) = r.2 * g r.1 := by
  induction S with
  | nil => cases h
  | cons k S ih =>
    have nd' := List.nodup_cons.mp nd
    rw [wS_cons]
    by_cases e : r.1 = k
    · subst e
      rw [if_pos rfl, wS_zero g S _ fun k hk => if_neg fun e => nd'.1 (by rw [e]; exact hk)]
      omega
    · rw [if_neg e, ih nd'.2 (by
        rcases List.mem_cons.mp h with z | z
        · exact absurd z e
        · exact z)]
      omega
theorem wsum_S (g : Ks → Int) {S : List Ks} (nd : S.Nodup) : ∀ {rows : List Row}, (∀ k ∈ keysR rows, k ∈ S) → wsum g rows = wS g S (coef rows)
  | [], _ => (wS_zero g S _ fun k _ => coef_nil k).symm
  | r :: rs, h => by
    have ih := wsum_S g nd (rows := rs) fun k hk => h k (List.mem_cons_of_mem _ hk)
    rw [wsum_cons, ih, ← wS_one g nd (h r.1 List.mem_cons_self), ← wS_add]
    unfold wS
    congr 1
    all_goals exact List.map_congr_left fun k _ => by rw [coef_cons]
theorem val_wsum (ρ : L2.Key → Int) (rows : List Row) : val ρ rows = wsum (mono ρ) rows := rfl
/-- how many parts a sign has, and its numbers -/
abbrev Sgn := Str → Option Nat
abbrev Num := Str → Int × Int × Int
def T.sg (g : Sgn) : T → Prop
  | .v x => x = Str.ofString "x" ∨ x = Str.ofString "y"
  | .c s => g s = some 0
  | .u s t => g s = some 1 ∧ t.sg g
  | .b s t r => g s = some 2 ∧ t.sg g ∧ r.sg g
def lin (m : Num) : T → Ks → Int
  | .v x => fun k => if k = [.inr x] then 1 else 0
  | .c s => fun k => if k = [] then (m s).1 else 0
  | .u s t => fun k => (if k = [] then (m s).1 else 0) + (m s).2.1 * lin m t k
  | .b s t r => fun k => (if k = [] then (m s).1 else 0) + (m s).2.1 * lin m t k + (m s).2.2 * lin m r k
def lv (m : Num) (ρ : L2.Key → Int) : T → Int
  | .v x => ρ (.inr x)
  | .c s => (m s).1
  | .u s t => (m s).1 + (m s).2.1 * lv m ρ t
  | .b s t r => (m s).1 + (m s).2.1 * lv m ρ t + (m s).2.2 * lv m ρ r
abbrev KS : List Ks := [[], [kX "x"], [kX "y"]]
theorem KS_nd : KS.Nodup := by decide +kernel
theorem KS_short {k : Ks} (h : k ∈ KS) : k.length ≤ 1 := by
  simp only [List.mem_cons, List.not_mem_nil, or_false] at h
  rcases h with rfl | rfl | rfl <;> decide
theorem lin_KS (m : Num) {g : Sgn} : ∀ {t : T}, t.sg g → ∀ {k : Ks}, lin m t k ≠ 0 → k ∈ KS
  | .v x, h, k, hk => by
    have hk : (if k = [.inr x] then (1 : Int) else 0) ≠ 0 := hk
    by_cases e : k = [.inr x]
    · rcases (show x = Str.ofString "x" ∨ x = Str.ofString "y" from h) with z | z <;> rw [e, z] <;> simp
    · rw [if_neg e] at hk; exact absurd rfl hk
  | .c s, h, k, hk => by
    have hk : (if k = [] then (m s).1 else 0) ≠ 0 := hk
    by_cases e : k = []
    · rw [e]; simp
    · rw [if_neg e] at hk; exact absurd rfl hk
  | .u s t, h, k, hk => by
    by_cases e : k = []
    · rw [e]; simp
    · refine lin_KS m (t := t) h.2 fun z => hk ?_
      show (if k = [] then (m s).1 else 0) + (m s).2.1 * lin m t k = 0
      rw [if_neg e, z, Int.mul_zero]; rfl
  | .b s t r, h, k, hk => by
    by_cases e : k = []
    · rw [e]; simp
    · by_cases z : lin m t k = 0
      · refine lin_KS m (t := r) h.2.2 fun z2 => hk ?_
        show (if k = [] then (m s).1 else 0) + (m s).2.1 * lin m t k + (m s).2.2 * lin m r k = 0
        rw [if_neg e, z, z2, Int.mul_zero, Int.mul_zero]; rfl
      · exact lin_KS m (t := t) h.2.1 z
theorem wS_mul (g : Ks → Int) (S : List Ks) (n : Int) (c : Ks → Int) : wS g S (fun k => n * c k) = n * wS g S c := by
  induction S with
  | nil => show (0 : Int) = n * 0; rw [Int.mul_zero]
  | cons k S ih => rw [wS_cons, wS_cons, ih, Int.mul_add, Int.mul_assoc]
theorem wS_nil (ρ : L2.Key → Int) (n : Int) : wS (mono ρ) KS (fun k => if k = [] then n else 0) = n := by
  have h := wS_one (mono ρ) KS_nd (r := ([], n)) (by simp)
  have e : (fun k : Ks => if k = [] then n else 0) = fun k => if (([] : Ks), n).1 = k then (([] : Ks), n).2 else 0 := funext fun k => by
    by_cases z : k = []
    · rw [if_pos z, if_pos z.symm]
    · rw [if_neg z, if_neg fun e => z e.symm]
  rw [e, h]
  show n * mono ρ [] = n
  rw [mono_nil, Int.mul_one]
theorem lin_val (m : Num) (ρ : L2.Key → Int) {g : Sgn} : ∀ {t : T}, t.sg g → wS (mono ρ) KS (lin m t) = lv m ρ t
  | .v x, h => by
    have hm : [Sum.inr x] ∈ KS := by rcases (show x = Str.ofString "x" ∨ x = Str.ofString "y" from h) with z | z <;> rw [z] <;> simp
    have h1 := wS_one (mono ρ) KS_nd (r := ([.inr x], 1)) hm
    have e : lin m (.v x) = fun k => if (([Sum.inr x] : Ks), (1 : Int)).1 = k then (([Sum.inr x] : Ks), (1 : Int)).2 else 0 := funext fun k => by
      show (if k = [.inr x] then (1 : Int) else 0) = _
      by_cases z : k = [.inr x]
      · rw [if_pos z, if_pos z.symm]
      · rw [if_neg z, if_neg fun e => z e.symm]
    rw [e, h1]
    show 1 * mono ρ [.inr x] = ρ (.inr x)
    rw [mono_cons, mono_nil]
    omega
  | .c s, _ => wS_nil ρ _
  | .u s t, h => by
    have ih := lin_val m ρ (t := t) h.2
    show wS (mono ρ) KS (fun k => (if k = [] then (m s).1 else 0) + (m s).2.1 * lin m t k) = _
    rw [wS_add, wS_nil, wS_mul, ih]
    rfl
  | .b s t r, h => by
    have ih := lin_val m ρ (t := t) h.2.1
    have ih2 := lin_val m ρ (t := r) h.2.2
    show wS (mono ρ) KS (fun k => (if k = [] then (m s).1 else 0) + (m s).2.1 * lin m t k + (m s).2.2 * lin m r k) = _
    rw [wS_add, wS_add, wS_nil, wS_mul, wS_mul, ih, ih2]
    rfl
/-- a term's rows -/
structure Lin (m : Num) (t : T) (rows : List Row) : Prop where
  ok : Ok rows
  cf : ∀ k, coef rows k = lin m t k
theorem Lin.ks {m : Num} {t : T} {rows : List Row} {g : Sgn} (h : Lin m t rows) (s : t.sg g) : ∀ k ∈ keysR rows, k ∈ KS := fun k hk => lin_KS m s (by rw [← h.cf]; exact (good_rows h.ok.g k).mp hk)
theorem keys_len (rows : List Row) : (keysR rows).length = rows.length := List.length_map _
theorem Lin.len {m : Num} {t : T} {rows : List Row} {g : Sgn} (h : Lin m t rows) (s : t.sg g) : rows.length ≤ 3 := by
  rw [← keys_len]
  exact nd_len h.ok.g.nd (h.ks s)
theorem Lin.val {m : Num} {t : T} {rows : List Row} {g : Sgn} (h : Lin m t rows) (s : t.sg g) (ρ : L2.Key → Int) : Rh.val ρ rows = lv m ρ t := by
  rw [val_wsum, wsum_S (mono ρ) KS_nd (h.ks s), ← lin_val m ρ s]
  unfold wS
  congr 1
  all_goals exact List.map_congr_left fun k _ => by rw [h.cf]
/-- a sign's own rows -/
structure Own (rows : List Row) (n : Int × Int × Int) (ar : Nat) : Prop where
  ok : Ok rows
  c0 : coef rows [] = n.1
  c1 : coef rows kx0 = n.2.1
  c2 : coef rows kx1 = n.2.2
  ks : ∀ k ∈ keysR rows, k ∈ ([[], kx0, kx1] : List Ks).take (ar + 1)
  bd : ∀ r ∈ rows, 0 < r.2 ∧ r.2 ≤ 3
theorem Own.len {rows : List Row} {n : Int × Int × Int} {ar : Nat} (h : Own rows n ar) : rows.length ≤ 3 := by
  rw [← keys_len]
  exact Nat.le_trans (nd_len h.ok.g.nd fun k hk => List.mem_of_mem_take (h.ks k hk)) (Nat.le_refl _)
/-- what a row of a sign's own adds to the coefficient at k: the parts' own p -/
def gK (p : List (Ks → Int)) (k : Ks) : Ks → Int := fun q => if q = [] then (if k = [] then 1 else 0) else if q = kx0 then (p.getD 0 fun _ => 0) k else if q = kx1 then (p.getD 1 fun _ => 0) k else 0
theorem own_wS {rows : List Row} {n : Int × Int × Int} {ar : Nat} (h : Own rows n ar) (p : List (Ks → Int)) (k : Ks) : wsum (gK p k) rows = (if k = [] then n.1 else 0) + n.2.1 * (p.getD 0 fun _ => 0) k + n.2.2 * (p.getD 1 fun _ => 0) k := by
  have nd : ([[], kx0, kx1] : List Ks).Nodup := by decide +kernel
  rw [wsum_S (gK p k) nd fun k hk => List.mem_of_mem_take (h.ks k hk), wS_cons, wS_cons, wS_cons, h.c0, h.c1, h.c2]
  have e0 : gK p k [] = if k = [] then 1 else 0 := if_pos rfl
  have e1 : gK p k kx0 = (p.getD 0 fun _ => 0) k := by
    unfold gK
    rw [if_neg (by decide), if_pos rfl]
  have e2 : gK p k kx1 = (p.getD 1 fun _ => 0) k := by
    unfold gK
    rw [if_neg (by decide), if_neg (by decide +kernel), if_pos rfl]
  rw [e0, e1, e2, show wS (gK p k) [] (coef rows) = 0 from rfl]
  split <;> omega
theorem srtKs_short {k : Ks} (h : k.length ≤ 1) : srtKs k = k := by
  have p := srtKs_perm k
  match k, h with
  | [], _ => exact List.perm_nil.mp p
  | [x], _ => exact List.perm_singleton.mp p
theorem coef_map_mul (n : Int) {b : List Row} (h : ∀ r ∈ b, r.1.length ≤ 1) (k : Ks) : coef (b.map fun y => (srtKs (([] : Ks) ++ y.1), n * y.2)) k = n * coef b k := by
  induction b with
  | nil => rw [List.map_nil, coef_nil, Int.mul_zero]
  | cons r rs ih =>
    rw [List.map_cons, coef_cons, coef_cons, ih fun r hr => h r (List.mem_cons_of_mem _ hr), List.nil_append, srtKs_short (h r List.mem_cons_self), Int.mul_add]
    congr 1
    split
    · rfl
    · rw [Int.mul_zero]
theorem coef_prod_const {a b : List Row} (ha : ∀ r ∈ a, r.1 = []) (hb : ∀ r ∈ b, r.1.length ≤ 1) (k : Ks) : coef (prodR srtKs a b) k = coef a [] * coef b k := by
  induction a with
  | nil => rw [show prodR srtKs [] b = [] from rfl, coef_nil, coef_nil, Int.zero_mul]
  | cons x xs ih =>
    have e : x.1 = [] := ha x List.mem_cons_self
    rw [show prodR srtKs (x :: xs) b = (b.map fun y => (srtKs (x.1 ++ y.1), x.2 * y.2)) ++ prodR srtKs xs b from rfl, coef_app, ih fun r hr => ha r (List.mem_cons_of_mem _ hr), e, coef_map_mul x.2 hb, coef_cons, e, if_pos rfl, Int.add_mul]
theorem prod_keys {a b : List Row} (ha : ∀ r ∈ a, r.1 = []) (hb : ∀ r ∈ b, r.1.length ≤ 1) {k : Ks} (h : k ∈ keysR (prodR srtKs a b)) : k ∈ keysR b := by
  obtain ⟨r, hr, rfl⟩ := List.mem_map.mp h
  obtain ⟨x, hx, hr⟩ := List.mem_flatMap.mp hr
  obtain ⟨y, hy, rfl⟩ := List.mem_map.mp hr
  show srtKs (x.1 ++ y.1) ∈ keysR b
  rw [ha x hx, List.nil_append, srtKs_short (hb y hy)]
  exact List.mem_map_of_mem (f := (·.1)) hy
end Rh
set_option Elab.async false
set_option linter.all false
set_option maxRecDepth 100000
set_option maxHeartbeats 1000000
/-! of_term -/
namespace Rh
open PySem PySem.Spec PyProof.Rows L2 L2.DX GxR Gx Dl LiI LamX
section
variable {G : List Addr} {H H' : Hp} {C p : Addr} {rows : List Row}
theorem SumAt.updL (s : SumAt C H p rows) {D : Addr} {xs : List V} (h : H D = some (.lst xs)) {o : HO} : SumAt C (upd H D o) p rows := by
  obtain ⟨dx, fs, a, oa, ts, h1, h2, h3, h4, h5⟩ := s
  refine ⟨dx, fs, a, oa, ts, by rw [upd_ne fun z => by rw [z, h] at h1; cases h1]; exact h1, h2, by rw [upd_ne fun z => by rw [z, h] at h3; cases h3]; exact h3, h4, h5.mono (TupK.upd fun xs z => by rw [h] at z; cases z)⟩
/-- the signs' polynomials -/
def SumsAt (C : Addr) (H : Hp) (d : Addr) (g : Sgn) (m : Num) : Prop := ∃ kvs : List (L2.Key × V), H d = some (.dK kvs) ∧ (∀ s ar, g s = some ar → ∃ p rows, valV kvs (.inr s) = some (.ref p) ∧ SumAt C H p rows ∧ Own rows (m s) ar) ∧ ∀ s, g s = none → valV kvs (.inr s) = none
theorem SumsAt.ext {d : Addr} {g : Sgn} {m : Num} (s : SumsAt C H d g m) (t : TabsG G H) (x : Ext G H H') : SumsAt C H' d g m := by
  obtain ⟨kvs, h1, h2, h3⟩ := s
  refine ⟨kvs, x.at t h1 (fun ps z => by cases z), fun s ar h => ?_, h3⟩
  obtain ⟨p, rows, e1, e2, e3⟩ := h2 s ar h
  exact ⟨p, rows, e1, e2.ext t x, e3⟩
def PartR (C : Addr) (H : Hp) (m : Num) (z : Addr) (t : T) : Prop := ∃ rows, SumAt C H z rows ∧ Lin m t rows
theorem paired_snoc {α β : Type} {R : α → β → Prop} {a : α} {b : β} (h : R a b) : ∀ {as : List α} {bs : List β}, Paired R as bs → Paired R (as ++ [a]) (bs ++ [b])
  | _, _, .nil => .cons h .nil
  | _, _, .cons x r => .cons x (paired_snoc h r)
theorem paired_at {α β : Type} {R : α → β → Prop} : ∀ {as : List α} {bs : List β} {i : Nat} {b : β}, Paired R as bs → bs[i]? = some b → ∃ a, as[i]? = some a ∧ R a b
  | _, _, i, b, .nil, e => by simp at e
  | _, _, 0, b, .cons x _, e => by
    simp only [List.getElem?_cons_zero, Option.some.injEq] at e
    subst e
    exact ⟨_, rfl, x⟩
  | _, _, i + 1, b, .cons _ r, e => by
    simp only [List.getElem?_cons_succ] at e ⊢
    exact paired_at r e
theorem lin_own (m : Num) {t : T} (h : t.isV = false) (k : Ks) : (if k = [] then (m t.sgn).1 else 0) + (m t.sgn).2.1 * ((t.parts.map (lin m)).getD 0 fun _ => 0) k + (m t.sgn).2.2 * ((t.parts.map (lin m)).getD 1 fun _ => 0) k = lin m t k := by
  cases t with
  | v x => cases h
  | c s =>
    show (if k = [] then (m s).1 else 0) + (m s).2.1 * 0 + (m s).2.2 * 0 = if k = [] then (m s).1 else 0
    rw [Int.mul_zero, Int.mul_zero, Int.add_zero, Int.add_zero]
  | u s t =>
    show (if k = [] then (m s).1 else 0) + (m s).2.1 * lin m t k + (m s).2.2 * 0 = (if k = [] then (m s).1 else 0) + (m s).2.1 * lin m t k
    rw [Int.mul_zero, Int.add_zero]
  | b s t r => rfl
theorem sg_ar {g : Sgn} {t : T} (h : t.isV = false) (s : t.sg g) : g t.sgn = some t.parts.length := by
  cases t with
  | v x => cases h
  | c s' => exact s
  | u s' t => exact s.1
  | b s' t r => exact s.1
theorem sg_parts {g : Sgn} {t p : T} (s : t.sg g) (h : p ∈ t.parts) : p.sg g := by
  cases t with
  | v x => cases h
  | c s' => cases h
  | u s' t =>
    rw [T.parts, List.mem_singleton] at h
    rw [h]; exact s.2
  | b s' t r =>
    rw [T.parts, List.mem_cons, List.mem_singleton] at h
    rcases h with h | h <;> rw [h]
    · exact s.2.1
    · exact s.2.2
theorem parts_len (t : T) : t.parts.length ≤ 2 := by cases t <;> simp [T.parts]
def xN (i : Nat) : Str := if i = 0 then Str.ofString "x0" else Str.ofString "x1"
theorem xN_int {i : Nat} (h : i < 2) : PySem.intText? (cutS (xN i) (some 1) none) = some (i : Int) ∧ (cutS (xN i) (some 1) none).length ≤ 640 ∧ (xN i).length ≤ 640 := by
  match i, h with
  | 0, _ => exact ⟨by decide +kernel, by decide +kernel, by decide +kernel⟩
  | 1, _ => exact ⟨by decide +kernel, by decide +kernel, by decide +kernel⟩
theorem own_key {n : Int × Int × Int} {ar : Nat} (h : Own rows n ar) {r : Row} (hr : r ∈ rows) : r.1 = [] ∨ ∃ i, i < ar ∧ i < 2 ∧ r.1 = [.inr (xN i)] := by
  have hk := h.ks r.1 (List.mem_map_of_mem (f := (·.1)) hr)
  match ar with
  | 0 =>
    simp only [List.take, List.mem_cons, List.not_mem_nil, or_false] at hk
    exact .inl hk
  | 1 =>
    simp only [List.take, List.mem_cons, List.not_mem_nil, or_false] at hk
    rcases hk with hk | hk
    · exact .inl hk
    · exact .inr ⟨0, by omega, by omega, hk⟩
  | k + 2 =>
    simp only [List.take, List.take_nil, List.mem_cons, List.not_mem_nil, or_false] at hk
    rcases hk with hk | hk | hk
    · exact .inl hk
    · exact .inr ⟨0, by omega, by omega, hk⟩
    · exact .inr ⟨1, by omega, by omega, hk⟩
theorem gK_nil (p : List (Ks → Int)) (k : Ks) : gK p k [] = if k = [] then 1 else 0 := if_pos rfl
theorem gK_x (p : List (Ks → Int)) (k : Ks) {i : Nat} (h : i < 2) : gK p k [.inr (xN i)] = (p.getD i fun _ => 0) k := by
  match i, h with
  | 0, _ => unfold gK; rw [if_neg (by decide), if_pos (show [Sum.inr (xN 0)] = kx0 from rfl)]
  | 1, _ => unfold gK; rw [if_neg (by decide), if_neg (by decide +kernel), if_pos (show [Sum.inr (xN 1)] = kx1 from rfl)]
theorem nz_one {k : Ks} {n : Int} (h : n ≠ 0) : srtR (nzR [(k, n)]) = [(k, n)] := by
  have e : nzR [(k, n)] = [(k, n)] := by simp [nzR, h]
  have p := srtR_perm (nzR [(k, n)])
  rw [e] at p ⊢
  exact List.perm_singleton.mp p
theorem wsum_snoc (g : Ks → Int) {i : Nat} {r : Row} (h : rows[i]? = some r) : wsum g (rows.take (i + 1)) = wsum g (rows.take i) + r.2 * g r.1 := by
  rw [take_snoc h, wsum_app, wsum_cons]
  show _ + (r.2 * g r.1 + 0) = _
  rw [Int.add_zero]
end
section
variable {P : Program} {w : World} {K : PySem.W.Frag} {mg : Str → Option Value} {base : Heap} {G : List Addr} {f c C fi : Addr} {fd fdi : FuncData}
/-- Sum([(names, number)]) -/
theorem run_one {σ : L2.St} {H : Hp} {te tn : TE} {k : Ks} {n : Int} {E2 : XK} {Q : VK} (tG : TabsG G H) (ht : ∀ x ∈ k, ∃ z : Str, x = .inr z) (hk : ∀ Q : VK, (∀ b H1, Ext G H H1 → H1 b = some (.tup (k.map kV)) → Q (.ref b) H1) → te σ H Q) (hn : ∀ H1, Ext G H H1 → ∀ Q : VK, (∀ H2, Ext G H1 H2 → Q (.int n) H2) → tn σ H1 Q)
    (q : ∀ z H', Ext G H H' → SumAt C H' z (srtR (nzR [(k, n)])) → Q (.ref z) H') : tMake C (spSI G K C) [] E2 (tCons (tLst (tCons (tTup (tCons te (tCons tn tNil))) tNil)) tNil) σ H Q := by
  refine s_makeR (s_consQ ?_)
  show te σ H _
  refine hk _ fun b H1 y1 eb => ?_
  show tn σ H1 _
  refine hn H1 y1 _ fun H2 y2 => ?_
  have t2 := tG.ext (y1.trans y2)
  refine ⟨by show 2 ≤ sizeLine; decide, fun u hu => ?_⟩
  have y3 : Ext G H2 (upd H2 u (.tup [.ref b, .int n])) := Ext.new hu
  have eu : upd H2 u (.tup [.ref b, .int n]) u = some (.tup [.ref b, .int n]) := upd_same
  have eb3 := (y2.trans y3).at (tG.ext y1) eb (fun ps z => by cases z)
  generalize upd H2 u (.tup [.ref b, .int n]) = H3 at y3 eu eb3 ⊢
  refine ⟨by show 1 ≤ sizeLine; decide, fun l hl => ?_⟩
  have y4 : Ext G H3 (upd H3 l (.lst [.ref u])) := Ext.new hl
  have t3 := t2.ext y3
  have el : upd H3 l (.lst [.ref u]) l = some (.lst ([u].map V.ref)) := upd_same
  have hr : RowsAt (upd H3 l (.lst [.ref u])) [u] [(k, n)] := .cons ⟨b, y4.at t3 eu (fun ps z => by cases z), y4.at t3 eb3 (fun ps z => by cases z)⟩ .nil
  generalize upd H3 l (.lst [.ref u]) = H4 at y4 el hr ⊢
  have yy := ((y1.trans y2).trans y3).trans y4
  show ∀ x dx, H4 x = none → H4 dx = none → dx ≠ x → spSI G K C (.ref x :: ([.ref l] ++ [])) (upd (upd H4 dx (.own x)) x (.ins C dx [])) (fun v H2 => v = .non ∧ Q (.ref x) H2) E2
  exact mk_core (t3.ext y4) el hr (by show 1 ≤ 1000; decide) (fun r hr x hx => by rw [List.mem_singleton.mp hr] at hx; exact ht x hx) fun z H5 y5 s => q z H5 (yy.trans y5) s
/-- Sum([]) -/
theorem run_none {σ : L2.St} {H : Hp} {E2 : XK} {Q : VK} (tG : TabsG G H) (q : ∀ z H', Ext G H H' → SumAt C H' z [] → Q (.ref z) H') : tMake C (spSI G K C) [] E2 (tCons (tLst tNil) tNil) σ H Q := by
  refine s_makeR (s_consQ ?_)
  refine ⟨Nat.zero_le _, fun l hl => ?_⟩
  have y4 : Ext G H (upd H l (.lst [])) := Ext.new hl
  have el : upd H l (.lst []) l = some (.lst (([] : List Addr).map V.ref)) := upd_same
  generalize upd H l (.lst []) = H4 at y4 el ⊢
  show ∀ x dx, H4 x = none → H4 dx = none → dx ≠ x → spSI G K C (.ref x :: ([.ref l] ++ [])) (upd (upd H4 dx (.own x)) x (.ins C dx [])) (fun v H2 => v = .non ∧ Q (.ref x) H2) E2
  exact mk_core (rows := []) (tG.ext y4) el .nil (Nat.zero_le _) (fun r hr => by cases hr) fun z H5 y5 s => q z H5 (y4.trans y5) (by
    have e : srtR (nzR ([] : List Row)) = [] := List.perm_nil.mp (srtR_perm _)
    rw [e] at s
    exact s)
def spOf (G : List Addr) (K : PySem.W.Frag) (C : Addr) (n : Nat) : Sp := fun vs H Q _ => TabsG G H ∧ ∃ (v : V) (d : Addr) (t : T) (g : Sgn) (m : Num), vs = [v, .ref d] ∧ Dp K H v (enc t) ∧ SumsAt C H d g m ∧ t.ok ∧ t.dp < n ∧ n ≤ 12 ∧ t.sg g ∧
  ∀ z rows H', Ext G H H' → SumAt C H' z rows → Lin m t rows → Q (.ref z) H'
abbrev NO : List Str := ["term", "sums", "parts", "part", "found", "names", "number", "whole", "name"]
theorem sc_of : FnScope NO ["term", "sums"] (defScope s_of_term) := ⟨rfl, rfl, rfl, by decide +kernel, rfl, by decide +kernel, by decide +kernel⟩
end
end Rh
set_option Elab.async false
set_option linter.all false
set_option maxRecDepth 100000
set_option maxHeartbeats 2000000
/-! of_term -/
namespace Rh
open PySem PySem.Spec PyProof.Rows L2 L2.DX GxR Gx Dl LiI LamX
section
variable {P : Program} {w : World} {K : PySem.W.Frag} {mg : Str → Option Value} {base : Heap} {G : List Addr} {f c C fi : Addr} {fd fdi : FuncData}
theorem cl_of (D : DefF K mg base G "of_term" s_of_term ["term", "sums"] f fd) (T : SumC K C) (M : Mk K C fi) (I : FnOk P w K mg base CX0 2 fi fdi ["self", "rows"] (spSI G K C)) (mS : mg "Sum" = some (.ref C)) (b : Binds K fdi ["self", "rows"] []) (iv : IV P w K mg base G)
    (ad : Cl0 P w K mg base 4 "add" (spAdd G C)) (ti : Cl0 P w K mg base 4 "times" (spTimes G C)) (m1 : mg "int" = none) : ∀ n, Cl0 P w K mg base (n + 6) "of_term" (spOf G K C n)
  | 0 => (DefF.noneS D fun vs H Q E ⟨_, v, d, t, g, m, _, _, _, _, h, _⟩ => Nat.not_lt_zero _ h).mono (Nat.zero_le _)
  | n + 1 => by
    have ih := cl_of D T M I mS b iv ad ti m1 n
    refine D.clS (k := n + 6) sc_of (fun vs H Q E h => by obtain ⟨_, _, _, _, _, _, rfl, _⟩ := h; rfl) fun c Pt A outer s H vs Q E TB hP hr h => ?_
    refine ⟨_, pss_cons (ps_if (pt_val (pe_cl iv (hr.mono (by omega)) rfl (pa_cons (pv 0) pa_nil))) (pss_one (ps_ret (pe_make M I (hr.mono (by omega)) (by rfl) mS b .nil pass0 (pa_cons (pe_lst (pa_cons (pe_tup (pa_cons (pe_tup (pa_cons (pv 0) pa_nil)) (pa_cons pe_int pa_nil))) pa_nil)) pa_nil)))) pss_nil)
      (pss_cons (ps_if (pt_cmp (pc_dnotin (hu_of hr) (pe_ix ix_tup (pv 0) pe_int (fun _ _ => rfl)) (pv 1))) (pss_one ps_never) pss_nil)
      (pss_cons (ps_setLc (i := 2) (own := [("part", 3)]) (g := gName 3) (tt := tYes) rfl sc_of.nd rfl rfl (sw_true rfl rfl rfl rfl) (pi_tup (pe_ix ix_tup (pv 0) pe_int (fun _ _ => rfl))) (blkOk_by (N := NO) (sc := defScope s_of_term) (by decide +kernel))
        (fun _ _ _ _ _ => pg_name (i := 3) sc_of.nd rfl (Or.inl rfl)) (fun _ _ _ _ _ => pts_nil) (fun _ _ _ _ _ => pe_cl ih (hr.mono (by omega)) rfl (pa_cons (pv 3) (pa_cons (pv 1) pa_nil))))
      (pss_cons (ps_set (i := 4) sc_of.nd rfl (Or.inl rfl) (pe_make M I (hr.mono (by omega)) (by rfl) mS b .nil pass0 (pa_cons (pe_lst pa_nil) pa_nil)))
      (pss_cons (ps_for PassesOwn.never rfl (pi_tup (pe_fld (pe_dget (hu_of hr) (pv 1) (pe_ix ix_tup (pv 0) pe_int (fun _ _ => rfl)) (fun _ _ => rfl)) rfl)) (pg_tup rfl (pgs_cons (pg_name (i := 5) sc_of.nd rfl (Or.inl rfl)) (pgs_cons (pg_name (i := 6) sc_of.nd rfl (Or.inl rfl)) pgs_nil)))
        (pss_cons (ps_set (i := 7) sc_of.nd rfl (Or.inl rfl) (pe_make M I (hr.mono (by omega)) (by rfl) mS b .nil pass0 (pa_cons (pe_lst (pa_cons (pe_tup (pa_cons (pe_tup pa_nil) (pa_cons (pv 6) pa_nil))) pa_nil)) pa_nil)))
        (pss_cons (ps_for PassesOwn.never rfl (pi_tup (pv 5)) (pg_name (i := 8) sc_of.nd rfl (Or.inl rfl)) (pss_one (ps_set (i := 7) sc_of.nd rfl (Or.inl rfl) (pe_cl ti (hr.mono (by omega)) rfl (pa_cons (pv 7) (pa_cons (pe_ix ix_list (pv 2) (pe_callTy call_int_str (by rfl) m1 (by decide +kernel) (pa_cons (pe_slice sl_str (pv 8) (po_some pe_int) po_none) pa_nil)) (fun _ _ => rfl)) pa_nil))))))
        (pss_one (ps_set (i := 4) sc_of.nd rfl (Or.inl rfl) (pe_cl ad (hr.mono (by omega)) rfl (pa_cons (pv 4) (pa_cons (pv 7) pa_nil))))))))
      (pss_one (ps_ret (pv 4))))))), ?_⟩
    obtain ⟨tG, v, d, t, g, m, rfl, rv, sm, o, hd, hn, sg, q⟩ := h
    have v0 : ∀ {H' u a b c d e f h}, Ext G H H' → Ed G K (tVar 0) [some v, u, a, b, c, d, e, f, h] H' (enc t) := fun y => ed_var (tG.ext y) rfl (dp_ext y tG rv)
    refine s_ifR (edt_val (ed_iv tG o (v0 (Ext.refl G H)))) (fun h H2 y => ?_) fun h H2 y => ?_
    · cases t with
      | v x =>
        have ex : v = .str x := dp_str rv
        subst ex
        have t2 := tG.ext y
        refine run_one (K := K) (G := G) (k := [.inr x]) (n := 1) t2 (fun z hz => by rw [List.mem_singleton.mp hz]; exact ⟨_, rfl⟩) (fun Q q => ⟨.str x, rfl, by show 1 ≤ sizeLine; decide, fun p hp => q p _ (Ext.new hp) upd_same⟩) (fun H1 _ Q q => q H1 (Ext.refl G H1)) fun z H3 y3 sz => ?_
        rw [nz_one (by decide)] at sz
        refine q z _ H3 (y.trans y3) sz ⟨⟨⟨by simp [keysR], fun r hr => by rw [List.mem_singleton.mp hr]; exact Int.one_ne_zero⟩, fun r hr w hw => by rw [List.mem_singleton.mp hr] at hw; rw [List.mem_singleton.mp hw]; exact ⟨_, rfl⟩⟩, fun k => ?_⟩
        rw [coef_cons, coef_nil, Int.add_zero]
        show (if [Sum.inr x] = k then (1 : Int) else 0) = if k = [Sum.inr x] then 1 else 0
        by_cases e : k = [Sum.inr x]
        · rw [if_pos e, if_pos e.symm]
        · rw [if_neg e, if_neg fun z => e z.symm]
      | c _ => cases h
      | u _ _ => cases h
      | b _ _ _ => cases h
    have t2 := tG.ext y
    have gs := sg_ar h sg
    have sm2 := sm.ext tG y
    obtain ⟨kvs, ed, sm3, -⟩ := id sm2
    obtain ⟨ps, rs, es, ss, ow⟩ := sm3 _ _ gs
    refine s_ifR (G := G) (b := false) (fun H1 x1 Q qq => ?_) (fun z => by cases z) fun _ H3 y3 => ?_
    · refine (ed_sgn (tG.ext (y.trans x1)) h (v0 (y.trans x1))) H1 (Ext.refl G H1) _ fun w H4 y4 rw_ => ?_
      rw [dp_str rw_]
      refine ⟨.ref d, rfl, d, valV kvs (.inr t.sgn), rfl, DGet.k (k := .inr t.sgn) ((x1.trans y4).at t2 ed (fun ps z => by cases z)), _, rfl, ?_⟩
      rw [es]
      exact qq H4 y4
    have yb := y.trans y3
    have t3 := tG.ext yb
    refine s_seq ?_
    dsimp only [gName]
    refine (ed_parts t3 h (v0 yb)) H3 (Ext.refl G H3) _ fun w1 H4 x4 rw1 => ?_
    obtain ⟨a, xs, rfl, hs, hrr⟩ := dp_tup rw1
    have yc := yb.trans x4
    have t4 := tG.ext yc
    refine ⟨a, rfl, ⟨xs, hs⟩, fun L hL => ?_⟩
    have lx : xs.length = t.parts.length := by
      have := dpA_len hrr
      rw [List.length_map] at this
      exact this
    have pl := parts_len t
    refine lc_tup (a := a) (xs := xs) (fun k Hk => Ext G H4 Hk ∧ ∃ zs : List Addr, Hk L = some (.lst (zs.map V.ref)) ∧ zs.length = k ∧ Paired (PartR C Hk m) zs (t.parts.take k))
      ⟨Ext.new hL, [], upd_same, rfl, .nil⟩ (fun k Hk _ z => z.1.sqT t4 hs) (fun k yv Hk hk z => ?_) (fun Hk z => ?_)
    · obtain ⟨y1, zs, e1, e2, e3⟩ := z
      obtain ⟨dd, hd2, rd⟩ := dpA_getV hrr hk
      rw [List.getElem?_map] at hd2
      obtain ⟨p, hp, rfl⟩ := Option.map_eq_some_iff.mp hd2
      have mp := List.mem_of_getElem? hp
      have hk2 := (List.getElem?_eq_some_iff.mp hp).1
      have tk := t4.ext y1
      refine ⟨rfl, ?_⟩
      dsimp only [tYes]
      rw [if_pos rfl]
      refine tcall2 (v := yv) (u := .ref d) (fun Q q => ⟨yv, rfl, q⟩) (fun Q q => ⟨.ref d, rfl, q⟩) ?_
      refine ⟨tk, yv, d, p, g, m, rfl, dp_ext y1 t4 rd, sm.ext tG (yc.trans y1), Rh.T.ok_parts o mp, by have := Rh.T.dp_parts mp; omega, by omega, sg_parts sg mp, fun z rows H5 y5 sz lz => ?_⟩
      have e5 := y5.at tk e1 (fun ps z => by cases z)
      refine ⟨_, e5, by rw [List.length_map, e2]; exact Nat.lt_of_lt_of_le (show k < 2 by omega) (by decide), (y1.trans y5).mut hL e5 (fun ps z => by cases z), zs ++ [z], by rw [upd_same, List.map_append]; rfl, by simp [e2], ?_⟩
      rw [take_snoc hp]
      exact paired_snoc ⟨rows, sz.updL e5, lz⟩ (Paired.mapP e3 fun z t ⟨rows, a1, a2⟩ => ⟨rows, (a1.ext tk y5).updL e5, a2⟩)
    obtain ⟨y4, zs, eL, ln, pr⟩ := z
    rw [lx, List.take_length] at pr
    have yd := yc.trans y4
    have t5 := tG.ext yd
    dsimp only
    refine s_seq ?_
    refine run_none (K := K) t5 fun z0 H6 y6 s0 => ?_
    have ye := yd.trans y6
    have t6 := tG.ext ye
    dsimp only [gName]
    refine s_seq (s_for ?_)
    refine ⟨.ref d, rfl, ?_⟩
    refine (ed_sgn t6 h (v0 ye)) H6 (Ext.refl G H6) _ fun w H7 y7 rw_ => ?_
    rw [dp_str rw_]
    have yf := ye.trans y7
    have t7 := tG.ext yf
    have sm7 := sm.ext tG yf
    obtain ⟨kvs7, ed7, sm37, -⟩ := id sm7
    obtain ⟨ps7, rs7, es7, ss7, ow7⟩ := sm37 _ _ gs
    clear ow ss es sm3 ed
    obtain ⟨dx1, fs1, a1, oa1, ts1, e11, e12, e13, e14, e15⟩ := ss7
    have len1 := e15.len
    have pr7 : Paired (PartR C H7 m) zs t.parts := Paired.mapP pr fun z t ⟨rows, a1, a2⟩ => ⟨rows, a1.ext t5 (y6.trans y7), a2⟩
    have eL7 := (y6.trans y7).at t5 eL (fun ps z => by cases z)
    refine ⟨d, .ref ps7, rfl, by rw [← es7]; exact DGet.k (k := .inr t.sgn) ed7, ?_⟩
    refine ⟨ps7, C, dx1, fs1, .ref a1, rfl, e11, T.cl, T.n1, e12, ?_⟩
    refine ⟨a1, rfl, ⟨_, .inl (.inr ⟨_, e13⟩)⟩, for_tup (K := K) (a := a1) (xs := ts1.map V.ref) (fun i σ' H' => ∃ o5 o6 o7 o8 z rows, σ' = [some v, some (.ref d), some (.ref L), none, some (.ref z), o5, o6, o7, o8] ∧ Ext G H7 H' ∧ SumAt C H' z rows ∧ Ok rows ∧ (∀ k, coef rows k = wsum (gK (t.parts.map (lin m)) k) (rs7.take i)) ∧ (∀ k ∈ keysR rows, k ∈ KS))
      ⟨none, none, none, none, z0, [], rfl, Ext.refl G H7, s0.ext t6 y7, ⟨⟨List.nodup_nil, fun r hr => by cases hr⟩, fun r hr => by cases hr⟩, fun k => rfl, fun k hk => by cases hk⟩ (fun i σ' H' _ ⟨_, _, _, _, _, _, _, e, _⟩ => .inl (.inr ⟨_, e.at t7 e13 (fun ps z => by cases z)⟩)) (fun i vv σ' H' hv hp => ?_) (fun σ' H' hp => ?_)⟩
    · obtain ⟨o5, o6, o7, o8, z, rows, rfl, yi, sz, ok, cf, ks⟩ := hp
      rw [List.getElem?_map] at hv
      obtain ⟨u, hu, rfl⟩ := Option.map_eq_some_iff.mp hv
      obtain ⟨r, er, bb, b1, b2⟩ := e15.get hu
      have b1 : H7 u = some (.tup [.ref bb, .int r.2]) := b1
      have b2 : H7 bb = some (.tup (r.1.map kV)) := b2
      have mr : r ∈ rs7 := List.mem_of_getElem? er
      have bd := ow7.bd r mr
      have ti' := t7.ext yi
      refine ⟨u, [.ref bb, .int r.2], rfl, .inl (.inl (yi.at t7 b1 (fun ps z => by cases z))), rfl, .ref bb, [.int r.2], rfl, .int r.2, [], rfl, rfl, ?_⟩
      refine s_seq ?_
      refine run_one (K := K) (G := G) (k := []) (n := r.2) ti' (fun x hx => by cases hx) (fun Q q => ⟨Nat.zero_le _, fun p hp => q p _ (Ext.new hp) upd_same⟩) (fun H1 y1 Q q => ⟨.int r.2, rfl, q H1 (Ext.refl G H1)⟩) fun z1 H8 y8 s1 => ?_
      rw [nz_one (show r.2 ≠ 0 by omega)] at s1
      have y78 := yi.trans y8
      have t8 := t7.ext y78
      dsimp only [gName]
      refine s_seq (s_for ?_)
      refine ⟨.ref bb, rfl, bb, rfl, ⟨_, .inl (.inl (y78.at t7 b2 (fun ps z => by cases z)))⟩, for_tup (K := K) (a := bb) (xs := r.1.map kV) (fun j σ' H' => ∃ o8 z2 rows2, σ' = [some v, some (.ref d), some (.ref L), none, some (.ref z), some (.ref bb), some (.int r.2), some (.ref z2), o8] ∧ Ext G H8 H' ∧ SumAt C H' z2 rows2 ∧ Ok rows2 ∧ (∀ k ∈ keysR rows2, k ∈ KS) ∧ (j = 0 → rows2 = [([], r.2)]) ∧ (0 < j → ∀ k, coef rows2 k = r.2 * gK (t.parts.map (lin m)) k r.1))
        ⟨o8, z1, [([], r.2)], rfl, Ext.refl G H8, s1, ⟨⟨by simp [keysR], fun q hq => by rw [List.mem_singleton.mp hq]; show r.2 ≠ 0; omega⟩, fun q hq x hx => by rw [List.mem_singleton.mp hq] at hx; cases hx⟩, fun k hk => by rw [show k = [] from List.mem_singleton.mp hk]; exact List.mem_cons_self, fun _ => rfl, fun z => absurd z (by decide)⟩ (fun j σ' H' _ ⟨_, _, _, _, e, _⟩ => .inl (.inl ((y78.trans e).at t7 b2 (fun ps z => by cases z)))) (fun j vv σ' H9 hv hp => ?_) (fun σ' H9 hp => ?_)⟩
      · obtain ⟨o8', z2, rows2, rfl, y9, s2, ok2, ks2, j0, j1⟩ := hp
        rw [List.getElem?_map] at hv
        obtain ⟨x, hx, rfl⟩ := Option.map_eq_some_iff.mp hv
        rcases own_key ow7 mr with ek | ⟨i0, hi1, hi2, ek⟩
        · rw [ek] at hx
          simp at hx
        have hj : j = 0 := by
          have := (List.getElem?_eq_some_iff.mp hx).1
          rw [ek] at this
          simp at this
          exact this
        subst hj
        rw [ek] at hx
        simp only [List.getElem?_cons_zero, Option.some.injEq] at hx
        subst hx
        obtain ⟨c1, c2, c3⟩ := xN_int hi2
        obtain ⟨p, hp⟩ : ∃ p, t.parts[i0]? = some p := ⟨_, List.getElem?_eq_getElem hi1⟩
        obtain ⟨zp, hzp, rp, sp, lp⟩ := paired_at pr7 hp
        have mp := List.mem_of_getElem? hp
        have y79 := y78.trans y9
        have t9 := t7.ext y79
        have eL9 := y79.at t7 eL7 (fun ps z => by cases z)
        have lpl := lp.len (sg_parts sg mp)
        refine tcall2 (v := .ref z2) (u := .ref zp) (fun Q q => ⟨.ref z2, rfl, q⟩) (fun Q q => ?_) ?_
        · refine ⟨.ref L, rfl, .str (xN i0), rfl, 1, rfl, xN i0, rfl, Nat.le_trans c3 (by decide), _, i0, rfl, c1, c2, L, zs.map V.ref, i0, .ref zp, rfl, rfl, SqL.of eL9, atI_get (Int.natCast_nonneg i0) ?_, q⟩
          rw [Int.toNat_natCast, List.getElem?_map, hzp]
          rfl
        have r2e := j0 rfl
        subst r2e
        refine ⟨t9, z2, zp, _, rp, rfl, s2, sp.ext t7 y79, ok2, lp.ok, by show 1 ≤ 20; decide, by omega, fun q hq => ?_, fun q hq => ?_, fun q hq => ?_, fun z3 rows3 H10 y10 s3 ok3 cf3 ks3 => ?_⟩
        · rw [List.mem_singleton.mp hq]
          show -(2 ^ 60) < r.2 ∧ r.2 < 2 ^ 60
          omega
        · rw [List.mem_singleton.mp hq]
          exact Nat.zero_le _
        · exact Nat.le_trans (KS_short (lp.ks (sg_parts sg mp) q.1 (List.mem_map_of_mem (f := (·.1)) hq))) (by decide)
        have a0 : ∀ q ∈ [(([] : Ks), r.2)], q.1 = [] := fun q hq => by rw [List.mem_singleton.mp hq]
        have bs : ∀ q ∈ rp, q.1.length ≤ 1 := fun q hq => KS_short (lp.ks (sg_parts sg mp) q.1 (List.mem_map_of_mem (f := (·.1)) hq))
        refine ⟨_, z3, rows3, rfl, y9.trans y10, s3, ok3, fun k hk => lp.ks (sg_parts sg mp) k (prod_keys a0 bs (ks3 k hk)), (fun z => absurd z (Nat.succ_ne_zero 0)), fun _ k => ?_⟩
        rw [cf3, coef_prod_const a0 bs, lp.cf, ek, gK_x _ _ hi2, coef_cons, coef_nil, if_pos rfl, Int.add_zero]
        congr 1
        rw [List.getD_eq_getElem?_getD, List.getElem?_map, hp]
        rfl
      · obtain ⟨o8', z2, rows2, rfl, y9, s2, ok2, ks2, j0, j1⟩ := hp
        have cf2 : ∀ k, coef rows2 k = r.2 * gK (t.parts.map (lin m)) k r.1 := by
          rcases own_key ow7 mr with ek | ⟨i0, hi1, hi2, ek⟩
          · intro k
            rw [j0 (by rw [ek]; rfl), ek, gK_nil, coef_cons, coef_nil, Int.add_zero]
            by_cases z : k = []
            · rw [if_pos z, if_pos z.symm, Int.mul_one]
            · rw [if_neg z, if_neg fun e => z e.symm, Int.mul_zero]
          · exact j1 (by rw [ek]; exact Nat.one_pos)
        have y79 := yi.trans (y8.trans y9)
        have t9 := t7.ext y79
        have l1 : rows.length ≤ 3 := by rw [← keys_len]; exact nd_len ok.g.nd ks
        have l2 : rows2.length ≤ 3 := by rw [← keys_len]; exact nd_len ok2.g.nd ks2
        dsimp only
        refine tcall2 (v := .ref z) (u := .ref z2) (fun Q q => ⟨.ref z, rfl, q⟩) (fun Q q => ⟨.ref z2, rfl, q⟩) ?_
        refine ⟨t9, z, z2, rows, rows2, rfl, sz.ext ti' (y8.trans y9), s2, ok, ok2, by omega, by omega, fun z3 rows3 H10 y10 s3 ok3 cf3 ks3 => ?_⟩
        refine ⟨_, _, _, _, z3, rows3, rfl, y79.trans y10, s3, ok3, fun k => ?_, fun k hk => ?_⟩
        · rw [cf3, cf, cf2, wsum_snoc _ er]
        · rcases ks3 k hk with z | z
          · exact ks k z
          · exact ks2 k z
    · obtain ⟨o5, o6, o7, o8, z, rows, rfl, yi, sz, ok, cf, ks⟩ := hp
      refine ⟨_, rfl, q z rows H' (yf.trans yi) sz ⟨ok, fun k => ?_⟩⟩
      rw [cf, List.length_map, len1, List.take_length, own_wS ow7]
      exact lin_own m h k
end
end Rh
set_option Elab.async false
set_option linter.all false
set_option maxRecDepth 100000
set_option maxHeartbeats 2000000
/-! of_term of a sign without a polynomial; _law_told; _law_value -/
namespace Rh
open PySem PySem.Spec PyProof.Rows L2 L2.DX GxR Gx Dl LiI LamX
section
variable {P : Program} {w : World} {K : PySem.W.Frag} {mg : Str → Option Value} {base : Heap} {G : List Addr} {f c C fi CB : Addr} {fd fdi : FuncData}
theorem DefF.clSX {x : Str} {st : Stmt} {f : Addr} {fd : FuncData} {N ps : List Str} {k : Nat} {sp : Sp} (D : DefF K mg base G x st ps f fd) (S : FnScope N ps (defScope st)) (len : ∀ vs H Q E, sp vs H Q E → vs.length = ps.length)
    (hbody : ∀ (c Pt : Addr) (A : Around) (outer : List Env) (s : Shared) (H : Hp) (vs : List V) (Q : VK) (E : XK), GxR.TabB base mg c Pt → Pt ∈ G → Room k (A.deeper (envOfC x (defScope st) s.heap.objs.size f (.ref c))) → sp vs H Q E →
      ∃ t, PSs (cxOf (L2.CX P w) P w K mg base N x (defScope st) f (.ref c) A outer s H E) (defBody st) t ∧ t { nx := fun _ H' => Q .non H', rt := Q } (start N vs) H) : ClX P w K mg base (k + 1) x sp := by
  obtain ⟨c, Pt, F, TB, hP⟩ := D.cP
  refine ⟨f, fd, ps, ?_, D.m, F.kp, D.b⟩
  obtain ⟨oc, od, kV, doc, pm, an, ct, osl, rfl, lk, hcd⟩ := F.ex
  refine fn_of lk hcd S len fun A outer s H vs Q E hr hsp => ?_
  exact hbody c Pt A outer s H vs Q E TB hP hr hsp
def spOfE (G : List Addr) (K : PySem.W.Frag) (CB : Addr) : Sp := fun vs H _ E => TabsG G H ∧ ∃ (v : V) (d : Addr) (s : Str) (kvs : List (L2.Key × V)), vs = [v, .ref d] ∧ Dp K H v (enc (.c s)) ∧ PyData.strOk s = true ∧ H d = some (.dK kvs) ∧ valV kvs (.inr s) = none ∧ ∀ H', Ext G H H' → E (.ref CB) Option.none H'
theorem clx_of (D : DefF K mg base G "of_term" s_of_term ["term", "sums"] f fd) (iv : IV P w K mg base G) (gP : mg "BadRule" = some (.ref CB)) (kP : PySem.W.keepIn K (.ref CB) = true)
    (mk : ∀ {X : Cx} {m : Str} {j : Nat} {p p2 pos : Pos}, X.K = K → X.mg = mg → Gl X "BadRule" → PMk X (.Call (.Name "BadRule" p) [.Constant (.str m) j p2] [] pos) (fun _ H Q => Q (.ref CB) none H)) : ClX P w K mg base 4 "of_term" (spOfE G K CB) := by
  refine DefF.clSX D (k := 3) sc_of (fun vs H Q E h => by obtain ⟨_, _, _, _, _, rfl, _⟩ := h; rfl) fun c Pt A outer s H vs Q E TB hP hr h => ?_
  refine ⟨_, pss_cons (ps_if (PT.nox (pt_val (pe_cl iv (hr.mono (by omega)) rfl (pa_cons (pv 0) pa_nil)))) (pss_one ps_never) pss_nil)
      (pss_cons (ps_if (pt_cmp (pc_dnotin (hu_of hr) (pe_ix ix_tup (pv 0) pe_int (fun _ _ => rfl)) (pv 1))) (pss_one (ps_raise rfl (takes_of rfl rfl rfl rfl) (mk rfl rfl rfl))) pss_nil)
      (pss_cons ps_never (pss_cons ps_never (pss_cons ps_never (pss_one ps_never))))), ?_⟩
  obtain ⟨tG, v, d, s', kvs, rfl, rv, ok, ed, ev, q⟩ := h
  have o : (T.c s').ok := ok
  have v0 : ∀ {H' u a b c d e f h}, Ext G H H' → Ed G K (tVar 0) [some v, u, a, b, c, d, e, f, h] H' (enc (.c s')) := fun y => ed_var (tG.ext y) rfl (dp_ext y tG rv)
  refine s_ifR (b := false) (edt_val (ed_iv tG o (v0 (Ext.refl G H)))) (fun h => by cases h) fun _ H2 y => ?_
  have t2 := tG.ext y
  refine s_ifR (G := G) (b := true) (fun H1 x1 Q qq => ?_) (fun _ H3 y3 => ?_) (fun z => by cases z)
  · refine (ed_sgn (tG.ext (y.trans x1)) (show (T.c s').isV = false from rfl) (v0 (y.trans x1))) H1 (Ext.refl G H1) _ fun w H4 y4 rw_ => ?_
    rw [dp_str rw_]
    refine ⟨.ref d, rfl, d, valV kvs (.inr s'), rfl, DGet.k (k := .inr s') ((y.trans (x1.trans y4)).at tG ed (fun ps z => by cases z)), _, rfl, ?_⟩
    rw [ev]
    exact qq H4 y4
  · exact q H3 (y.trans y3)
/-- what _law_told makes of a BadRule -/
def TTrule (C : Addr) : (XK → Hp → VK → Prop) → Hp → VK → Prop := fun tl H Q => tl (fun cls _ H' => cls = .ref C ∧ Q (.str (Str.ofString "rule")) H') H Q
theorem told_rule {X : Cx} {q : Str} {g CT CB CN CL : Addr} {cdg : Value} (mT : X.mg "BadTerm" = some (.ref CT)) (mB : X.mg "BadRule" = some (.ref CB)) (mN : X.mg "NoWay" = some (.ref CN)) (mL : X.mg "TooLarge" = some (.ref CL))
    (e1 : PySem.W.exmOne X.K (.ref CB) (.ref CT) = some false) (e2 : PySem.W.exmOne X.K (.ref CB) (.ref CB) = some true) :
    GivesTo X ["what"] "_law_told" (defScope s_told_law) g cdg (defBody s_told_law) "what" q (TTrule CB) := by
  intro f c' s H Q tl act hc h
  refine ⟨_, pss_one (ps_try_many (X := (cxOf C8.CX0 X.prog X.w X.K X.mg X.base ["what"] "_law_told" (defScope s_told_law) g cdg X.A X.stack s H C8.E0).nox)
      (tb := fun W D σ H => ∃ Ech : XK, (∀ cls d σ' H', Ech cls d H' → W cls d σ' H') ∧ σ[0]? = some (some (.ref f)) ∧ H c' = some (CodeO c' q) ∧ tl Ech H D.rt)
      rfl rfl LamX.takes0 (fun W pn xe tk _ => ⟨fun pins s' σ H' D I ⟨Ech, hW, h1, h2, h3⟩ => (pss_one (ps_ret (act W pn xe Ech _ _ tk hW))).run pins s' σ H' D I ⟨h1, h2, h3⟩⟩)
      (.cons ⟨rfl, by decide, .inl mT⟩ (fun a oe cls d pn _ _ => pss_one (ps_ret pe_str)) (.cons ⟨rfl, by decide, .inl mB⟩ (fun a oe cls d pn _ _ => pss_one (ps_ret pe_str))
        (.cons ⟨rfl, by decide, .inl mN⟩ (fun a oe cls d pn _ _ => pss_one (ps_ret pe_str)) (.cons ⟨rfl, by decide, .inl mL⟩ (fun a oe cls d pn _ _ => pss_one (ps_ret pe_str)) .nil))))), ?_⟩
  refine ⟨fun cls _ H' => cls = .ref CB ∧ Q (.str (Str.ofString "rule")) H', fun cls d σ' H' ⟨ec, hq⟩ => ?_, rfl, hc, h⟩
  subst ec
  exact ⟨false, e1, (fun z => Bool.noConfusion z), fun _ => ⟨true, e2, (fun _ a _ => hq), (fun z => Bool.noConfusion z)⟩⟩
end
end Rh
set_option Elab.async false
set_option linter.all false
set_option maxRecDepth 100000
set_option maxHeartbeats 2000000
/-! _law_value -/
namespace Rh
open PySem PySem.Spec PyProof.Rows L2 L2.DX GxR Gx Dl LiI LamX
def numL (n : Int × Int × Int) (ar : Nat) : List Int := [n.1, n.2.1, n.2.2].take (ar + 1)
structure NB (n : Int × Int × Int) : Prop where
  a : 0 ≤ n.1 ∧ n.1 ≤ 2
  b : 0 ≤ n.2.1 ∧ n.2.1 ≤ 2
  c : 0 ≤ n.2.2 ∧ n.2.2 ≤ 2
def NumsAt (H : Hp) (d : Addr) (g : Sgn) (m : Num) : Prop := ∃ kvs : List (L2.Key × V), H d = some (.dK kvs) ∧ ∀ s ar, g s = some ar → NB (m s) ∧ ar ≤ 2 ∧ ∃ l, valV kvs (.inr s) = some (.ref l) ∧ H l = some (.lst ((numL (m s) ar).map V.int))
def IsXY (x : Str) : Prop := x = Str.ofString "x" ∨ x = Str.ofString "y"
def RowAt (H : Hp) (d : Addr) (ρ : L2.Key → Int) : Prop := ∃ kvs : List (L2.Key × V), H d = some (.dK kvs) ∧ ∀ x, IsXY x → valV kvs (.inr x) = some (.int (ρ (.inr x)))
section
variable {G : List Addr} {H H' : Hp}
theorem NumsAt.ext {d : Addr} {g : Sgn} {m : Num} (s : NumsAt H d g m) (t : TabsG G H) (x : Ext G H H') : NumsAt H' d g m := by
  obtain ⟨kvs, h1, h2⟩ := s
  refine ⟨kvs, x.at t h1 (fun ps z => by cases z), fun s ar h => ?_⟩
  obtain ⟨nb, a2, l, e1, e2⟩ := h2 s ar h
  exact ⟨nb, a2, l, e1, x.at t e2 (fun ps z => by cases z)⟩
theorem RowAt.ext {d : Addr} {ρ : L2.Key → Int} (s : RowAt H d ρ) (t : TabsG G H) (x : Ext G H H') : RowAt H' d ρ := by
  obtain ⟨kvs, h1, h2⟩ := s
  exact ⟨kvs, x.at t h1 (fun ps z => by cases z), h2⟩
def prL (n : Int × Int × Int) (ws : List Int) : List Int := List.zipWith (· * ·) [n.2.1, n.2.2] ws
theorem lv_n (m : Num) (ρ : L2.Key → Int) {t : T} (h : t.isV = false) : (m t.sgn).1 + (prL (m t.sgn) (t.parts.map (lv m ρ))).sum = lv m ρ t := by
  cases t with
  | v x => cases h
  | c s => simp [prL, T.parts, lv, T.sgn]
  | u s t => simp [prL, T.parts, lv, T.sgn]
  | b s t r => simp [prL, T.parts, lv, T.sgn]; omega
end
section
variable {P : Program} {w : World} {K : PySem.W.Frag} {mg : Str → Option Value} {base : Heap} {G : List Addr} {f : Addr} {fd : FuncData}
def spLv (G : List Addr) (K : PySem.W.Frag) (n : Nat) : Sp := fun vs H Q _ => TabsG G H ∧ ∃ (v : V) (dN dR : Addr) (t : T) (g : Sgn) (m : Num) (ρ : L2.Key → Int), vs = [v, .ref dN, .ref dR] ∧ Dp K H v (enc t) ∧ NumsAt H dN g m ∧ RowAt H dR ρ ∧ t.ok ∧ t.dp < n ∧ n ≤ 12 ∧ t.sg g ∧
  ∀ H', Ext G H H' → Q (.int (lv m ρ t)) H'
abbrev NLv : List Str := ["term", "numbers", "row", "parts_there", "part", "plain", "some", "k"]
theorem sc_lv : FnScope NLv ["term", "numbers", "row"] (defScope s__law_value) := ⟨rfl, rfl, rfl, by decide +kernel, rfl, by decide +kernel, by decide +kernel⟩
theorem cl_lv (D : DefF K mg base G "_law_value" s__law_value ["term", "numbers", "row"] f fd) (iv : IV P w K mg base G) (m1 : mg "sum" = none) (m2 : mg "range" = none) (m3 : mg "len" = none) : ∀ n, Cl0 P w K mg base (n + 3) "_law_value" (spLv G K n)
  | 0 => (DefF.noneS D fun vs H Q E ⟨_, v, dN, dR, t, g, m, ρ, _, _, _, _, _, h, _⟩ => Nat.not_lt_zero _ h).mono (Nat.zero_le _)
  | n + 1 => by
    have ih := cl_lv D iv m1 m2 m3 n
    refine D.clS (k := n + 3) sc_lv (fun vs H Q E h => by obtain ⟨_, _, _, _, _, _, _, _, rfl, _⟩ := h; rfl) fun c Pt A outer s H vs Q E TB hP hr h => ?_
    refine ⟨_, pss_cons (ps_if (pt_val (pe_cl iv (hr.mono (by omega)) rfl (pa_cons (pv 0) pa_nil))) (pss_one (ps_ret (pe_dget (hu_of hr) (pv 2) (pv 0) (fun _ _ => rfl)))) pss_nil)
      (pss_cons (ps_set (i := 3) sc_lv.nd rfl (Or.inr rfl) (pe_lc (own := [("part", 4)]) (g := gName 4) (tt := tYes) rfl sc_lv.nd (pi_tup (pe_ix ix_tup (pv 0) pe_int (fun _ _ => rfl))) (blkOk_by (N := NLv) (sc := defScope s__law_value) (by decide +kernel))
        (fun _ _ _ _ _ => pg_name (i := 4) sc_lv.nd rfl (Or.inl rfl)) (fun _ _ _ _ _ => pts_nil) (fun _ _ _ _ _ => pe_cl ih (hr.mono (by omega)) rfl (pa_cons (pv 4) (pa_cons (pv 1) (pa_cons (pv 2) pa_nil))))))
      (pss_cons (ps_asg (pe_tup (pa_cons (pe_ix ix_list (pe_dget (hu_of hr) (pv 1) (pe_ix ix_tup (pv 0) pe_int (fun _ _ => rfl)) (fun _ _ => rfl)) pe_int (fun _ _ => rfl)) (pa_cons (pe_slice sl_list (pe_dget (hu_of hr) (pv 1) (pe_ix ix_tup (pv 0) pe_int (fun _ _ => rfl)) (fun _ _ => rfl)) (po_some pe_int) po_none) pa_nil)))
        (pg_tup rfl (pgs_cons (pg_name (i := 5) sc_lv.nd rfl (Or.inl rfl)) (pgs_cons (pg_name (i := 6) sc_lv.nd rfl (Or.inr rfl)) pgs_nil))))
      (pss_one (ps_ret (pe_op op_add (pv 5) (pe_callB (cr_sum rfl) (by rfl) m1 (by decide +kernel) (pa_cons (pe_lc (own := [("k", 7)]) (g := gName 7) (tt := tYes) (te := tOp (rI CMul fun i j => .int (i * j)) (tOp (rIxL K) (tVar 6) (tVar 7)) (tOp (rIxL K) (tVar 3) (tVar 7))) rfl sc_lv.nd (pi_range1 rfl m2 (pa_cons (pe_callB call_len_seq (by rfl) m3 PySem.boot_len (pa_cons (pv 3) pa_nil)) pa_nil)) (blkOk_by (N := NLv) (sc := defScope s__law_value) (by decide +kernel))
        (fun _ _ _ _ _ => pg_name (i := 7) sc_lv.nd rfl (Or.inl rfl)) (fun _ _ _ _ _ => pts_nil) (fun _ _ _ _ _ => pe_op op_mul (pe_ix ix_list (pv 6) (pv 7) (fun _ _ => rfl)) (pe_ix ix_list (pv 3) (pv 7) (fun _ _ => rfl)))) pa_nil))))))), ?_⟩
    obtain ⟨tG, v, dN, dR, t, g, m, ρ, rfl, rv, nm, rw_, o, hd, hn, sg, q⟩ := h
    have v0 : ∀ {H' u a b c d e f}, Ext G H H' → Ed G K (tVar 0) [some v, u, a, b, c, d, e, f] H' (enc t) := fun y => ed_var (tG.ext y) rfl (dp_ext y tG rv)
    refine s_ifR (edt_val (ed_iv tG o (v0 (Ext.refl G H)))) (fun h H2 y => ?_) fun h H2 y => ?_
    · cases t with
      | v x =>
        have ex : v = .str x := dp_str rv
        subst ex
        obtain ⟨kr, e1, e2⟩ := rw_
        refine ⟨.ref dR, rfl, .str x, rfl, dR, .int (ρ (.inr x)), rfl, ?_, q H2 y⟩
        rw [← e2 x sg]
        exact DGet.k (k := .inr x) (y.at tG e1 (fun ps z => by cases z))
      | c _ => cases h
      | u _ _ => cases h
      | b _ _ _ => cases h
    have gs := sg_ar h sg
    obtain ⟨kn, en, nm2⟩ := id nm
    obtain ⟨nb, ar2, l, el, ell⟩ := nm2 _ _ gs
    have rd : ∀ {a b c d e : Option V} {H' : Hp} (y : Ext G H H') (Q : VK), (∀ H2, Ext G H' H2 → Q (.ref l) H2) → tDGet (tVar 1) (tOp (rIxT K) (tVar 0) (tC (.int 0))) [some v, some (.ref dN), some (.ref dR), a, b, c, d, e] H' Q := fun {a b c d e H'} y Q qq => by
      refine ⟨.ref dN, rfl, ?_⟩
      refine (ed_sgn (tG.ext y) h (v0 y)) H' (Ext.refl G H') _ fun w H4 y4 rw_ => ?_
      rw [dp_str rw_]
      refine ⟨dN, .ref l, rfl, ?_, qq H4 y4⟩
      rw [← el]
      exact DGet.k (k := .inr t.sgn) ((y.trans y4).at tG en (fun ps z => by cases z))
    have t3 := tG.ext y
    refine s_seq ?_
    dsimp only [gName]
    refine (ed_parts t3 h (v0 y)) H2 (Ext.refl G H2) _ fun w1 H4 x4 rw1 => ?_
    obtain ⟨a, xs, rfl, hs, hrr⟩ := dp_tup rw1
    have yc := y.trans x4
    have t4 := tG.ext yc
    have lx : xs.length = t.parts.length := by
      have := dpA_len hrr
      rw [List.length_map] at this
      exact this
    have pl := parts_len t
    refine ⟨a, rfl, ⟨xs, hs⟩, fun L hL => ?_⟩
    refine lc_tup (a := a) (xs := xs) (fun k Hk => Ext G H4 Hk ∧ Hk L = some (.lst (((t.parts.take k).map (lv m ρ)).map V.int)))
      ⟨Ext.new hL, upd_same⟩ (fun k Hk _ z => z.1.sqT t4 hs) (fun k yv Hk hk z => ?_) (fun Hk z => ?_)
    · obtain ⟨y1, e1⟩ := z
      obtain ⟨dd, hd2, rd⟩ := dpA_getV hrr hk
      rw [List.getElem?_map] at hd2
      obtain ⟨p, hp, rfl⟩ := Option.map_eq_some_iff.mp hd2
      have mp := List.mem_of_getElem? hp
      have hk2 := (List.getElem?_eq_some_iff.mp hp).1
      have tk := t4.ext y1
      refine ⟨rfl, ?_⟩
      dsimp only [tYes]
      rw [if_pos rfl]
      refine tcall3 (v := yv) (u := .ref dN) (w := .ref dR) (fun Q q => ⟨yv, rfl, q⟩) (fun Q q => ⟨.ref dN, rfl, q⟩) (fun Q q => ⟨.ref dR, rfl, q⟩) ?_
      refine ⟨tk, yv, dN, dR, p, g, m, ρ, rfl, dp_ext y1 t4 rd, nm.ext tG (yc.trans y1), rw_.ext tG (yc.trans y1), Rh.T.ok_parts o mp, by have := Rh.T.dp_parts mp; omega, by omega, sg_parts sg mp, fun H5 y5 => ?_⟩
      have e5 := y5.at tk e1 (fun ps z => by cases z)
      refine ⟨_, e5, by rw [List.length_map, List.length_map, List.length_take]; exact Nat.lt_of_lt_of_le (show min k t.parts.length < 3 by omega) (by decide), (y1.trans y5).mut hL e5 (fun ps z => by cases z), ?_⟩
      rw [upd_same, take_snoc hp, List.map_append, List.map_append]
      rfl
    obtain ⟨y4, eL⟩ := z
    rw [lx, List.take_length] at eL
    have yd := yc.trans y4
    have t5 := tG.ext yd
    dsimp only
    generalize hws : t.parts.map (lv m ρ) = ws at eL
    have lw : ws.length = t.parts.length := by rw [← hws, List.length_map]
    refine s_seq ?_
    refine rd yd _ fun H6 y6 => ?_
    have e6 := (yd.trans y6).at tG ell (fun ps z => by cases z)
    refine ⟨l, _, 0, .int (m t.sgn).1, rfl, rfl, SqL.of e6, atI_get (Int.le_refl 0) rfl, ?_⟩
    refine rd (yd.trans y6) _ fun H7 y7 => ?_
    have e7 := y7.at (tG.ext (yd.trans y6)) e6 (fun ps z => by cases z)
    refine ⟨1, rfl, l, _, rfl, SqL.of e7, fun b hb => ?_⟩
    have y8 : Ext G H7 (upd H7 b (.lst (cutV ((numL (m t.sgn) t.parts.length).map V.int) (some 1) none))) := Ext.new hb
    have eb : upd H7 b (.lst (cutV ((numL (m t.sgn) t.parts.length).map V.int) (some 1) none)) b = some (.lst (([(m t.sgn).2.1, (m t.sgn).2.2].take t.parts.length).map V.int)) := by
      rw [upd_same]
      have : t.parts.length = 0 ∨ t.parts.length = 1 ∨ t.parts.length = 2 := by omega
      rcases this with e | e | e <;> rw [e] <;> rfl
    generalize upd H7 b (.lst (cutV ((numL (m t.sgn) t.parts.length).map V.int) (some 1) none)) = H8 at y8 eb ⊢
    have y78 := ((yd.trans y6).trans y7).trans y8
    have t8 := tG.ext y78
    refine ⟨by show 2 ≤ sizeLine; decide, fun u hu => ?_⟩
    have y9 : Ext G H8 (upd H8 u (.tup [.int (m t.sgn).1, .ref b])) := Ext.new hu
    have eu : upd H8 u (.tup [.int (m t.sgn).1, .ref b]) u = some (.tup [.int (m t.sgn).1, .ref b]) := upd_same
    have eb9 := y9.at t8 eb (fun ps z => by cases z)
    have eL9 := ((y6.trans y7).trans (y8.trans y9)).at t5 eL (fun ps z => by cases z)
    generalize upd H8 u (.tup [.int (m t.sgn).1, .ref b]) = H9 at y9 eu eb9 eL9 ⊢
    have y09 := y78.trans y9
    have t9 := tG.ext y09
    refine ⟨u, [.int (m t.sgn).1, .ref b], rfl, .inl (.inl eu), rfl, .int (m t.sgn).1, [.ref b], rfl, .ref b, [], rfl, rfl, ?_⟩
    refine ⟨.int (m t.sgn).1, rfl, ?_⟩
    refine ⟨.ref L, rfl, L, ws.map V.int, rfl, .inl (SqL.of eL9), ((ws.map V.int).length : Nat), rfl, ?_, ?_, fun D hD => ?_⟩
    · rw [List.length_map]
      omega
    · rw [List.length_map, lw]
      exact Int.lt_of_le_of_lt (show (t.parts.length : Int) ≤ 2 by omega) (by decide)
    have e0 : (((ws.map V.int).length : Nat) : Int).toNat = ws.length := by rw [List.length_map]; exact Int.toNat_natCast _
    rw [e0]
    refine lc_range (lo := 0) (n := ws.length) (fun k Hk => Ext G H9 Hk ∧ Hk D = some (.lst (((prL (m t.sgn) ws).take k).map V.int))) ⟨Ext.new hD, upd_same⟩ (fun k Hk hk z => ?_) (fun Hk z => ?_)
    · obtain ⟨y10, e10⟩ := z
      have ek : (0 : Int) + (k : Int) = k := by omega
      rw [ek]
      refine ⟨rfl, ?_⟩
      dsimp only [tYes]
      rw [if_pos rfl]
      have kk : k < t.parts.length := by omega
      obtain ⟨x, hx⟩ : ∃ x, ws[k]? = some x := ⟨_, List.getElem?_eq_getElem hk⟩
      obtain ⟨n1, hn1, bn⟩ : ∃ n1, ([(m t.sgn).2.1, (m t.sgn).2.2])[k]? = some n1 ∧ 0 ≤ n1 ∧ n1 ≤ 2 := by
        match k, (show k < 2 by omega) with
        | 0, _ => exact ⟨_, rfl, nb.b⟩
        | 1, _ => exact ⟨_, rfl, nb.c⟩
      have hn2 : (([(m t.sgn).2.1, (m t.sgn).2.2].take t.parts.length).map V.int)[k]? = some (.int n1) := by
        rw [List.getElem?_map, List.getElem?_take_of_lt kk, hn1]
        rfl
      refine ⟨.ref b, rfl, .int k, rfl, b, _, k, .int n1, rfl, rfl, SqL.of (y10.at t9 eb9 (fun ps z => by cases z)), atI_get (Int.natCast_nonneg k) (by rw [Int.toNat_natCast]; exact hn2), ?_⟩
      refine ⟨.ref L, rfl, .int k, rfl, L, _, k, .int x, rfl, rfl, SqL.of (y10.at t9 eL9 (fun ps z => by cases z)), atI_get (Int.natCast_nonneg k) (by rw [Int.toNat_natCast, List.getElem?_map, hx]; rfl), ?_⟩
      refine ⟨n1, x, rfl, rfl, .inl ⟨by omega, by omega⟩, ?_⟩
      refine ⟨_, e10, by rw [List.length_map, List.length_take]; exact Nat.lt_of_lt_of_le (show min k (prL (m t.sgn) ws).length < 3 by omega) (by decide), y10.mut hD e10 (fun ps z => by cases z), ?_⟩
      have hz : (prL (m t.sgn) ws)[k]? = some (n1 * x) := by
        unfold prL
        rw [List.getElem?_zipWith, hn1, hx]
      rw [upd_same, take_snoc hz, List.map_append]
      rfl
    · obtain ⟨y10, e10⟩ := z
      rw [List.take_of_length_le (by unfold prL; rw [List.length_zipWith]; omega)] at e10
      refine ⟨D, prL (m t.sgn) ws, rfl, SqL.of e10, ?_⟩
      refine ⟨(m t.sgn).1, _, rfl, rfl, ?_⟩
      have := q Hk (y09.trans y10)
      rw [← lv_n m ρ h, hws] at this
      exact this
end
end Rh
set_option Elab.async false
set_option linter.all false
set_option maxRecDepth 100000
set_option maxHeartbeats 2000000
/-! grows -/
namespace Rh
open PySem PySem.Spec PyProof.Rows L2 L2.DX GxR Gx Dl LiI LamX
section
variable {G : List Addr} {K : PySem.W.Frag} {σ : L2.St} {H : Hp} {tb : TE} {tA : TA}
theorem run_anyR {P : Addr} {i n : Nat} {vs : List Nat} {p : Nat → Bool} {Q : VK} (hP : P ∈ G) (tG : TabsG G H) (hn : n < 1000000) (h : ∀ Q : List V → Hp → Prop, Q [.int (n : Int)] H → tA σ H Q) (hi : i ∈ vs)
    (hb : ∀ (k : Nat) H1, k < n → Ext G H H1 → TabsG G H1 → Ed G K tb ((wipe σ vs).set i (some (.int (k : Int)))) H1 (.bool (p k))) (q : ∀ H', Ext G H H' → Q (.bl ((List.range n).any p)) H') : tAnyG P (iRng1 tA) (gName i) tYes tb vs σ H Q := h _ (by
  refine ⟨(n : Int), rfl, by omega, by omega, tG P hP, fun H3 hT => ?_⟩
  rw [Int.toNat_natCast]
  have x3 : Ext G H H3 := Ext.tabbed hP hT
  refine ⟨fun k m al Hk => m = n - k ∧ k ≤ n ∧ Ext G H Hk ∧ ∀ j < k, p j = false, ⟨n, fun tk => ⟨rfl, Nat.zero_le _, x3, fun j hj => absurd hj (Nat.not_lt_zero _)⟩⟩, ?_⟩
  rintro k m al Hk ⟨rfl, hk, y1, hpk⟩
  by_cases hlt : k < n
  · refine .inr ⟨hlt, fun al' H' => Ext G Hk H' ∧ ∀ j < k + 1, p j = false, fun al' H' z => ⟨n - (k + 1), by omega, rfl, hlt, y1.trans z.1, z.2⟩, fun y H' hy => ?_⟩
    obtain ⟨e1, e2⟩ := hy
    subst e1 e2
    have ek : (0 : Int) + (k : Int) = k := by omega
    rw [ek]
    refine ⟨wipe_set σ vs i _ hi, ?_⟩
    dsimp only [tYes]
    refine iteT ?_
    refine hb k H' hlt y1 (tG.ext y1) H' (Ext.refl G H') _ fun w H4 y4 rw_ => ⟨p k, dp_bl rw_, ?_⟩
    cases hpd : p k with
    | false =>
      rw [if_neg Bool.false_ne_true]
      refine ⟨y4, fun j hj => ?_⟩
      by_cases e : j = k
      · rw [e]; exact hpd
      · exact hpk j (by omega)
    | true =>
      rw [if_pos rfl]
      have e : (List.range n).any p = true := by
        rw [List.any_eq_true]
        exact ⟨k, List.mem_range.mpr hlt, hpd⟩
      have := q H4 (y1.trans y4)
      rwa [e] at this
  · have e : k = n := by omega
    subst e
    refine .inl ⟨Nat.le_refl _, ?_⟩
    have e : (List.range k).any p = false := by
      rw [List.any_eq_false]
      exact fun j hj => by rw [hpk j (List.mem_range.mp hj)]; exact Bool.false_ne_true
    have := q Hk y1
    rwa [e] at this)
theorem s_forL {te : TE} {g : TG} {tb : TS} {D : Ends} (h : te σ H fun v H1 => ∃ a, v = .ref a ∧ (∃ xs, SqL K H1 a xs) ∧ ∃ W : Nat → Nat → L2.St → Hp → Prop, (∃ m, W 0 m σ H1) ∧ ∀ i m σ H, W i m σ H →
    ((Itl K a).stop i H ∧ D.nx σ H) ∨ ((Itl K a).go i H ∧ ∃ N : L2.St → Hp → Prop, (∀ σ' H', N σ' H' → ∃ m', m' < m ∧ W (i + 1) m' σ' H') ∧ ∀ x H', (Itl K a).yld i H x H' → g x σ H' fun σ2 H2 => tb { D with nx := N, ct := N, bk := D.nx } σ2 H2)) : tFor (iList K te) g tb D σ H := h
end
def sgD (p : Str × Nat) : PyData := .tuple [.str p.1, .int p.2]
def cK (n : Int × Int × Int) (k : Nat) : Int := if k = 0 then n.2.1 else n.2.2
def rowOk (m : Num) (p : Str × Nat) : Bool := (List.range p.2).all fun k => decide (1 ≤ cK (m p.1) k)
theorem rowOk_any {m : Num} {p : Str × Nat} {rows : List Row} (h : ∀ k < p.2, coef rows [.inr (xN k)] = cK (m p.1) k) : ((List.range p.2).any fun k => decide (coef rows [.inr (xN k)] < 1)) = !rowOk m p := by
  cases h1 : rowOk m p with
  | true =>
    rw [Bool.not_true, List.any_eq_false]
    intro k hk
    have h2 := of_decide_eq_true (List.all_eq_true.mp h1 k hk)
    rw [← h k (List.mem_range.mp hk)] at h2
    rw [decide_eq_false (by omega)]
    exact Bool.false_ne_true
  | false =>
    rw [Bool.not_false, List.any_eq_true]
    obtain ⟨k, hk, h2⟩ := List.all_eq_false.mp h1
    refine ⟨k, hk, decide_eq_true ?_⟩
    have h3 : ¬ 1 ≤ cK (m p.1) k := fun z => h2 (decide_eq_true z)
    rw [h k (List.mem_range.mp hk)]
    omega
theorem own_ck {rows : List Row} {n : Int × Int × Int} {ar : Nat} (h : Own rows n ar) {k : Nat} (hk : k < 2) : coef rows [.inr (xN k)] = cK n k := by
  match k, hk with
  | 0, _ => exact h.c1
  | 1, _ => exact h.c2
theorem xN_str {k : Nat} (hk : k < 2) : Str.ofString "x" ++ ((toString (k : Int) : String) : Str) = xN k ∧ ((toString (k : Int) : String) : Str).length ≤ 5 := by
  match k, hk with
  | 0, _ => exact ⟨by decide +kernel, by decide +kernel⟩
  | 1, _ => exact ⟨by decide +kernel, by decide +kernel⟩
section
variable {P : Program} {w : World} {K : PySem.W.Frag} {mg : Str → Option Value} {base : Heap} {G : List Addr} {f C : Addr} {fd : FuncData}
def spGr (S : PySem.W.Frag → Hp → Addr → List V → Prop) (G : List Addr) (K : PySem.W.Frag) (C : Addr) : Sp := fun vs H Q _ => TabsG G H ∧ ∃ (d a : Addr) (xs : List V) (tbl : List (Str × Nat)) (g : Sgn) (m : Num), vs = [.ref d, .ref a] ∧ SumsAt C H d g m ∧ S K H a xs ∧ DpAll K H xs (tbl.map sgD) ∧ (∀ p ∈ tbl, g p.1 = some p.2 ∧ p.2 ≤ 2) ∧
  ∀ H', Ext G H H' → Q (.bl (tbl.all (rowOk m))) H'
abbrev NGr : List Str := ["sums", "table", "sign", "many", "rows", "number", "k"]
theorem sc_grows : FnScope NGr ["sums", "table"] (defScope s_grows) := ⟨rfl, rfl, rfl, by decide +kernel, rfl, by decide +kernel, by decide +kernel⟩
theorem cl_growsL (D : DefF K mg base G "grows" s_grows ["sums", "table"] f fd) (T : SumC K C) (m1 : mg "dict" = none) (m2 : mg "any" = none) (m3 : mg "range" = none) (m4 : mg "str" = none) : Cl0 P w K mg base 5 "grows" (spGr SqL G K C) := by
  refine D.clS (k := 4) sc_grows (fun vs H Q E h => by obtain ⟨_, _, _, _, _, _, _, rfl, _⟩ := h; rfl) fun c Pt A outer s H vs Q E TB hP hr h => ?_
  refine ⟨_, pss_cons (ps_for PassesOwn.never rfl (pi_list (pv 1)) (pg_tup rfl (pgs_cons (pg_name (i := 2) sc_grows.nd rfl (Or.inl rfl)) (pgs_cons (pg_name (i := 3) sc_grows.nd rfl (Or.inl rfl)) pgs_nil)))
      (pss_cons (ps_set (i := 4) sc_grows.nd rfl (Or.inr rfl) (pe_callTy (call_dictPF rfl (units2 hr)) (by rfl) m1 (by decide +kernel) (pa_cons (pe_fld (pe_dget (hu_of hr) (pv 0) (pv 2) (fun _ _ => rfl)) rfl) pa_nil)))
      (pss_cons (ps_if (pt_val (pe_anyG (own := [("number", 5)]) hr sc_grows.nd TB rfl (blkOk_by (N := NGr) (sc := defScope s_grows) (by decide +kernel)) m2 (pi_valuesT (pv 4)) (fun s H C code fp A _ => pg_name (i := 5) sc_grows.nd rfl (Or.inl rfl)) (fun s H C code fp A _ => pts_nil) (fun s H C code fp A _ => pe_cmpR op_lt (pv 5) pe_int (nomark _)))) (pss_one (ps_ret pe_bl)) pss_nil)
      (pss_one (ps_if (pt_val (pe_anyG (own := [("k", 6)]) hr sc_grows.nd TB rfl (blkOk_by (N := NGr) (sc := defScope s_grows) (by decide +kernel)) m2 (pi_range1 rfl m3 (pa_cons (pv 3) pa_nil)) (fun s H C code fp A _ => pg_name (i := 6) sc_grows.nd rfl (Or.inl rfl)) (fun s H C code fp A _ => pts_nil)
        (fun s H C code fp A r => pe_cmpR op_lt (pe_dget2 (hu_of r) (pv 4) (pe_tup (pa_cons (pe_op op_add_str pe_str (pe_callTy call_str_int (by rfl) m4 (by decide +kernel) (pa_cons (pv 6) pa_nil))) pa_nil)) pe_int ⟨rfl, rfl, rfl, rfl⟩) pe_int (nomark _)))) (pss_one (ps_ret pe_bl)) pss_nil)))))
    (pss_one (ps_ret pe_bl)), ?_⟩
  obtain ⟨tG, d, a, xs, tbl, g, m, rfl, sm, hs, hrr, gt, q⟩ := h
  refine s_seq (s_forL ?_)
  refine ⟨.ref a, rfl, a, rfl, ⟨_, hs⟩, for_list (K := K) (a := a) (xs := xs) (fun i σ' H' => ∃ o2 o3 o4, σ' = [some (.ref d), some (.ref a), o2, o3, o4, none, none] ∧ Ext G H H' ∧ ∀ p ∈ tbl.take i, rowOk m p = true)
    ⟨none, none, none, rfl, Ext.refl G H, fun p hp => by simp at hp⟩ (fun i σ' H' _ ⟨_, _, _, _, e, _⟩ => e.sqL tG hs) (fun i v σ' H' hv hp => ?_) (fun σ' H' hp => ?_)⟩
  · obtain ⟨o2, o3, o4, rfl, y, al⟩ := hp
    obtain ⟨dd, hd2, rd⟩ := dpA_getV hrr hv
    rw [List.getElem?_map] at hd2
    obtain ⟨p, hp, rfl⟩ := Option.map_eq_some_iff.mp hd2
    have mp := List.mem_of_getElem? hp
    have t1 := tG.ext y
    obtain ⟨u, ws, rfl, hs2, hr2⟩ := dp_tup (show Dp K H' v (.tuple [.str p.1, .int p.2]) from dp_ext y tG rd)
    obtain ⟨w1, w2, rfl, rw1, rw2⟩ := dpA_two hr2
    rw [dp_str rw1, dp_int rw2] at hs2
    obtain ⟨gp, p2⟩ := gt p mp
    obtain ⟨kvs, ed, sm2, -⟩ := sm.ext tG y
    obtain ⟨pa, rows, es, ss, ow⟩ := sm2 _ _ gp
    refine ⟨u, [.str p.1, .int p.2], rfl, hs2, rfl, .str p.1, [_], rfl, .int p.2, [], rfl, rfl, ?_⟩
    obtain ⟨dx, fs, b, ob, ts, h1, h2, h3, h4, h5⟩ := ss
    refine s_seq ?_
    refine ⟨.ref d, rfl, .str p.1, rfl, d, .ref pa, rfl, by rw [← es]; exact DGet.k (k := .inr p.1) ed, pa, C, dx, fs, .ref b, rfl, h1, T.cl, T.n1, h2, ?_⟩
    refine ⟨b, ob, ts, rows.map toV, rfl, h3, h4, h5, by rw [List.map_map]; exact ow.ok.g.nd, fun e od he => ?_⟩
    have y2 : Ext G H' (upd H' e (.frz od (.dT (rows.map toV)))) := Ext.new he
    have e2 : upd H' e (.frz od (.dT (rows.map toV))) e = some (.frz od (.dT (rows.map toV))) := upd_same
    have t2 := t1.ext y2
    have y12 := y.trans y2
    generalize upd H' e (.frz od (.dT (rows.map toV))) = H2 at y2 e2 t2 y12 ⊢
    dsimp only [gName]
    refine s_ifR (G := G) (b := false) (fun H1 x1 Q qq => ?_) (fun z => by cases z) fun _ H3 y3 => ?_
    · refine run_anyV (K := K) (p := fun n => decide (n < 0)) hP (t2.ext x1) (fun Q q => ⟨_, rfl, q⟩) (x1.at t2 e2 (fun ps z => by cases z)) (by decide) (fun n H4 y4 t4 => ed_op t4 (ed_var t4 rfl (.int n)) ed_int rd_ltI) fun H4 y4 => ⟨_, rfl, ?_⟩
      have z : (rows.any fun r => decide (r.2 < 0)) = false := by
        rw [List.any_eq_false]
        intro r hr
        have := (ow.bd r hr).1
        rw [decide_eq_false (by omega)]
        exact Bool.false_ne_true
      rw [z]
      exact qq H4 y4
    have t3 := t2.ext y3
    have e3 := y3.at t2 e2 (fun ps z => by cases z)
    refine s_if (G := G) (b := !rowOk m p) (fun H1 x1 Q qq => ?_) (fun hb H4 y4 => ?_) fun hb H4 y4 => ?_
    · refine run_anyR (K := K) (n := p.2) (p := fun k => decide (coef rows [.inr (xN k)] < 1)) hP (t3.ext x1) (by omega) (fun Q q => ⟨_, rfl, q⟩) (by decide) (fun k H4 hk y4 t4 => ?_) fun H4 y4 => ⟨_, rfl, ?_⟩
      · refine ed_op (d := .int (coef rows [.inr (xN k)])) t4 (fun H5 y5 Q qq => ?_) ed_int rd_ltI
        have e5 := ((x1.trans y4).trans y5).at t3 e3 (fun ps z => by cases z)
        have t5 := t4.ext y5
        obtain ⟨c1, c2⟩ := xN_str (show k < 2 by omega)
        refine ⟨.ref e, rfl, e, rfl, .inr ⟨_, .inr ⟨_, e5⟩⟩, ?_⟩
        refine ⟨.int k, rfl, k, rfl, ?_, Str.ofString "x", _, rfl, rfl, Nat.le_trans (Nat.add_le_add_left c2 _) (by decide +kernel), ?_⟩
        · rw [Int.natAbs_natCast k]
          match k, (show k < 2 by omega) with
          | 0, _ => decide
          | 1, _ => decide
        rw [c1]
        refine ⟨by show 1 ≤ sizeLine; decide, fun u2 hu => ?_⟩
        have y6 : Ext G H5 (upd H5 u2 (.tup [.str (xN k)])) := Ext.new hu
        have e6 := y6.at t5 e5 (fun ps z => by cases z)
        obtain ⟨oo, hg, ho⟩ := dget0 (k := [.inr (xN k)]) ow.ok.g.nd (.inr ⟨_, e6⟩) (show upd H5 u2 (.tup [.str (xN k)]) u2 = some (.tup (([.inr (xN k)] : Ks).map kV)) from upd_same)
        refine ⟨oo, hg, ?_⟩
        rw [ho]
        exact qq _ _ y6 (.int _)
      rw [rowOk_any fun k hk => own_ck ow (show k < 2 by omega)]
      exact qq H4 y4
    · have hk : rowOk m p = false := by
        cases z : rowOk m p with
        | false => rfl
        | true => rw [z] at hb; cases hb
      have z : tbl.all (rowOk m) = false := List.all_eq_false.mpr ⟨p, mp, by rw [hk]; exact Bool.false_ne_true⟩
      have := q H4 (y12.trans (y3.trans y4))
      rw [z] at this
      exact this
    · have hk : rowOk m p = true := by
        cases z : rowOk m p with
        | true => rfl
        | false => rw [z] at hb; cases hb
      refine ⟨_, _, _, rfl, y12.trans (y3.trans y4), fun p' hp' => ?_⟩
      rw [take_snoc hp] at hp'
      rcases List.mem_append.mp hp' with z | z
      · exact al p' z
      · rw [List.mem_singleton.mp z]; exact hk
  · obtain ⟨o2, o3, o4, rfl, y, al⟩ := hp
    have e1 := dpA_len hrr
    rw [List.length_map] at e1
    rw [e1, List.take_length] at al
    have := q H' y
    rw [List.all_eq_true.mpr al] at this
    exact this
theorem cl_growsT (D : DefF K mg base G "grows" s_grows ["sums", "table"] f fd) (T : SumC K C) (m1 : mg "dict" = none) (m2 : mg "any" = none) (m3 : mg "range" = none) (m4 : mg "str" = none) : Cl0 P w K mg base 5 "grows" (spGr SqT G K C) := by
  refine D.clS (k := 4) sc_grows (fun vs H Q E h => by obtain ⟨_, _, _, _, _, _, _, rfl, _⟩ := h; rfl) fun c Pt A outer s H vs Q E TB hP hr h => ?_
  refine ⟨_, pss_cons (ps_for PassesOwn.never rfl (pi_tup (pv 1)) (pg_tup rfl (pgs_cons (pg_name (i := 2) sc_grows.nd rfl (Or.inl rfl)) (pgs_cons (pg_name (i := 3) sc_grows.nd rfl (Or.inl rfl)) pgs_nil)))
      (pss_cons (ps_set (i := 4) sc_grows.nd rfl (Or.inr rfl) (pe_callTy (call_dictPF rfl (units2 hr)) (by rfl) m1 (by decide +kernel) (pa_cons (pe_fld (pe_dget (hu_of hr) (pv 0) (pv 2) (fun _ _ => rfl)) rfl) pa_nil)))
      (pss_cons (ps_if (pt_val (pe_anyG (own := [("number", 5)]) hr sc_grows.nd TB rfl (blkOk_by (N := NGr) (sc := defScope s_grows) (by decide +kernel)) m2 (pi_valuesT (pv 4)) (fun s H C code fp A _ => pg_name (i := 5) sc_grows.nd rfl (Or.inl rfl)) (fun s H C code fp A _ => pts_nil) (fun s H C code fp A _ => pe_cmpR op_lt (pv 5) pe_int (nomark _)))) (pss_one (ps_ret pe_bl)) pss_nil)
      (pss_one (ps_if (pt_val (pe_anyG (own := [("k", 6)]) hr sc_grows.nd TB rfl (blkOk_by (N := NGr) (sc := defScope s_grows) (by decide +kernel)) m2 (pi_range1 rfl m3 (pa_cons (pv 3) pa_nil)) (fun s H C code fp A _ => pg_name (i := 6) sc_grows.nd rfl (Or.inl rfl)) (fun s H C code fp A _ => pts_nil)
        (fun s H C code fp A r => pe_cmpR op_lt (pe_dget2 (hu_of r) (pv 4) (pe_tup (pa_cons (pe_op op_add_str pe_str (pe_callTy call_str_int (by rfl) m4 (by decide +kernel) (pa_cons (pv 6) pa_nil))) pa_nil)) pe_int ⟨rfl, rfl, rfl, rfl⟩) pe_int (nomark _)))) (pss_one (ps_ret pe_bl)) pss_nil)))))
    (pss_one (ps_ret pe_bl)), ?_⟩
  obtain ⟨tG, d, a, xs, tbl, g, m, rfl, sm, hs, hrr, gt, q⟩ := h
  refine s_seq (s_for (K := K) ?_)
  refine ⟨.ref a, rfl, a, rfl, ⟨_, hs⟩, for_tup (K := K) (a := a) (xs := xs) (fun i σ' H' => ∃ o2 o3 o4, σ' = [some (.ref d), some (.ref a), o2, o3, o4, none, none] ∧ Ext G H H' ∧ ∀ p ∈ tbl.take i, rowOk m p = true)
    ⟨none, none, none, rfl, Ext.refl G H, fun p hp => by simp at hp⟩ (fun i σ' H' _ ⟨_, _, _, _, e, _⟩ => e.sqT tG hs) (fun i v σ' H' hv hp => ?_) (fun σ' H' hp => ?_)⟩
  · obtain ⟨o2, o3, o4, rfl, y, al⟩ := hp
    obtain ⟨dd, hd2, rd⟩ := dpA_getV hrr hv
    rw [List.getElem?_map] at hd2
    obtain ⟨p, hp, rfl⟩ := Option.map_eq_some_iff.mp hd2
    have mp := List.mem_of_getElem? hp
    have t1 := tG.ext y
    obtain ⟨u, ws, rfl, hs2, hr2⟩ := dp_tup (show Dp K H' v (.tuple [.str p.1, .int p.2]) from dp_ext y tG rd)
    obtain ⟨w1, w2, rfl, rw1, rw2⟩ := dpA_two hr2
    rw [dp_str rw1, dp_int rw2] at hs2
    obtain ⟨gp, p2⟩ := gt p mp
    obtain ⟨kvs, ed, sm2, -⟩ := sm.ext tG y
    obtain ⟨pa, rows, es, ss, ow⟩ := sm2 _ _ gp
    refine ⟨u, [.str p.1, .int p.2], rfl, hs2, rfl, .str p.1, [_], rfl, .int p.2, [], rfl, rfl, ?_⟩
    obtain ⟨dx, fs, b, ob, ts, h1, h2, h3, h4, h5⟩ := ss
    refine s_seq ?_
    refine ⟨.ref d, rfl, .str p.1, rfl, d, .ref pa, rfl, by rw [← es]; exact DGet.k (k := .inr p.1) ed, pa, C, dx, fs, .ref b, rfl, h1, T.cl, T.n1, h2, ?_⟩
    refine ⟨b, ob, ts, rows.map toV, rfl, h3, h4, h5, by rw [List.map_map]; exact ow.ok.g.nd, fun e od he => ?_⟩
    have y2 : Ext G H' (upd H' e (.frz od (.dT (rows.map toV)))) := Ext.new he
    have e2 : upd H' e (.frz od (.dT (rows.map toV))) e = some (.frz od (.dT (rows.map toV))) := upd_same
    have t2 := t1.ext y2
    have y12 := y.trans y2
    generalize upd H' e (.frz od (.dT (rows.map toV))) = H2 at y2 e2 t2 y12 ⊢
    dsimp only [gName]
    refine s_ifR (G := G) (b := false) (fun H1 x1 Q qq => ?_) (fun z => by cases z) fun _ H3 y3 => ?_
    · refine run_anyV (K := K) (p := fun n => decide (n < 0)) hP (t2.ext x1) (fun Q q => ⟨_, rfl, q⟩) (x1.at t2 e2 (fun ps z => by cases z)) (by decide) (fun n H4 y4 t4 => ed_op t4 (ed_var t4 rfl (.int n)) ed_int rd_ltI) fun H4 y4 => ⟨_, rfl, ?_⟩
      have z : (rows.any fun r => decide (r.2 < 0)) = false := by
        rw [List.any_eq_false]
        intro r hr
        have := (ow.bd r hr).1
        rw [decide_eq_false (by omega)]
        exact Bool.false_ne_true
      rw [z]
      exact qq H4 y4
    have t3 := t2.ext y3
    have e3 := y3.at t2 e2 (fun ps z => by cases z)
    refine s_if (G := G) (b := !rowOk m p) (fun H1 x1 Q qq => ?_) (fun hb H4 y4 => ?_) fun hb H4 y4 => ?_
    · refine run_anyR (K := K) (n := p.2) (p := fun k => decide (coef rows [.inr (xN k)] < 1)) hP (t3.ext x1) (by omega) (fun Q q => ⟨_, rfl, q⟩) (by decide) (fun k H4 hk y4 t4 => ?_) fun H4 y4 => ⟨_, rfl, ?_⟩
      · refine ed_op (d := .int (coef rows [.inr (xN k)])) t4 (fun H5 y5 Q qq => ?_) ed_int rd_ltI
        have e5 := ((x1.trans y4).trans y5).at t3 e3 (fun ps z => by cases z)
        have t5 := t4.ext y5
        obtain ⟨c1, c2⟩ := xN_str (show k < 2 by omega)
        refine ⟨.ref e, rfl, e, rfl, .inr ⟨_, .inr ⟨_, e5⟩⟩, ?_⟩
        refine ⟨.int k, rfl, k, rfl, ?_, Str.ofString "x", _, rfl, rfl, Nat.le_trans (Nat.add_le_add_left c2 _) (by decide +kernel), ?_⟩
        · rw [Int.natAbs_natCast k]
          match k, (show k < 2 by omega) with
          | 0, _ => decide
          | 1, _ => decide
        rw [c1]
        refine ⟨by show 1 ≤ sizeLine; decide, fun u2 hu => ?_⟩
        have y6 : Ext G H5 (upd H5 u2 (.tup [.str (xN k)])) := Ext.new hu
        have e6 := y6.at t5 e5 (fun ps z => by cases z)
        obtain ⟨oo, hg, ho⟩ := dget0 (k := [.inr (xN k)]) ow.ok.g.nd (.inr ⟨_, e6⟩) (show upd H5 u2 (.tup [.str (xN k)]) u2 = some (.tup (([.inr (xN k)] : Ks).map kV)) from upd_same)
        refine ⟨oo, hg, ?_⟩
        rw [ho]
        exact qq _ _ y6 (.int _)
      rw [rowOk_any fun k hk => own_ck ow (show k < 2 by omega)]
      exact qq H4 y4
    · have hk : rowOk m p = false := by
        cases z : rowOk m p with
        | false => rfl
        | true => rw [z] at hb; cases hb
      have z : tbl.all (rowOk m) = false := List.all_eq_false.mpr ⟨p, mp, by rw [hk]; exact Bool.false_ne_true⟩
      have := q H4 (y12.trans (y3.trans y4))
      rw [z] at this
      exact this
    · have hk : rowOk m p = true := by
        cases z : rowOk m p with
        | true => rfl
        | false => rw [z] at hb; cases hb
      refine ⟨_, _, _, rfl, y12.trans (y3.trans y4), fun p' hp' => ?_⟩
      rw [take_snoc hp] at hp'
      rcases List.mem_append.mp hp' with z | z
      · exact al p' z
      · rw [List.mem_singleton.mp z]; exact hk
  · obtain ⟨o2, o3, o4, rfl, y, al⟩ := hp
    have e1 := dpA_len hrr
    rw [List.length_map] at e1
    rw [e1, List.take_length] at al
    have := q H' y
    rw [List.all_eq_true.mpr al] at this
    exact this
end
end Rh
set_option Elab.async false
set_option linter.all false
set_option maxRecDepth 100000
set_option maxHeartbeats 400000
/-! all_signs -/
namespace Rh
open PySem PySem.Spec PyProof.Rows L2 L2.DX GxR Gx Dl LiI LamX
section
variable {K : PySem.W.Frag} {a : Addr} {xs : List V} {H0 : Hp} {Z : Hp → Prop} {step : V → Hp → (Hp → Prop) → Prop}
theorem wk_list (Pv : Nat → Hp → Prop) (h0 : Pv 0 H0) (hl : ∀ i H, i ≤ xs.length → Pv i H → SqL K H a xs) (hs : ∀ i x H, xs[i]? = some x → Pv i H → step x H (Pv (i + 1))) (hd : ∀ H, Pv xs.length H → Z H) :
    ∃ W : Nat → Nat → Hp → Prop, (∃ m, W 0 m H0) ∧ ∀ i m H, W i m H → ((Itl K a).stop i H ∧ Z H) ∨ ((Itl K a).go i H ∧ ∃ N : Hp → Prop, (∀ H', N H' → ∃ m', m' < m ∧ W (i + 1) m' H') ∧ ∀ x H', (Itl K a).yld i H x H' → step x H' N) := by
  refine ⟨fun i m H => m = xs.length - i ∧ i ≤ xs.length ∧ Pv i H, ⟨xs.length, by simp, Nat.zero_le _, h0⟩, ?_⟩
  rintro i m H ⟨rfl, hi, p⟩
  have q := hl i H hi p
  by_cases hlt : i < xs.length
  · refine .inr ⟨⟨xs, xs[i], q, by simp [hlt]⟩, Pv (i + 1), fun H' p' => ⟨xs.length - (i + 1), by omega, rfl, hlt, p'⟩, fun x H' y => ?_⟩
    obtain ⟨e, y⟩ := y
    subst e
    exact hs i x _ (y xs q) p
  · have e : i = xs.length := by omega
    subst e
    exact .inl ⟨⟨xs, q, Nat.le_refl _⟩, hd H p⟩
theorem wk_tup (Pv : Nat → Hp → Prop) (h0 : Pv 0 H0) (hl : ∀ i H, i ≤ xs.length → Pv i H → SqT K H a xs) (hs : ∀ i x H, xs[i]? = some x → Pv i H → step x H (Pv (i + 1))) (hd : ∀ H, Pv xs.length H → Z H) :
    ∃ W : Nat → Nat → Hp → Prop, (∃ m, W 0 m H0) ∧ ∀ i m H, W i m H → ((Itt K a).stop i H ∧ Z H) ∨ ((Itt K a).go i H ∧ ∃ N : Hp → Prop, (∀ H', N H' → ∃ m', m' < m ∧ W (i + 1) m' H') ∧ ∀ x H', (Itt K a).yld i H x H' → step x H' N) := by
  refine ⟨fun i m H => m = xs.length - i ∧ i ≤ xs.length ∧ Pv i H, ⟨xs.length, by simp, Nat.zero_le _, h0⟩, ?_⟩
  rintro i m H ⟨rfl, hi, p⟩
  have q := hl i H hi p
  by_cases hlt : i < xs.length
  · refine .inr ⟨⟨xs, xs[i], q, by simp [hlt]⟩, Pv (i + 1), fun H' p' => ⟨xs.length - (i + 1), by omega, rfl, hlt, p'⟩, fun x H' y => ?_⟩
    obtain ⟨e, y⟩ := y
    subst e
    exact hs i x _ (y xs q) p
  · have e : i = xs.length := by omega
    subst e
    exact .inl ⟨⟨xs, q, Nat.le_refl _⟩, hd H p⟩
end
abbrev Rl := T × T
def encRl (r : Rl) : PyData := .tuple [enc r.1, enc r.2]
theorem two_get {r : Rl} {j : Nat} {dd : PyData} (h : [enc r.1, enc r.2][j]? = some dd) : j < 2 ∧ ∃ t : T, dd = enc t ∧ (t = r.1 ∨ t = r.2) := by
  match j, h with
  | 0, h => exact ⟨by decide, r.1, (Option.some.inj h).symm, .inl rfl⟩
  | 1, h => exact ⟨by decide, r.2, (Option.some.inj h).symm, .inr rfl⟩
  | k + 2, h => simp at h
theorem pu_encRl (r : Rl) : Pu (encRl r) = true := by
  show PuA [enc r.1, enc r.2] = true
  refine puA_all.mpr fun d hd => ?_
  simp only [List.mem_cons, List.not_mem_nil, or_false] at hd
  rcases hd with h | h <;> rw [h] <;> exact pu_enc _
section
variable {P : Program} {w : World} {K : PySem.W.Frag} {mg : Str → Option Value} {base : Heap} {G : List Addr} {f C : Addr} {fd : FuncData}
theorem s_wkSg {n : Nat} {t : T} {H : Hp} {σ : L2.St} {tA : TA} {E : XK} {g : TG} {vs : List Nat} {body : L2.St → Hp → (Hp → Prop) → Prop} {Nx : Hp → Prop} (tG : TabsG G H) (h : EdXA G K tA σ H [.d (enc t)]) (o : t.ok) (hd : t.dp < n) (hn : n ≤ 12)
    (q : ∀ a ys H', Ext G H H' → H' a = some (.tup ys) → TrA H' ys (t.sgs.map ksD) → ∃ W : Nat → Nat → Hp → Prop, (∃ m, W 0 m H') ∧ ∀ j k H, W j k H →
      ((Itt K a).stop j H ∧ Nx H) ∨ ((Itt K a).go j H ∧ ∃ Nx1 : Hp → Prop, (∀ H', Nx1 H' → ∃ k', k' < k ∧ W (j + 1) k' H') ∧ ∀ x H', (Itt K a).yld j H x H' → g x (wipe σ vs) H' fun σ3 H5 => wipe σ3 vs = wipe σ vs ∧ body σ3 H5 Nx1)) :
    Walk3 (iTup K (tCall (spSg G K n) [] E tA)) g vs body σ H Nx := h H (Ext.refl G H) _ fun vs H1 x1 rs => by
  show spSg G K n (vs ++ []) H1 _ _
  rw [List.append_nil]
  exact ⟨tG.ext x1, t, rs, o, hd, hn, fun a ys H2 x2 e2 tr => ⟨a, rfl, ⟨ys, .inl (.inl e2)⟩, q a ys H2 (x1.trans x2) e2 tr⟩⟩
def spAs (G : List Addr) (K : PySem.W.Frag) (n : Nat) : Sp := fun vs H Q _ => TabsG G H ∧ ∃ (a : Addr) (xs : List V) (r : Rl), vs = [.ref a] ∧ SqL K H a xs ∧ DpAll K H xs [encRl r] ∧ r.1.ok ∧ r.2.ok ∧ r.1.dp < n ∧ r.2.dp < n ∧ n ≤ 11 ∧
  ∀ (p : Addr) (ys : List V) (ks : List (List L2.Key)) (H' : Hp), Ext G H H' → H' p = some (.tup ys) → TrA H' ys (ks.map ksD) → (∀ k ∈ ks, k ∈ r.1.sgs ∨ k ∈ r.2.sgs) → Q (.ref p) H'
abbrev NAs : List Str := ["rules", "rule", "side", "pair"]
theorem sc_as : FnScope NAs ["rules"] (defScope s_all_signs) := ⟨rfl, rfl, rfl, by decide +kernel, rfl, by decide +kernel, by decide +kernel⟩
theorem cl_as {n : Nat} (D : DefF K mg base G "all_signs" s_all_signs ["rules"] f fd) (si : Cl0 P w K mg base (2 * n + 2) "signs" (spSg G K n)) (m2 : mg "tuple" = none) (m3 : mg "sorted" = none) : Cl0 P w K mg base (2 * n + 3) "all_signs" (spAs G K n) := by
  refine D.clS (k := 2 * n + 2) sc_as (fun vs H Q E h => by obtain ⟨_, _, _, _, rfl, _⟩ := h; rfl) fun c Pt A outer s H vs Q E TB hP hr h => ?_
  refine ⟨_, pss_one (ps_ret (pe_callTy call_tuple_of (by rfl) m2 (by decide +kernel) (pa_cons (pe_callB (cr_sortedT rfl hr.units) (by rfl) m3 (by decide +kernel) (pa_cons
    (pe_dc3 (own := [("rule", 1), ("side", 2), ("pair", 3)]) (vs1 := [2, 3]) (vs2 := [3]) (g := gName 1) (g1 := gName 2) (g2 := gName 3) (wi1 := iTup K (tVar 1)) (wi2 := iTup K (tCall (spSg G K n) [] (fun _ _ _ => False) (tCons (tVar 2) tNil))) (Nat.lt_of_le_of_lt (Nat.le_add_right _ 2) (units2 hr)) rfl sc_as.nd (pi_list (pv 0)) (blkOk_by (N := NAs) (sc := defScope s_all_signs) (by decide +kernel)) (by decide) (by decide)
      (fun _ _ _ _ _ => pg_name (i := 1) sc_as.nd rfl (Or.inl rfl)) (fun _ _ _ _ _ => pi_tup (pv 1)) (fun _ _ _ _ _ => pg_name (i := 2) sc_as.nd rfl (Or.inl rfl))
      (fun _ _ _ _ _ => pi_tup (pe_cl si hr rfl (pa_cons (pv 2) pa_nil))) (fun _ _ _ _ _ => pg_name (i := 3) sc_as.nd rfl (Or.inl rfl)) (fun _ _ _ _ _ => pv 3) (fun _ _ _ _ _ => pe_bl)) pa_nil)) pa_nil))), ?_⟩
  obtain ⟨tG, a, xs, r, rfl, hs, hrr, o1, o2, d1, d2, hn, q⟩ := h
  have sgs_le : ∀ t : Rh.T, t.dp < n → t.sgs.length ≤ 5000 := fun t ht => by
    have h1 := Rh.T.sgs_len t
    have h2 : t.size < 5000 := Nat.lt_of_lt_of_le (Rh.T.size_le t) (Nat.le_trans (Nat.pow_le_pow_right (by decide) (show t.dp + 1 ≤ 12 by omega)) (by decide))
    omega
  refine ⟨.ref a, rfl, a, rfl, ⟨xs, hs⟩, fun D hD => ?_⟩
  have lx := dpA_len hrr
  refine wk_list (K := K) (a := a) (xs := xs) (fun i Hk => Ext G H Hk ∧ ∃ acc : List (List L2.Key × V), Hk D = some (.dT acc) ∧ acc.length ≤ i * 10000 ∧ ∀ kv ∈ acc, kv.1 ∈ r.1.sgs ∨ kv.1 ∈ r.2.sgs)
    ⟨Ext.new hD, [], upd_same, Nat.zero_le _, fun kv h => by cases h⟩ (fun i Hk _ z => z.1.sqL tG hs) (fun i x Hk hx z => ?_) (fun Hk z => ?_)
  · obtain ⟨y, acc, e1, e2, e3⟩ := z
    obtain ⟨dd, hd2, rd⟩ := dpA_getV hrr hx
    have hi : i = 0 := by
      have := (List.getElem?_eq_some_iff.mp hd2).1
      simp at this
      exact this
    subst hi
    simp only [List.getElem?_cons_zero, Option.some.injEq] at hd2
    subst hd2
    obtain ⟨u, ws, rfl, hs2, hr2⟩ := dp_tup (show Dp K H x (.tuple [enc r.1, enc r.2]) from rd)
    have lw := dpA_len hr2
    refine ⟨rfl, .ref u, rfl, u, rfl, ⟨ws, y.sqT tG hs2⟩, ?_⟩
    refine wk_tup (K := K) (a := u) (xs := ws) (fun j Hk => Ext G H Hk ∧ ∃ acc : List (List L2.Key × V), Hk D = some (.dT acc) ∧ acc.length ≤ j * 5000 ∧ ∀ kv ∈ acc, kv.1 ∈ r.1.sgs ∨ kv.1 ∈ r.2.sgs)
      ⟨y, acc, e1, by omega, e3⟩ (fun j Hk _ z => z.1.sqT tG hs2) (fun j x Hk hx z => ?_) (fun Hk z => ?_)
    · obtain ⟨y, acc, e1, e2, e3⟩ := z
      obtain ⟨dd, hd2, rd⟩ := dpA_getV hr2 hx
      obtain ⟨hj, t, rfl, ht⟩ := two_get hd2
      have ot : t.ok := by rcases ht with h | h <;> rw [h] <;> assumption
      have dt : t.dp < n := by rcases ht with h | h <;> rw [h] <;> assumption
      have tk := tG.ext y
      have tm : ∀ k ∈ t.sgs, k ∈ r.1.sgs ∨ k ∈ r.2.sgs := fun k hk => by
        rcases ht with h | h
        · exact .inl (h ▸ hk)
        · exact .inr (h ▸ hk)
      refine ⟨rfl, ?_⟩
      refine s_wkSg (K := K) (σ := [some (.ref a), some (.ref u), some x, none]) tk (ea_one (edx_of (ed_var (i := 2) tk rfl (dp_ext y tG rd)))) ot dt (by omega) fun p ys H5 x5 e5 tr => ?_
      have y5 := y.trans x5
      have eD5 := x5.at tk e1 (fun ps z => by cases z)
      have ly := tr.len
      rw [List.length_map] at ly
      have lt := sgs_le t dt
      refine wk_tup (K := K) (a := p) (xs := ys) (fun l Hk => Ext G H Hk ∧ SqT K Hk p ys ∧ TrA Hk ys (t.sgs.map ksD) ∧ ∃ acc : List (List L2.Key × V), Hk D = some (.dT acc) ∧ acc.length ≤ j * 5000 + l ∧ ∀ kv ∈ acc, kv.1 ∈ r.1.sgs ∨ kv.1 ∈ r.2.sgs)
        ⟨y5, .inl (.inl e5), tr, acc, eD5, by omega, e3⟩ (fun l Hk _ z => z.2.1) (fun l x Hk hx z => ?_) (fun Hk z => ?_)
      · obtain ⟨y6, s6, tr6, acc6, e6, l6, m6⟩ := z
        obtain ⟨dd, hd3, tz⟩ := tr6.get hx
        rw [List.getElem?_map] at hd3
        obtain ⟨k, hk, rfl⟩ := Option.map_eq_some_iff.mp hd3
        obtain ⟨bz, k2, rfl, ek, hbz⟩ := tz
        have := ksD_inj ek
        subst this
        have hl := (List.getElem?_eq_some_iff.mp hk).1
        have mk := tm k (List.mem_of_getElem? hk)
        refine ⟨rfl, .ref bz, rfl, acc6, k, bz, rfl, e6, hbz, by rw [sizeLine_eq]; omega, ?_⟩
        refine ⟨y6.mut hD e6 (fun ps z => by cases z), sqT_updT e6 s6, tr6.updT e6, _, upd_same, by have := length_putK acc6 k (.bl true); omega, fun kv hkv => ?_⟩
        have mm : kv.1 ∈ addK (acc6.map (·.1)) k := by
          rw [← putK_keysT acc6 k (.bl true)]
          exact List.mem_map_of_mem (f := (·.1)) hkv
        rcases addK_mem mm with z | z
        · obtain ⟨kv', hkv', e⟩ := List.mem_map.mp z
          rw [← e]
          exact m6 kv' hkv'
        · rw [z]; exact mk
      · obtain ⟨y6, s6, tr6, acc6, e6, l6, m6⟩ := z
        exact ⟨y6, acc6, e6, by omega, m6⟩
    · obtain ⟨y, acc, e1, e2, e3⟩ := z
      have lw2 : ws.length = 2 := lw
      rw [lw2] at e2
      exact ⟨y, acc, e1, by omega, e3⟩
  · obtain ⟨y, acc, e1, e2, e3⟩ := z
    have sg : ∀ k ∈ acc.map (·.1), IsSg k := fun k hk => by
      obtain ⟨kv, hkv, rfl⟩ := List.mem_map.mp hk
      rcases e3 kv hkv with z | z
      · exact Rh.T.sgs_sg _ _ z
      · exact Rh.T.sgs_sg _ _ z
    have em : (acc.map fun p => ksD p.1) = (acc.map (·.1)).map ksD := by rw [List.map_map]; rfl
    refine ⟨D, acc, rfl, .inl e1, by rw [em]; exact sg_alike sg, by rw [em]; exact sg_sortable sg, fun p hp => sg_depth (sg _ (List.mem_map.mpr ⟨p, hp, rfl⟩)), fun ys p tr hp => ?_⟩
    have tj := tG.ext y
    rw [em, srtK_D] at tr
    have xp : Ext G Hk (upd Hk p (.lst ys)) := Ext.new hp
    refine ⟨p, ys, rfl, .inl ⟨.inl (.inl upd_same), fun l hl => ?_⟩⟩
    have xl : Ext G (upd Hk p (.lst ys)) (upd (upd Hk p (.lst ys)) l (.tup ys)) := Ext.new hl
    refine q l ys (srtK (acc.map (·.1))) _ (y.trans (xp.trans xl)) upd_same ((tr.ext xp tj).ext xl (tj.ext xp)) fun k hk => ?_
    obtain ⟨kv, hkv, rfl⟩ := List.mem_map.mp ((srtK_perm _).mem_iff.mp hk)
    exact e3 kv hkv
end
end Rh
set_option Elab.async false
set_option linter.all false
set_option maxRecDepth 100000
set_option maxHeartbeats 400000
/-! ends_by_sums -/
namespace Rh
open PySem PySem.Spec PyProof.Rows L2 L2.DX GxR Gx Dl LiI LamX
def SgIn (g : Sgn) (k : List L2.Key) : Prop := ∃ (s : Str) (ar : Nat), k = [.inr s, .inl (ar : Int)] ∧ g s = some ar
theorem sgs_sg_in {g : Sgn} : ∀ {t : T}, t.sg g → ∀ k ∈ t.sgs, SgIn g k
  | .v _, _, k, h => by cases h
  | .c s, z, k, h => by
    have := (srtK_perm _).mem_iff.mp h
    rw [List.mem_singleton] at this
    exact ⟨s, 0, this, z⟩
  | .u s t, z, k, h => by
    rcases foldK_mem ((srtK_perm _).mem_iff.mp h) with h | h
    · rw [List.mem_singleton] at h
      exact ⟨s, 1, h, z.1⟩
    · exact sgs_sg_in (t := t) z.2 k h
  | .b s t r, z, k, h => by
    rcases foldK_mem ((srtK_perm _).mem_iff.mp h) with h | h
    · rw [List.mem_singleton] at h
      exact ⟨s, 2, h, z.1⟩
    · rcases List.mem_append.mp h with h | h
      · exact sgs_sg_in (t := t) z.2.1 k h
      · exact sgs_sg_in (t := r) z.2.2 k h
def sgOf : List L2.Key → Str × Nat
  | [.inr s, .inl i] => (s, i.toNat)
  | _ => (Str.ofString "", 0)
theorem sgOf_in {s : Str} {ar : Nat} : sgOf [.inr s, .inl (ar : Int)] = (s, ar) := by
  show (s, (ar : Int).toNat) = (s, ar)
  rw [Int.toNat_natCast]
theorem sgD_in {g : Sgn} {k : List L2.Key} (h : SgIn g k) : ksD k = sgD (sgOf k) ∧ g (sgOf k).1 = some (sgOf k).2 := by
  obtain ⟨s, ar, rfl, h⟩ := h
  rw [sgOf_in]
  exact ⟨rfl, h⟩
section
variable {P : Program} {w : World} {K : PySem.W.Frag} {mg : Str → Option Value} {base : Heap} {G : List Addr} {f C : Addr} {fd : FuncData}
def spEb (G : List Addr) (K : PySem.W.Frag) (C : Addr) : Sp := fun vs H Q _ => TabsG G H ∧ ∃ (a d : Addr) (xs : List V) (r : Rl) (g : Sgn) (m : Num) (bb : Bool), vs = [.ref a, .ref d] ∧ SqL K H a xs ∧ DpAll K H xs [encRl r] ∧ SumsAt C H d g m ∧ r.1.ok ∧ r.2.ok ∧ r.1.dp < 5 ∧ r.2.dp < 5 ∧ r.1.sg g ∧ r.2.sg g ∧
  (∀ s ar, g s = some ar → ar ≤ 2 ∧ rowOk m (s, ar) = true) ∧ (∀ rows, Ok rows → (∀ k, coef rows k = lin m r.1 k - lin m r.2 k) → grB rows = bb) ∧ ∀ H', Ext G H H' → Q (.bl bb) H'
abbrev NEb : List Str := ["rules", "sums", "a", "b"]
theorem sc_eb : FnScope NEb ["rules", "sums"] (defScope s_ends_by_sums) := ⟨rfl, rfl, rfl, by decide +kernel, rfl, by decide +kernel, by decide +kernel⟩
theorem cl_eb (D : DefF K mg base G "ends_by_sums" s_ends_by_sums ["rules", "sums"] f fd) (gr : Cl0 P w K mg base 5 "grows" (spGr SqT G K C)) (as : Cl0 P w K mg base 13 "all_signs" (spAs G K 5)) (gt : Cl0 P w K mg base 6 "is_greater" (spCmp grB G C)) (of : Cl0 P w K mg base 11 "of_term" (spOf G K C 5)) (m1 : mg "all" = none) : Cl0 P w K mg base 20 "ends_by_sums" (spEb G K C) := by
  refine D.clS (k := 19) sc_eb (fun vs H Q E h => by obtain ⟨_, _, _, _, _, _, _, _, rfl, _⟩ := h; rfl) fun c Pt A outer s H vs Q E TB hP hr h => ?_
  refine ⟨_, pss_one (ps_ret (pe_and (pe_cl gr (hr.mono (by omega)) rfl (pa_cons (pv 1) (pa_cons (pe_cl as (hr.mono (by omega)) rfl (pa_cons (pv 0) pa_nil)) pa_nil)))
    (pe_one (pe_allG (own := [("a", 2), ("b", 3)]) (g := gTup K 2 (gCons (gName 2) (gCons (gName 3) gNil))) hr sc_eb.nd TB rfl (blkOk_by (N := NEb) (sc := defScope s_ends_by_sums) (by decide +kernel)) m1 (pi_list (pv 0))
      (fun s H C code fp A _ => pg_tup rfl (pgs_cons (pg_name (i := 2) sc_eb.nd rfl (Or.inl rfl)) (pgs_cons (pg_name (i := 3) sc_eb.nd rfl (Or.inl rfl)) pgs_nil))) (fun s H C code fp A _ => pts_nil)
      (fun s H C code fp A r => pe_cl gt (r.mono (by omega)) rfl (pa_cons (pe_cl of (r.mono (by omega)) rfl (pa_cons (pv 2) (pa_cons (pv 1) pa_nil))) (pa_cons (pe_cl of (r.mono (by omega)) rfl (pa_cons (pv 3) (pa_cons (pv 1) pa_nil))) pa_nil))))))), ?_⟩
  obtain ⟨tG, a, d, xs, r, g, m, bb, rfl, hs, hrr, sm, o1, o2, d1, d2, s1, s2, hrow, hbb, q⟩ := h
  refine ⟨.ref d, rfl, ?_⟩
  refine tcall1 (v := .ref a) (fun Q q => ⟨.ref a, rfl, q⟩) ?_
  refine ⟨tG, a, xs, r, rfl, hs, hrr, o1, o2, d1, d2, by decide, fun p ys ks H1 y1 e1 tr mem => ?_⟩
  have t1 := tG.ext y1
  have kin : ∀ k ∈ ks, SgIn g k := fun k hk => by
    rcases mem k hk with z | z
    · exact sgs_sg_in s1 k z
    · exact sgs_sg_in s2 k z
  have ek : ks.map ksD = (ks.map sgOf).map sgD := by
    rw [List.map_map]
    exact List.map_congr_left fun k hk => (sgD_in (kin k hk)).1
  have hd := tr.dp (K := K)
  rw [ek] at hd
  have okp : ∀ p ∈ ks.map sgOf, g p.1 = some p.2 := fun p hp => by
    obtain ⟨k, hk, rfl⟩ := List.mem_map.mp hp
    exact (sgD_in (kin k hk)).2
  refine ⟨t1, d, p, ys, ks.map sgOf, g, m, rfl, sm.ext tG y1, .inl (.inl e1), hd, fun p hp => ⟨okp p hp, (hrow _ _ (okp p hp)).1⟩, fun H2 y2 => ?_⟩
  rw [show (ks.map sgOf).all (rowOk m) = true from List.all_eq_true.mpr fun p hp => (hrow _ _ (okp p hp)).2]
  have y12 := y1.trans y2
  have t2 := tG.ext y12
  refine ⟨true, rfl, ?_⟩
  rw [if_pos rfl]
  have lx : xs.length = 1 := dpA_len hrr
  refine ⟨.ref a, rfl, a, rfl, ⟨xs, y12.sqL tG hs⟩, t2 Pt hP, fun H3 hT => ?_⟩
  have x3 : Ext G H2 H3 := Ext.tabbed hP hT
  refine ⟨fun k m al Hk => m = xs.length - k ∧ k ≤ xs.length ∧ Ext G H Hk ∧ (1 ≤ k → bb = true), ⟨xs.length, fun tk => ⟨rfl, Nat.zero_le _, y12.trans x3, fun z => absurd z (by decide)⟩⟩, ?_⟩
  rintro k m' al Hk ⟨rfl, hk, y4, hb⟩
  by_cases hlt : k < xs.length
  · refine .inr ⟨⟨xs, xs[k], y4.sqL tG hs, by simp [hlt]⟩, fun al' H' => Ext G H H' ∧ bb = true, fun al' H' z => ⟨xs.length - (k + 1), by omega, rfl, hlt, z.1, fun _ => z.2⟩, fun x H' hy => ?_⟩
    obtain ⟨e1, e2⟩ := hy
    subst e1
    obtain ⟨dd, hd2, rd⟩ := dpA_getV hrr (e2 xs (y4.sqL tG hs))
    have hk0 : k = 0 := by omega
    subst hk0
    simp only [List.getElem?_cons_zero, Option.some.injEq] at hd2
    subst hd2
    obtain ⟨u, ws, rfl, hs2, hr2⟩ := dp_tup (show Dp K H' x (.tuple [enc r.1, enc r.2]) from dp_ext y4 tG rd)
    obtain ⟨w1, w2, rfl, rw1, rw2⟩ := dpA_two hr2
    have t4 := tG.ext y4
    refine ⟨u, [w1, w2], rfl, hs2, rfl, w1, [w2], rfl, w2, [], rfl, rfl, rfl, ?_⟩
    dsimp only [tYes]
    refine iteT ?_
    show tCons _ _ _ _ _
    refine s_consQ ?_
    refine tcall2 (v := w1) (u := .ref d) (fun Q q => ⟨w1, rfl, q⟩) (fun Q q => ⟨.ref d, rfl, q⟩) ?_
    refine ⟨t4, w1, d, r.1, g, m, rfl, rw1, sm.ext tG y4, o1, d1, by decide, s1, fun z1 rows1 H5 y5 sz1 l1 => ?_⟩
    have t5 := t4.ext y5
    show tCons _ _ _ _ _
    refine s_consQ ?_
    refine tcall2 (v := w2) (u := .ref d) (fun Q q => ⟨w2, rfl, q⟩) (fun Q q => ⟨.ref d, rfl, q⟩) ?_
    refine ⟨t5, w2, d, r.2, g, m, rfl, dp_ext y5 t4 rw2, (sm.ext tG y4).ext t4 y5, o2, d2, by decide, s2, fun z2 rows2 H6 y6 sz2 l2 => ?_⟩
    have n1 := l1.len s1
    have n2 := l2.len s2
    refine ⟨t5.ext y6, z1, z2, rows1, rows2, rfl, sz1.ext t5 y6, sz2, l1.ok, l2.ok, by omega, by omega, fun rows H7 y7 ok cf => ⟨grB rows, rfl, ?_⟩⟩
    have yy := ((y4.trans y5).trans y6).trans y7
    have e : grB rows = bb := hbb rows ok fun k => by rw [cf, l1.cf, l2.cf]
    rw [e]
    cases hbv : bb with
    | true => exact ⟨yy, rfl⟩
    | false =>
      have := q H7 yy
      rw [hbv] at this
      exact this
  · have e : k = 1 := by omega
    subst e
    have := q Hk y4
    rw [hb (Nat.le_refl 1)] at this
    exact .inl ⟨⟨xs, y4.sqL tG hs, by omega⟩, this⟩
end
end Rh
set_option Elab.async false
set_option linter.all false
set_option maxRecDepth 100000
set_option maxHeartbeats 1000000
/-! law -/
namespace Rh
open PySem PySem.Spec PyProof.Rows L2 L2.DX GxR Gx Dl LiI LamX
abbrev NL : List Str := ["script", "dice", "numbers", "sign", "a", "b", "one", "two", "turn", "row", "c", "d", "table", "rules", "fit", "sums", "k"]
theorem sc_law : FnScope NL ["script"] (defScope s_law) := ⟨rfl, rfl, rfl, by decide +kernel, rfl, by decide +kernel, by decide +kernel⟩
def stL (i : Nat) : Stmt := (defBody s_law).getD i (.Pass ⟨0, 0, 0, 0⟩)
def forB (i : Nat) : Stmt := match stL 0 with
  | .For _ _ body _ _ => body.getD i (.Pass ⟨0, 0, 0, 0⟩)
  | _ => .Pass ⟨0, 0, 0, 0⟩
section
variable {P : Program} {w : World} {K : PySem.W.Frag} {mg : Str → Option Value} {base : Heap} {G : List Addr} {f C fi CT CB CN CL Pl : Addr} {fd fdi gd : FuncData}
abbrev XL (P : Program) (w : World) (K : PySem.W.Frag) (mg : Str → Option Value) (base : Heap) (f : Addr) (c : Addr) (A : Around) (outer : List Env) (s : Shared) (H : Hp) (E : XK) : Cx := (cxOf CX0 P w K mg base NL "law" (defScope s_law) f (.ref c) A outer s H E).nox
structure LF (P : Program) (w : World) (K : PySem.W.Frag) (mg : Str → Option Value) (base : Heap) (G : List Addr) (C fi : Addr) (fdi : FuncData) : Prop where
  ro : Cl0 P w K mg base 2 "_law_rounds" (spRounds G K)
  rl : Cl0 P w K mg base 1 "_law_roll" (spRoll G)
  te : Cl0 P w K mg base 6 "_law_term" (spTerm G K 5)
  of : Cl0 P w K mg base 11 "of_term" (spOf G K C 5)
  lv : Cl0 P w K mg base 8 "_law_value" (spLv G K 5)
  va : Cl0 P w K mg base 2 "value" (spVal G C)
  ad : Cl0 P w K mg base 4 "add" (spAdd G C)
  ti : Cl0 P w K mg base 4 "times" (spTimes G C)
  gt : Cl0 P w K mg base 6 "is_greater" (spCmp grB G C)
  nl : Cl0 P w K mg base 6 "no_less" (spCmp leB G C)
  gr : Cl0 P w K mg base 5 "grows" (spGr SqL G K C)
  eb : Cl0 P w K mg base 20 "ends_by_sums" (spEb G K C)
  T : SumC K C
  M : Mk K C fi
  I : FnOk P w K mg base CX0 2 fi fdi ["self", "rows"] (spSI G K C)
  mS : mg "Sum" = some (.ref C)
  b : Binds K fdi ["self", "rows"] []
  range : mg "range" = none
  len : mg "len" = none
  str : mg "str" = none
section
variable {c : Addr} {A : Around} {outer : List Env} {s : Shared} {H0 : Hp} {E : XK} (F : LF P w K mg base G C fi fdi) (hr : Room 40 (XL P w K mg base f c A outer s H0 E).A)
include F hr
theorem b0 : ∃ t, PS (XL P w K mg base f c A outer s H0 E) (forB 0) t := ⟨_, ps_set (i := 2) sc_law.nd rfl (Or.inr rfl) (pe_disp
  (pps_cons pe_str (pe_lst (pa_cons (pe_cl F.rl (hr.mono (by omega)) rfl (pa_cons (pv 1) (pa_cons pe_int pa_nil))) pa_nil))
  (pps_cons pe_str (pe_lst (pa_cons (pe_cl F.rl (hr.mono (by omega)) rfl (pa_cons (pv 1) (pa_cons pe_int pa_nil))) pa_nil))
  (pps_cons pe_str (pe_lst (pa_cons (pe_cl F.rl (hr.mono (by omega)) rfl (pa_cons (pv 1) (pa_cons pe_int pa_nil))) (pa_cons (pe_cl F.rl (hr.mono (by omega)) rfl (pa_cons (pv 1) (pa_cons pe_int pa_nil))) pa_nil)))
  (pps_cons pe_str (pe_lst (pa_cons (pe_cl F.rl (hr.mono (by omega)) rfl (pa_cons (pv 1) (pa_cons pe_int pa_nil))) (pa_cons (pe_cl F.rl (hr.mono (by omega)) rfl (pa_cons (pv 1) (pa_cons pe_int pa_nil))) (pa_cons (pe_cl F.rl (hr.mono (by omega)) rfl (pa_cons (pv 1) (pa_cons pe_int pa_nil))) pa_nil))))
  pps_nil)))) (by rfl) (by rfl) (fun z => by cases z) (by decide))⟩
theorem b1 : ∃ t, PS (XL P w K mg base f c A outer s H0 E) (forB 1) t := ⟨_, ps_set (i := 15) sc_law.nd rfl (Or.inr rfl) pe_dnewK⟩
theorem b2 : ∃ t, PS (XL P w K mg base f c A outer s H0 E) (forB 2) t := ⟨_, ps_lock (ps_for PassesOwn.never rfl (pi_keys (pv 2)) (pg_name (i := 3) sc_law.nd rfl (Or.inr rfl))
  (pss_one (ps_dput (hu_of hr) (pv 15) (pv 3) (pe_make F.M F.I (hr.mono (by omega)) (by rfl) F.mS F.b .nil pass0 (pa_cons (pe_op op_cat (pe_lst (pa_cons (pe_tup (pa_cons (pe_tup pa_nil) (pa_cons (pe_ix ix_list (pe_dget (hu_of hr) (pv 2) (pv 3) (fun _ _ => rfl)) pe_int (fun _ _ => rfl)) pa_nil))) pa_nil))
    (pe_lc (own := [("k", 16)]) (g := gName 16) (tt := tYes) (te := tTup (tCons (tTup (tCons (tOp (fun x y H Q => ∃ i j, x = .str i ∧ y = .str j ∧ i.length + j.length ≤ sizeLine ∧ Q (.str (i ++ j)) H) (tC (.str "x")) (tCB (fun xs H Q => ∃ i, xs = [.int i] ∧ i.natAbs.log2 < 1920 ∧ Q (.str (toString i)) H) (tCons (tVar 16) tNil))) tNil)) (tCons (tOp (rIxL K) (tDGet (tVar 2) (tVar 3)) (tOp (rI0 fun i j => .int (i + j)) (tVar 16) (tC (.int 1)))) tNil)))
      rfl sc_law.nd (pi_range1 rfl F.range (pa_cons (pe_op op_sub (pe_callB call_len_seq (by rfl) F.len PySem.boot_len (pa_cons (pe_dget (hu_of hr) (pv 2) (pv 3) (fun _ _ => rfl)) pa_nil)) pe_int) pa_nil)) (blkOk_by (N := NL) (sc := defScope s_law) (by decide +kernel))
      (fun _ _ _ _ _ => pg_name (i := 16) sc_law.nd rfl (Or.inl rfl)) (fun _ _ _ _ _ => pts_nil) (fun _ _ _ _ _ => pe_tup (pa_cons (pe_tup (pa_cons (pe_op op_add_str pe_str (pe_callTy call_str_int (by rfl) F.str (by decide +kernel) (pa_cons (pv 16) pa_nil))) pa_nil)) (pa_cons (pe_ix ix_list (pe_dget (hu_of hr) (pv 2) (pv 3) (fun _ _ => rfl)) (pe_op op_add (pv 16) pe_int) (fun _ _ => rfl)) pa_nil)))) ) pa_nil)) (by rfl))))⟩
theorem b3 : ∃ t, PS (XL P w K mg base f c A outer s H0 E) (forB 3) t := ⟨_, ps_par (i := 4) (j := 5) (by rfl) sc_law.nd rfl rfl (by decide) rfl rfl (pa_cons (pe_cl F.te (hr.mono (by omega)) rfl (pa_cons (pv 1) (pa_cons pe_int (pa_cons (pe_lst (pa_cons pe_str (pa_cons pe_str pa_nil))) pa_nil)))) (pa_cons (pe_cl F.te (hr.mono (by omega)) rfl (pa_cons (pv 1) (pa_cons pe_int (pa_cons (pe_lst (pa_cons pe_str (pa_cons pe_str pa_nil))) pa_nil)))) pa_nil)) rfl⟩
theorem b4 : ∃ t, PS (XL P w K mg base f c A outer s H0 E) (forB 4) t := ⟨_, ps_par (i := 6) (j := 7) (by rfl) sc_law.nd rfl rfl (by decide) rfl rfl (pa_cons (pe_cl F.of (hr.mono (by omega)) rfl (pa_cons (pv 4) (pa_cons (pv 15) pa_nil))) (pa_cons (pe_cl F.of (hr.mono (by omega)) rfl (pa_cons (pv 5) (pa_cons (pv 15) pa_nil))) pa_nil)) rfl⟩
end
end
end Rh
set_option Elab.async false
set_option linter.all false
set_option maxRecDepth 100000
set_option maxHeartbeats 1000000
/-! law: the statements -/
namespace Rh
open PySem PySem.Spec PyProof.Rows L2 L2.DX GxR Gx Dl LiI LamX
def turnB (i : Nat) : Stmt := match forB 5 with
  | .For _ _ body _ _ => body.getD i (.Pass ⟨0, 0, 0, 0⟩)
  | _ => .Pass ⟨0, 0, 0, 0⟩
section
variable {P : Program} {w : World} {K : PySem.W.Frag} {mg : Str → Option Value} {base : Heap} {G : List Addr} {f g C fi CT CB CN CL Pl : Addr} {fd fdi gd : FuncData}
section
variable {c : Addr} {A : Around} {outer : List Env} {s : Shared} {H0 : Hp} {E : XK} (F : LF P w K mg base G C fi fdi) (hr : Room 40 (XL P w K mg base f c A outer s H0 E).A)
include F hr
theorem b50 : ∃ t, PS (XL P w K mg base f c A outer s H0 E) (turnB 0) t := ⟨_, ps_set (i := 9) sc_law.nd rfl (Or.inl rfl) (pe_disp (pps_cons pe_str (pe_cl F.rl (hr.mono (by omega)) rfl (pa_cons (pv 1) (pa_cons pe_int pa_nil))) (pps_cons pe_str (pe_cl F.rl (hr.mono (by omega)) rfl (pa_cons (pv 1) (pa_cons pe_int pa_nil))) pps_nil)) (by rfl) (by rfl) (fun z => by cases z) (by decide))⟩
theorem b51 : ∃ t, PS (XL P w K mg base f c A outer s H0 E) (turnB 1) t := ⟨_, ps_par (i := 10) (j := 11) (by rfl) sc_law.nd rfl rfl (by decide) rfl rfl (pa_cons (pe_cl F.lv (hr.mono (by omega)) rfl (pa_cons (pv 4) (pa_cons (pv 2) (pa_cons (pv 9) pa_nil)))) (pa_cons (pe_cl F.lv (hr.mono (by omega)) rfl (pa_cons (pv 5) (pa_cons (pv 2) (pa_cons (pv 9) pa_nil)))) pa_nil)) rfl⟩
theorem b52 : ∃ t, PS (XL P w K mg base f c A outer s H0 E) (turnB 2) t := ⟨_, ps_if (PW.pt (pw_or (pt_cmpR op_ne (pe_cl F.va (hr.mono (by omega)) rfl (pa_cons (pv 6) (pa_cons (pv 9) pa_nil))) (pv 10) (nomark _)) (pw_or (pt_cmpR op_ne (pe_cl F.va (hr.mono (by omega)) rfl (pa_cons (pe_cl F.ad (hr.mono (by omega)) rfl (pa_cons (pv 6) (pa_cons (pv 7) pa_nil))) (pa_cons (pv 9) pa_nil))) (pe_op op_add (pv 10) (pv 11)) (nomark _)) (pw_or1 (pt_cmpR op_ne (pe_cl F.va (hr.mono (by omega)) rfl (pa_cons (pe_cl F.ti (hr.mono (by omega)) rfl (pa_cons (pv 6) (pa_cons (pv 7) pa_nil))) (pa_cons (pv 9) pa_nil))) (pe_op op_mul (pv 10) (pv 11)) (nomark _)))))) (pss_one (ps_ret pe_bl)) pss_nil⟩
theorem b53 : ∃ t, PS (XL P w K mg base f c A outer s H0 E) (turnB 3) t := ⟨_, ps_if (PW.pt (pw_or (PW.pt (pw_and (pt_val (pe_cl F.gt (hr.mono (by omega)) rfl (pa_cons (pv 6) (pa_cons (pv 7) pa_nil)))) (pw_and1 (pt_cmpR op_le (pv 10) (pv 11) (nomark _))))) (pw_or1 (PW.pt (pw_and (pt_val (pe_cl F.nl (hr.mono (by omega)) rfl (pa_cons (pv 6) (pa_cons (pv 7) pa_nil)))) (pw_and1 (pt_cmpR op_lt (pv 10) (pv 11) (nomark _)))))))) (pss_one (ps_ret pe_bl)) pss_nil⟩
theorem b6 : ∃ t, PS (XL P w K mg base f c A outer s H0 E) (forB 6) t := ⟨_, ps_if (PW.pt (pw_or (pt_val (pe_cl F.gt (hr.mono (by omega)) rfl (pa_cons (pv 6) (pa_cons (pv 6) pa_nil)))) (pw_or (pt_not (pt_val (pe_cl F.nl (hr.mono (by omega)) rfl (pa_cons (pv 6) (pa_cons (pv 6) pa_nil))))) (pw_or1 (pt_not (pt_val (pe_cl F.gt (hr.mono (by omega)) rfl (pa_cons (pe_cl F.ad (hr.mono (by omega)) rfl (pa_cons (pv 6) (pa_cons (pe_make F.M F.I (hr.mono (by omega)) (by rfl) F.mS F.b .nil pass0 (pa_cons (pe_lst (pa_cons (pe_tup (pa_cons (pe_tup pa_nil) (pa_cons pe_int pa_nil))) pa_nil)) pa_nil)) pa_nil))) (pa_cons (pv 6) pa_nil))))))))) (pss_one (ps_ret pe_bl)) pss_nil⟩
theorem b7 : ∃ t, PS (XL P w K mg base f c A outer s H0 E) (forB 7) t := ⟨_, ps_set (i := 12) sc_law.nd rfl (Or.inl rfl) (pe_lst (pa_cons (pe_tup (pa_cons pe_str (pa_cons pe_int pa_nil))) (pa_cons (pe_tup (pa_cons pe_str (pa_cons pe_int pa_nil))) (pa_cons (pe_tup (pa_cons pe_str (pa_cons pe_int pa_nil))) (pa_cons (pe_tup (pa_cons pe_str (pa_cons pe_int pa_nil))) pa_nil)))))⟩
theorem b8 : ∃ t, PS (XL P w K mg base f c A outer s H0 E) (forB 8) t := ⟨_, ps_if (pt_cmpR op_ne (pe_cl F.gr (hr.mono (by omega)) rfl (pa_cons (pv 15) (pa_cons (pv 12) pa_nil))) (pe_and (pe_cmpR op_gt (pe_ix ix_list (pe_dget (hu_of hr) (pv 2) pe_str (fun _ _ => rfl)) pe_int (fun _ _ => rfl)) pe_int (nomark _)) (pe_and (pe_cmpR op_gt (pe_ix ix_list (pe_dget (hu_of hr) (pv 2) pe_str (fun _ _ => rfl)) pe_int (fun _ _ => rfl)) pe_int (nomark _)) (pe_one (pe_cmpR op_gt (pe_ix ix_list (pe_dget (hu_of hr) (pv 2) pe_str (fun _ _ => rfl)) pe_int (fun _ _ => rfl)) pe_int (nomark _))))) (nomark _)) (pss_one (ps_ret pe_bl)) pss_nil⟩
theorem b9 : ∃ t, PS (XL P w K mg base f c A outer s H0 E) (forB 9) t := ⟨_, ps_set (i := 13) sc_law.nd rfl (Or.inl rfl) (pe_lst (pa_cons (pe_tup (pa_cons (pe_tup (pa_cons pe_str (pa_cons (pe_tup (pa_cons (pe_tup (pa_cons pe_str (pa_cons (pe_tup (pa_cons pe_str (pa_cons pe_str pa_nil))) pa_nil))) pa_nil)) pa_nil))) (pa_cons (pe_tup (pa_cons pe_str (pa_cons (pe_tup (pa_cons (pe_tup (pa_cons pe_str (pa_cons (pe_tup (pa_cons pe_str pa_nil)) pa_nil))) (pa_cons (pe_tup (pa_cons pe_str (pa_cons (pe_tup (pa_cons pe_str pa_nil)) pa_nil))) pa_nil))) pa_nil))) pa_nil))) pa_nil))⟩
theorem b10 : ∃ t, PS (XL P w K mg base f c A outer s H0 E) (forB 10) t := ⟨_, ps_set (i := 14) sc_law.nd rfl (Or.inl rfl) (pe_disp (pps_cons pe_str (pe_make F.M F.I (hr.mono (by omega)) (by rfl) F.mS F.b .nil pass0 (pa_cons (pe_lst (pa_cons (pe_tup (pa_cons (pe_tup (pa_cons pe_str pa_nil)) (pa_cons pe_int pa_nil))) pa_nil)) pa_nil)) (pps_cons pe_str (pe_make F.M F.I (hr.mono (by omega)) (by rfl) F.mS F.b .nil pass0 (pa_cons (pe_lst (pa_cons (pe_tup (pa_cons (pe_tup (pa_cons pe_str pa_nil)) (pa_cons pe_int pa_nil))) (pa_cons (pe_tup (pa_cons (pe_tup (pa_cons pe_str pa_nil)) (pa_cons pe_int pa_nil))) (pa_cons (pe_tup (pa_cons (pe_tup pa_nil) (pa_cons pe_int pa_nil))) pa_nil)))) pa_nil)) pps_nil)) (by rfl) (by rfl) (fun z => by cases z) (by decide))⟩
theorem b11 : ∃ t, PS (XL P w K mg base f c A outer s H0 E) (forB 11) t := ⟨_, ps_if (PW.pt (pw_or (pt_not (pt_val (pe_cl F.eb (hr.mono (by omega)) rfl (pa_cons (pv 13) (pa_cons (pv 14) pa_nil))))) (pw_or1 (pt_val (pe_cl F.eb (hr.mono (by omega)) rfl (pa_cons (pe_lst (pa_cons (pe_tup (pa_cons (pe_ix ix_tup (pe_ix ix_list (pv 13) pe_int (fun _ _ => rfl)) pe_int (fun _ _ => rfl)) (pa_cons (pe_ix ix_tup (pe_ix ix_list (pv 13) pe_int (fun _ _ => rfl)) pe_int (fun _ _ => rfl)) pa_nil))) pa_nil)) (pa_cons (pv 14) pa_nil))))))) (pss_one (ps_ret pe_bl)) pss_nil⟩
end
section
variable {c : Addr} {A : Around} {outer : List Env} {s : Shared} {H0 : Hp} {E : XK} (hr : Room 40 (XL P w K mg base f c A outer s H0 E).A)
include hr
theorem b12 (TB : LamX.TabB base mg c Pl) (D : DefF K mg base G "_law_told" s_told_law ["what"] g gd) (cx : ClX P w K mg base 4 "of_term" (spOfE G K CB)) (mT : mg "BadTerm" = some (.ref CT)) (mB : mg "BadRule" = some (.ref CB)) (mN : mg "NoWay" = some (.ref CN)) (mL : mg "TooLarge" = some (.ref CL))
    (e1 : PySem.W.exmOne K (.ref CB) (.ref CT) = some false) (e2 : PySem.W.exmOne K (.ref CB) (.ref CB) = some true) : ∃ t, PS (XL P w K mg base f c A outer s H0 E) (forB 12) t ∧
    t = tIfS (tTest (tOp rNe (tLam1 Pl ((XL P w K mg base f c A outer s H0 E).env.qual ++ "<lambda>") (TTrule CB) fun E => tCall (spOfE G K CB) [] E (tCons (tTup (tCons (tC (.str (Str.ofString "k"))) (tCons (tTup tNil) tNil))) (tCons (tVar 15) tNil))) (tC (.str (Str.ofString "rule"))))) (tRet (tC (.bl false))) tNext := by
  obtain ⟨c0, Pt, F, _, _⟩ := D.cP
  obtain ⟨oc, od, kV, doc, pm, an, ct, osl, rfl, lk, hcd⟩ := F.ex
  refine ⟨_, ps_if (pt_cmpR op_ne (pe_lam1 (t := fun E => tCall (spOfE G K CB) [] E (tCons (tTup (tCons (tC (.str (Str.ofString "k"))) (tCons (tTup tNil) tNil))) (tCons (tVar 15) tNil))) (k := 4) (Ng := ["what"]) (a := "what") rfl D.m F.kp lk hcd D.b sc_told_law rfl (.inl rfl)
      (told_rule (X := XL P w K mg base f c A outer s H0 E) mT mB mN mL e1 e2) TB rfl (hr.mono (by omega)) (LamX.lamS_by (sc := defScope s_law) (by decide +kernel)) rfl (fun _ _ _ _ _ => rfl)
      (fun A outer s H E f c' r => pe_clX cx r rfl (passes_call (takes_of rfl rfl rfl rfl) (fun _ _ _ _ h => h)) (pa_cons (pe_tup (pa_cons pe_str (pa_cons (pe_tup pa_nil) pa_nil))) (pa_cons (pv 15) pa_nil)))) pe_str (nomark _)) (pss_one (ps_ret pe_bl)) pss_nil, ?_⟩
  rfl
end
end
end Rh
set_option Elab.async false
set_option linter.all false
set_option maxRecDepth 100000
set_option maxHeartbeats 1000000
/-! law: helpers, the numbers -/
namespace Rh
open PySem PySem.Spec PyProof.Rows L2 L2.DX GxR Gx Dl LiI LamX
section
variable {G : List Addr} {K : PySem.W.Frag} {σ : L2.St} {H H' : Hp} {D : Addr}
theorem at_D (x : Ext (D :: G) H H') (t : TabsG G H) {a : Addr} {o : HO} (e : H a = some o) (n : ∀ ps, o ≠ .tbl ps) (ne : a ≠ D) : H' a = some o := x.keep a (fun z => by
  rcases List.mem_cons.mp z with z | z
  · exact ne z
  · exact notTab t e n z) o e
theorem _root_.Dl.DiceAt.ne {n : Nat} (d : DiceAt n H D) {a : Addr} (h : H a = none) : a ≠ D := fun z => by
  obtain ⟨l, e⟩ := d.new
  rw [z, e] at h
  cases h
theorem _root_.Dl.DiceAt.ne2 {n : Nat} (d : DiceAt n H D) {a : Addr} {o : HO} (h : H a = some o) (no : ∀ l, o ≠ .lst l) : a ≠ D := fun z => by
  obtain ⟨l, e⟩ := d.new
  rw [z, e] at h
  cases h
  exact no _ rfl
theorem run_roll {n m : Nat} {E : XK} {Q : VK} (tG : TabsG G H) (h : σ[1]? = some (some (.ref D))) (hm : 0 < m) (hm2 : m < 1000000) (hn : n < 1000000000) (hD : DiceAt n H D) (q : ∀ (r : Nat) H', r < m → Ext (D :: G) H H' → DiceAt (n + 1) H' D → Q (.int r) H') :
    tCall (spRoll G) [] E (tCons (tVar 1) (tCons (tC (.int m)) tNil)) σ H Q := tcall2 (v := .ref D) (u := .int m) (fun Q q => ⟨_, h, q⟩) (fun Q q => q) ⟨tG, D, m, n, rfl, hm, hm2, hn, hD, q⟩
abbrev rl3 (G : List Addr) : TE := tCall (spRoll G) [] (fun _ _ _ => False) (tCons (tVar 1) (tCons (tC (.int 3)) tNil))
theorem run_l {n : Nat} {Q : VK} {H1 : Hp} {vs : List V} (x : Ext (D :: G) H H1) (d : DiceAt n H1 D) (hv : vs.length ≤ 3) (q : ∀ l H', Ext (D :: G) H H' → DiceAt n H' D → l ≠ D → H' l = some (.lst vs) → Q (.ref l) H') : vs.length ≤ sizeLine ∧ ∀ p, H1 p = none → Q (.ref p) (upd H1 p (.lst vs)) :=
  ⟨Nat.le_trans hv (by decide), fun p hp => q p _ (x.trans (Ext.new hp)) (d.upd fun z => d.ne hp z.symm) (d.ne hp) upd_same⟩
theorem run_l1 {n : Nat} {Q : VK} (tG : TabsG G H) (h : σ[1]? = some (some (.ref D))) (hn : n < 1000000) (hD : DiceAt n H D) (q : ∀ (r : Nat) l H', r < 3 → Ext (D :: G) H H' → DiceAt (n + 1) H' D → l ≠ D → H' l = some (.lst [.int r]) → Q (.ref l) H') : tLst (tCons (rl3 G) tNil) σ H Q :=
  run_roll (G := G) (m := 3) tG h (by decide) (by decide) (by omega) hD fun r H1 l1 x1 d1 => run_l x1 d1 (by show 1 ≤ 3; decide) fun l H' x d ne e => q r l H' l1 x d ne e
theorem run_l2 {n : Nat} {Q : VK} (tG : TabsG G H) (h : σ[1]? = some (some (.ref D))) (hn : n < 1000000) (hD : DiceAt n H D) (q : ∀ (r r2 : Nat) l H', r < 3 → r2 < 3 → Ext (D :: G) H H' → DiceAt (n + 2) H' D → l ≠ D → H' l = some (.lst [.int r, .int r2]) → Q (.ref l) H') : tLst (tCons (rl3 G) (tCons (rl3 G) tNil)) σ H Q :=
  run_roll (G := G) (m := 3) tG h (by decide) (by decide) (by omega) hD fun r H1 l1 x1 d1 => run_roll (G := G) (m := 3) (tG.wide x1) h (by decide) (by decide) (by omega) d1 fun r2 H2 l2 x2 d2 => run_l (x1.trans x2) d2 (by show 2 ≤ 3; decide) fun l H' x d ne e => q r r2 l H' l1 l2 x d ne e
theorem run_l3 {n : Nat} {Q : VK} (tG : TabsG G H) (h : σ[1]? = some (some (.ref D))) (hn : n < 1000000) (hD : DiceAt n H D) (q : ∀ (r r2 r3 : Nat) l H', r < 3 → r2 < 3 → r3 < 3 → Ext (D :: G) H H' → DiceAt (n + 3) H' D → l ≠ D → H' l = some (.lst [.int r, .int r2, .int r3]) → Q (.ref l) H') : tLst (tCons (rl3 G) (tCons (rl3 G) (tCons (rl3 G) tNil))) σ H Q :=
  run_roll (G := G) (m := 3) tG h (by decide) (by decide) (by omega) hD fun r H1 l1 x1 d1 => run_roll (G := G) (m := 3) (tG.wide x1) h (by decide) (by decide) (by omega) d1 fun r2 H2 l2 x2 d2 =>
    run_roll (G := G) (m := 3) ((tG.wide x1).wide x2) h (by decide) (by decide) (by omega) d2 fun r3 H3 l3 x3 d3 => run_l ((x1.trans x2).trans x3) d3 (by show 3 ≤ 3; decide) fun l H' x d ne e => q r r2 r3 l H' l1 l2 l3 x d ne e
theorem s_prs {k : Str} {tv : TE} {trs : List (TE × TE)} {Q : List (V × V) → Hp → Prop} (h : tv σ H fun y H2 => tPairs trs σ H2 fun ps H3 => Q ((.str k, y) :: ps) H3) : tPairs ((tC (.str k), tv) :: trs) σ H Q := h
theorem s_prn {Q : List (V × V) → Hp → Prop} (h : Q [] H) : tPairs [] σ H Q := h
abbrev sA : Str := Str.ofString "a"
abbrev sB : Str := Str.ofString "b"
abbrev sG : Str := Str.ofString "g"
abbrev sF : Str := Str.ofString "f"
/-- the dict of the numbers -/
structure NumD (H : Hp) (D d : Addr) (m : Num) : Prop where
  ex : ∃ la lb lg lf, H d = some (.dK [((.inr sA : L2.Key), V.ref la), (.inr sB, .ref lb), (.inr sG, .ref lg), (.inr sF, .ref lf)]) ∧ (H la = some (.lst ((numL (m sA) 0).map V.int)) ∧ H lb = some (.lst ((numL (m sB) 0).map V.int)) ∧ H lg = some (.lst ((numL (m sG) 1).map V.int)) ∧ H lf = some (.lst ((numL (m sF) 2).map V.int))) ∧ la ≠ D ∧ lb ≠ D ∧ lg ≠ D ∧ lf ≠ D
  nb : NB (m sA) ∧ NB (m sB) ∧ NB (m sG) ∧ NB (m sF)
  ne : d ≠ D
  z : ((m sA).2.1 = 0 ∧ (m sA).2.2 = 0) ∧ ((m sB).2.1 = 0 ∧ (m sB).2.2 = 0) ∧ (m sG).2.2 = 0
theorem NumD.extD {d : Addr} {m : Num} (s : NumD H D d m) (t : TabsG G H) (x : Ext (D :: G) H H') : NumD H' D d m := by
  obtain ⟨⟨la, lb, lg, lf, e, ⟨e1, e2, e3, e4⟩, n1, n2, n3, n4⟩, nb, ne, z⟩ := s
  exact ⟨⟨la, lb, lg, lf, at_D x t e (fun ps z => by cases z) ne, ⟨at_D x t e1 (fun ps z => by cases z) n1, at_D x t e2 (fun ps z => by cases z) n2, at_D x t e3 (fun ps z => by cases z) n3, at_D x t e4 (fun ps z => by cases z) n4⟩, n1, n2, n3, n4⟩, nb, ne, z⟩
end
section
variable {P : Program} {w : World} {K : PySem.W.Frag} {mg : Str → Option Value} {base : Heap} {G : List Addr} {f g C fi CT CB CN CL Pl : Addr} {fd fdi gd : FuncData}
section
variable {c : Addr} {A : Around} {outer : List Env} {s : Shared} {H0 : Hp} {E : XK} (F : LF P w K mg base G C fi fdi) (hr : Room 40 (XL P w K mg base f c A outer s H0 E).A)
include F hr
theorem st0 : ∃ t, PS (XL P w K mg base f c A outer s H0 E) (forB 0) t ∧ ∀ (En : Ends) (v0 : V) (n2 n3 n4 n5 n6 n7 n8 n9 n10 n11 n12 n13 n14 n15 : Option V) (H : Hp) (D : Addr) (n : Nat), TabsG G H → DiceAt n H D → n < 90000 →
    (∀ d m H', Ext (D :: G) H H' → DiceAt (n + 7) H' D → NumD H' D d m → En.nx [some v0, some (.ref D), some (.ref d), n3, n4, n5, n6, n7, n8, n9, n10, n11, n12, n13, n14, n15, none] H') → t En [some v0, some (.ref D), n2, n3, n4, n5, n6, n7, n8, n9, n10, n11, n12, n13, n14, n15, none] H := by
  refine ⟨_, ps_set (i := 2) sc_law.nd rfl (Or.inr rfl) (pe_disp
  (pps_cons pe_str (pe_lst (pa_cons (pe_cl F.rl (hr.mono (by omega)) rfl (pa_cons (pv 1) (pa_cons pe_int pa_nil))) pa_nil))
  (pps_cons pe_str (pe_lst (pa_cons (pe_cl F.rl (hr.mono (by omega)) rfl (pa_cons (pv 1) (pa_cons pe_int pa_nil))) pa_nil))
  (pps_cons pe_str (pe_lst (pa_cons (pe_cl F.rl (hr.mono (by omega)) rfl (pa_cons (pv 1) (pa_cons pe_int pa_nil))) (pa_cons (pe_cl F.rl (hr.mono (by omega)) rfl (pa_cons (pv 1) (pa_cons pe_int pa_nil))) pa_nil)))
  (pps_cons pe_str (pe_lst (pa_cons (pe_cl F.rl (hr.mono (by omega)) rfl (pa_cons (pv 1) (pa_cons pe_int pa_nil))) (pa_cons (pe_cl F.rl (hr.mono (by omega)) rfl (pa_cons (pv 1) (pa_cons pe_int pa_nil))) (pa_cons (pe_cl F.rl (hr.mono (by omega)) rfl (pa_cons (pv 1) (pa_cons pe_int pa_nil))) pa_nil))))
  pps_nil)))) (by rfl) (by rfl) (fun z => by cases z) (by decide)), ?_⟩
  intro En v0 n2 n3 n4 n5 n6 n7 n8 n9 n10 n11 n12 n13 n14 n15 H D n tG hD hn q p hp
  have x0 : Ext G H (upd H p (.dK [])) := Ext.new hp
  have t0 := tG.ext x0
  have d0 := hD.ext tG x0
  have np := hD.ne hp
  have e0 : upd H p (.dK []) p = some (.dK []) := upd_same
  generalize upd H p (.dK []) = Ha at x0 t0 d0 e0
  refine s_prs ?_
  refine run_l1 (σ := [some v0, some (.ref D), n2, n3, n4, n5, n6, n7, n8, n9, n10, n11, n12, n13, n14, n15, none]) (G := G) t0 rfl (by omega) d0 fun r1 la H1 b1 x1 d1 w1 e1 => ?_
  have t1 := t0.wide x1
  have p1 := at_D x1 t0 e0 (fun ps z => by cases z) np
  refine s_prs ?_
  refine run_l1 (σ := [some v0, some (.ref D), n2, n3, n4, n5, n6, n7, n8, n9, n10, n11, n12, n13, n14, n15, none]) (G := G) t1 rfl (by omega) d1 fun r2 lb H2 b2 x2 d2 w2 e2 => ?_
  have t2 := t1.wide x2
  have p2 := at_D x2 t1 p1 (fun ps z => by cases z) np
  have e12 := at_D x2 t1 e1 (fun ps z => by cases z) w1
  refine s_prs ?_
  refine run_l2 (σ := [some v0, some (.ref D), n2, n3, n4, n5, n6, n7, n8, n9, n10, n11, n12, n13, n14, n15, none]) (G := G) t2 rfl (by omega) d2 fun r3 r4 lg H3 b3 b4 x3 d3 w3 e3 => ?_
  have t3 := t2.wide x3
  have p3 := at_D x3 t2 p2 (fun ps z => by cases z) np
  have e13 := at_D x3 t2 e12 (fun ps z => by cases z) w1
  have e23 := at_D x3 t2 e2 (fun ps z => by cases z) w2
  refine s_prs ?_
  refine run_l3 (σ := [some v0, some (.ref D), n2, n3, n4, n5, n6, n7, n8, n9, n10, n11, n12, n13, n14, n15, none]) (G := G) t3 rfl (by omega) d3 fun r5 r6 r7 lf H4 b5 b6 b7 x4 d4 w4 e4 => ?_
  have p4 := at_D x4 t3 p3 (fun ps z => by cases z) np
  have e14 := at_D x4 t3 e13 (fun ps z => by cases z) w1
  have e24 := at_D x4 t3 e23 (fun ps z => by cases z) w2
  have e34 := at_D x4 t3 e3 (fun ps z => by cases z) w3
  refine s_prn ?_
  refine ⟨p4, [((.inr sA : L2.Key), V.ref la), (.inr sB, .ref lb), (.inr sG, .ref lg), (.inr sF, .ref lf)], rfl, (by show 4 ≤ 15; decide), ?_⟩
  have B : ∀ x : Nat, x < 3 → 0 ≤ (x : Int) ∧ (x : Int) ≤ 2 := fun x h => by omega
  have z0 : 0 ≤ (0 : Int) ∧ (0 : Int) ≤ 2 := by decide
  have ne_ : ∀ {b l}, H4 b = some (.lst l) → b ≠ p := fun e z => by rw [z, p4] at e; cases e
  refine q p (fun s => if s = sA then (r1, 0, 0) else if s = sB then (r2, 0, 0) else if s = sG then (r3, r4, 0) else (r5, r6, r7)) _ ((x0.wide.trans (x1.trans (x2.trans (x3.trans x4)))).mut hp p4 (fun ps z => by cases z)) ((d4.upd fun z => np z.symm).mono (by omega)) ⟨⟨la, lb, lg, lf, upd_same, ⟨?_, ?_, ?_, ?_⟩, w1, w2, w3, w4⟩, ⟨⟨B r1 b1, z0, z0⟩, ⟨B r2 b2, z0, z0⟩, ⟨B r3 b3, B r4 b4, z0⟩, ⟨B r5 b5, B r6 b6, B r7 b7⟩⟩, np, ⟨rfl, rfl⟩, ⟨rfl, rfl⟩, rfl⟩
  · rw [upd_ne (ne_ e14)]; exact e14
  · rw [upd_ne (ne_ e24)]; exact e24
  · rw [upd_ne (ne_ e34)]; exact e34
  · rw [upd_ne (ne_ e4)]; exact e4
end
end
end Rh
set_option Elab.async false
set_option linter.all false
set_option maxRecDepth 100000
set_option maxHeartbeats 1000000
/-! law: a sign's polynomial -/
namespace Rh
open PySem PySem.Spec PyProof.Rows L2 L2.DX GxR Gx Dl LiI LamX
def rw0 (n : Int × Int × Int) (ar : Nat) : List Row := ([], n.1) :: (List.range ar).map fun k => ([.inr (xN k)], cK n k)
theorem own_mk {n : Int × Int × Int} {ar : Nat} (nb : NB n) (h : ar ≤ 2) (h1 : ar < 1 → n.2.1 = 0) (h2 : ar < 2 → n.2.2 = 0) : (keysR (rw0 n ar)).Nodup ∧ Txts (rw0 n ar) ∧ Own (srtR (nzR (rw0 n ar))) n ar := by
  have b1 : ∀ r ∈ rw0 n ar, 0 ≤ r.2 ∧ r.2 ≤ 2 := fun r hr => by
    rcases List.mem_cons.mp hr with e | hr
    · rw [e]; exact nb.a
    · obtain ⟨k, hk, rfl⟩ := List.mem_map.mp hr
      show 0 ≤ cK n k ∧ cK n k ≤ 2
      unfold cK
      split
      · exact nb.b
      · exact nb.c
  have tx : Txts (rw0 n ar) := fun r hr x hx => by
    rcases List.mem_cons.mp hr with e | hr
    · rw [e] at hx; cases hx
    · obtain ⟨k, hk, rfl⟩ := List.mem_map.mp hr
      exact ⟨_, List.mem_singleton.mp hx⟩
  have c3 : ar = 0 ∨ ar = 1 ∨ ar = 2 := by omega
  have ek : keysR (rw0 n ar) = ([[], kx0, kx1] : List Ks).take (ar + 1) := by rcases c3 with e | e | e <;> subst e <;> rfl
  have nd : (keysR (rw0 n ar)).Nodup := by
    rw [ek]
    rcases c3 with e | e | e <;> subst e <;> decide +kernel
  have qa : ¬ kx0 = [] := by decide
  have qb : ¬ kx1 = [] := by decide
  have qc : ¬ ([] : Ks) = kx0 := by decide
  have qd : ¬ ([] : Ks) = kx1 := by decide
  have qe : ¬ kx0 = kx1 := by decide +kernel
  have qf : ¬ kx1 = kx0 := by decide +kernel
  refine ⟨nd, tx, ok_srt nd tx, ?_, ?_, ?_, fun k hk => ?_, fun r hr => ?_⟩
  · rw [coef_srt]
    rcases c3 with e | e | e <;> subst e
    · show coef [([], n.1)] [] = n.1
      rw [coef_cons, coef_nil, if_pos rfl, Int.add_zero]
    · show coef [([], n.1), (kx0, n.2.1)] [] = n.1
      rw [coef_cons, coef_cons, coef_nil, if_pos rfl, if_neg (by first | exact qa | exact qb | exact qc | exact qd | exact qe | exact qf), Int.add_zero, Int.add_zero]
    · show coef [([], n.1), (kx0, n.2.1), (kx1, n.2.2)] [] = n.1
      rw [coef_cons, coef_cons, coef_cons, coef_nil, if_pos rfl, if_neg (by first | exact qa | exact qb | exact qc | exact qd | exact qe | exact qf), if_neg (by first | exact qa | exact qb | exact qc | exact qd | exact qe | exact qf), Int.add_zero, Int.add_zero, Int.add_zero]
  · rw [coef_srt]
    rcases c3 with e | e | e <;> subst e
    · show coef [([], n.1)] kx0 = n.2.1
      rw [coef_cons, coef_nil, if_neg (by first | exact qa | exact qb | exact qc | exact qd | exact qe | exact qf), h1 (by decide)]
      rfl
    · show coef [([], n.1), (kx0, n.2.1)] kx0 = n.2.1
      rw [coef_cons, coef_cons, coef_nil, if_neg (by first | exact qa | exact qb | exact qc | exact qd | exact qe | exact qf), if_pos rfl, Int.add_zero, Int.zero_add]
    · show coef [([], n.1), (kx0, n.2.1), (kx1, n.2.2)] kx0 = n.2.1
      rw [coef_cons, coef_cons, coef_cons, coef_nil, if_neg (by first | exact qa | exact qb | exact qc | exact qd | exact qe | exact qf), if_pos rfl, if_neg (by first | exact qa | exact qb | exact qc | exact qd | exact qe | exact qf), Int.add_zero, Int.add_zero, Int.zero_add]
  · rw [coef_srt]
    rcases c3 with e | e | e <;> subst e
    · show coef [([], n.1)] kx1 = n.2.2
      rw [coef_cons, coef_nil, if_neg (by first | exact qa | exact qb | exact qc | exact qd | exact qe | exact qf), h2 (by decide)]
      rfl
    · show coef [([], n.1), (kx0, n.2.1)] kx1 = n.2.2
      rw [coef_cons, coef_cons, coef_nil, if_neg (by first | exact qa | exact qb | exact qc | exact qd | exact qe | exact qf), if_neg (by first | exact qa | exact qb | exact qc | exact qd | exact qe | exact qf), h2 (by decide)]
      rfl
    · show coef [([], n.1), (kx0, n.2.1), (kx1, n.2.2)] kx1 = n.2.2
      rw [coef_cons, coef_cons, coef_cons, coef_nil, if_neg (by first | exact qa | exact qb | exact qc | exact qd | exact qe | exact qf), if_neg (by first | exact qa | exact qb | exact qc | exact qd | exact qe | exact qf), if_pos rfl, Int.add_zero, Int.zero_add, Int.zero_add]
  · rw [← ek]
    exact keys_srt hk
  · have := (srtR_perm _).mem_iff.mp hr
    obtain ⟨m1, m2⟩ := List.mem_filter.mp this
    have := b1 r m1
    have m3 : r.2 ≠ 0 := by simpa using m2
    omega
section
variable {K : PySem.W.Frag} {G : List Addr} {C : Addr}
abbrev tNum : TE := tDGet (tVar 2) (tVar 3)
abbrev rAddS : R2 := fun x y H Q => ∃ i j, x = .str i ∧ y = .str j ∧ i.length + j.length ≤ sizeLine ∧ Q (.str (i ++ j)) H
abbrev rStrI : List V → Hp → VK → Prop := fun xs H Q => ∃ i, xs = [.int i] ∧ i.natAbs.log2 < 1920 ∧ Q (.str (toString i)) H
abbrev rLenS (K : PySem.W.Frag) : List V → Hp → VK → Prop := fun xs H Q => ∃ p ys, xs = [.ref p] ∧ (SqL K H p ys ∨ SqT K H p ys) ∧ Q (.int ys.length) H
/-- Sum([((), numbers[sign][0])] + [..]) -/
theorem run_sum {σ : L2.St} {H : Hp} {dN l : Addr} {s : Str} {o : Obj} {kvs : List (L2.Key × V)} {n : Int × Int × Int} {ar : Nat} {E2 : XK} {Q : VK} (tG : TabsG G H) (h2 : σ[2]? = some (some (.ref dN))) (h3 : σ[3]? = some (some (.str s))) (hw : ∀ x, ((wipe σ [16]).set 16 x)[2]? = some (some (.ref dN)) ∧ ((wipe σ [16]).set 16 x)[3]? = some (some (.str s)) ∧ ((wipe σ [16]).set 16 x)[16]? = some x)
    (e : H dN = some (.frz o (.dK kvs))) (ev : valV kvs (.inr s) = some (.ref l)) (el : H l = some (.lst ((numL n ar).map V.int))) (nb : NB n) (ha : ar ≤ 2) (z1 : ar < 1 → n.2.1 = 0) (z2 : ar < 2 → n.2.2 = 0)
    (q : ∀ z rows H', Ext G H H' → SumAt C H' z rows → Own rows n ar → Q (.ref z) H') :
    tMake C (spSI G K C) [] E2 (tCons (tOp rCat (tLst (tCons (tTup (tCons (tTup tNil) (tCons (tOp (rIxL K) tNum (tC (.int 0))) tNil))) tNil)) (tLc (iRng1 (tCons (tOp (rI0 fun i j => .int (i - j)) (tCB (rLenS K) (tCons tNum tNil)) (tC (.int 1))) tNil)) (gName 16) tYes
      (tTup (tCons (tTup (tCons (tOp rAddS (tC (.str "x")) (tCB rStrI (tCons (tVar 16) tNil))) tNil)) (tCons (tOp (rIxL K) tNum (tOp (rI0 fun i j => .int (i + j)) (tVar 16) (tC (.int 1)))) tNil))) [16])) tNil) σ H Q := by
  have ln : (numL n ar).length = ar + 1 := by
    have : ar = 0 ∨ ar = 1 ∨ ar = 2 := by omega
    rcases this with e | e | e <;> subst e <;> rfl
  have dg : ∀ {H'}, Ext G H H' → DGet H' dN (.str s) (some (.ref l)) := fun y => by
    rw [← ev]
    exact .inl ⟨kvs, .inr s, .inr ⟨o, y.at tG e (fun ps z => by cases z)⟩, rfl, rfl⟩
  refine s_makeR (s_consQ ?_)
  refine ⟨by show 0 ≤ sizeLine; decide, fun u0 hu0 => ?_⟩
  have y1 : Ext G H (upd H u0 (.tup [])) := Ext.new hu0
  have f0 : upd H u0 (.tup []) u0 = some (.tup (([] : Ks).map kV)) := upd_same
  generalize upd H u0 (.tup []) = H1 at y1 f0 ⊢
  have t1 := tG.ext y1
  refine ⟨.ref dN, h2, .str s, h3, dN, .ref l, rfl, dg y1, l, _, 0, .int n.1, rfl, rfl, SqL.of (y1.at tG el (fun ps z => by cases z)), atI_get (Int.le_refl 0) rfl, ?_⟩
  refine ⟨by show 2 ≤ sizeLine; decide, fun u1 hu1 => ?_⟩
  have y2 : Ext G H1 (upd H1 u1 (.tup [.ref u0, .int n.1])) := Ext.new hu1
  have f1 : upd H1 u1 (.tup [.ref u0, .int n.1]) u1 = some (.tup [.ref u0, .int n.1]) := upd_same
  have f0' := y2.at t1 f0 (fun ps z => by cases z)
  generalize upd H1 u1 (.tup [.ref u0, .int n.1]) = H2 at y2 f1 f0' ⊢
  have t2 := t1.ext y2
  refine ⟨by show 1 ≤ sizeLine; decide, fun L1 hL1 => ?_⟩
  have y3 : Ext G H2 (upd H2 L1 (.lst [.ref u1])) := Ext.new hL1
  have eL1 : upd H2 L1 (.lst [.ref u1]) L1 = some (.lst [.ref u1]) := upd_same
  have f1' := y3.at t2 f1 (fun ps z => by cases z)
  have f0'' := y3.at t2 f0' (fun ps z => by cases z)
  generalize upd H2 L1 (.lst [.ref u1]) = H3 at y3 eL1 f1' f0'' ⊢
  have y03 := (y1.trans y2).trans y3
  have t3 := t2.ext y3
  refine ⟨.ref dN, h2, .str s, h3, dN, .ref l, rfl, dg y03, l, _, rfl, .inl (SqL.of (y03.at tG el (fun ps z => by cases z))), _, _, rfl, rfl, (ar : Int), ?_, by omega, by omega, fun D2 hD2 => ?_⟩
  · rw [List.length_map, ln]
    show [V.int (((ar + 1 : Nat) : Int) - 1)] = [V.int (ar : Int)]
    rw [show (((ar + 1 : Nat) : Int) - 1) = (ar : Int) from by omega]
  rw [Int.toNat_natCast]
  refine lc_range (lo := 0) (n := ar) (fun k Hk => Ext G H3 Hk ∧ ∃ ts : List Addr, Hk D2 = some (.lst (ts.map V.ref)) ∧ ts.length = k ∧ RowsAt Hk ts ((List.range k).map fun k => ([.inr (xN k)], cK n k)))
    ⟨Ext.new hD2, [], upd_same, rfl, .nil⟩ (fun k Hk hk z => ?_) (fun Hk z => ?_)
  · obtain ⟨y4, ts, e4, l4, r4⟩ := z
    have ek : (0 : Int) + (k : Int) = k := by omega
    rw [ek]
    obtain ⟨w2, w3, w16⟩ := hw (some (.int (k : Int)))
    refine ⟨wipe_set σ [16] 16 _ (by decide), ?_⟩
    dsimp only [tYes]
    rw [if_pos rfl]
    have t4 := t3.ext y4
    have k2 : k < 2 := by omega
    obtain ⟨c1, c2⟩ := xN_str k2
    refine ⟨.int k, w16, k, rfl, ?_, Str.ofString "x", _, rfl, rfl, Nat.le_trans (Nat.add_le_add_left c2 _) (by decide +kernel), ?_⟩
    · rw [Int.natAbs_natCast k]
      match k, k2 with
      | 0, _ => decide
      | 1, _ => decide
    rw [c1]
    refine ⟨by show 1 ≤ sizeLine; decide, fun v0 hv0 => ?_⟩
    have y5 : Ext G Hk (upd Hk v0 (.tup [.str (xN k)])) := Ext.new hv0
    have g0 : upd Hk v0 (.tup [.str (xN k)]) v0 = some (.tup (([.inr (xN k)] : Ks).map kV)) := upd_same
    generalize upd Hk v0 (.tup [.str (xN k)]) = H5 at y5 g0 ⊢
    have t5 := t4.ext y5
    have y05 := (y03.trans y4).trans y5
    have hz : ((numL n ar).map V.int)[k + 1]? = some (.int (cK n k)) := by
      have : ar = 1 ∨ ar = 2 := by omega
      rcases this with e | e
      · have : k = 0 := by omega
        subst e this
        rfl
      · subst e
        match k, k2 with
        | 0, _ => rfl
        | 1, _ => rfl
    refine ⟨.ref dN, w2, .str s, w3, dN, .ref l, rfl, dg y05, .int k, w16, _, _, rfl, rfl, l, _, (k : Int) + 1, .int (cK n k), rfl, rfl, SqL.of (y05.at tG el (fun ps z => by cases z)), atI_get (by omega) ?_, ?_⟩
    · rw [show ((k : Int) + 1).toNat = k + 1 from by omega]
      exact hz
    refine ⟨by show 2 ≤ sizeLine; decide, fun v1 hv1 => ?_⟩
    have y6 : Ext G H5 (upd H5 v1 (.tup [.ref v0, .int (cK n k)])) := Ext.new hv1
    have g1 : upd H5 v1 (.tup [.ref v0, .int (cK n k)]) v1 = some (.tup [.ref v0, .int (cK n k)]) := upd_same
    have g0' := y6.at t5 g0 (fun ps z => by cases z)
    generalize upd H5 v1 (.tup [.ref v0, .int (cK n k)]) = H6 at y6 g1 g0' ⊢
    have y46 := y5.trans y6
    have e6 := y46.at t4 e4 (fun ps z => by cases z)
    have r6 := r4.mono (.of t4 y46)
    refine ⟨_, e6, by rw [List.length_map, l4]; exact Nat.lt_of_lt_of_le (show k < 2 by omega) (by decide), (y4.trans y46).mut hD2 e6 (fun ps z => by cases z), ts ++ [v1], by rw [upd_same, List.map_append]; rfl, by rw [List.length_append, l4]; rfl, ?_⟩
    rw [List.range_succ, List.map_append]
    exact (r6.snoc (r := ([.inr (xN k)], cK n k)) ⟨v0, g1, g0'⟩).mono (TupK.upd fun xs z => by rw [e6] at z; cases z)
  · obtain ⟨y4, ts, e4, l4, r4⟩ := z
    have t4 := t3.ext y4
    refine ⟨L1, D2, [.ref u1], ts.map V.ref, rfl, rfl, y4.at t3 eL1 (fun ps z => by cases z), e4, by rw [List.length_map, l4]; exact Nat.le_trans (show 1 + ar ≤ 3 by omega) (by decide), fun c hc => ?_⟩
    have y5 : Ext G Hk (upd Hk c (.lst ([.ref u1] ++ ts.map V.ref))) := Ext.new hc
    have ec : upd Hk c (.lst ([.ref u1] ++ ts.map V.ref)) c = some (.lst ((u1 :: ts).map V.ref)) := upd_same
    have y35 := y4.trans y5
    have r5 : RowsAt (upd Hk c (.lst ([.ref u1] ++ ts.map V.ref))) (u1 :: ts) (rw0 n ar) := .cons ⟨u0, y35.at t3 f1' (fun ps z => by cases z), y35.at t3 f0'' (fun ps z => by cases z)⟩ (r4.mono (.of t4 y5))
    generalize upd Hk c (.lst ([.ref u1] ++ ts.map V.ref)) = H6 at y5 ec y35 r5 ⊢
    obtain ⟨nd, tx, ow⟩ := own_mk nb ha z1 z2
    show ∀ x dx, H6 x = none → H6 dx = none → dx ≠ x → spSI G K C (.ref x :: ([.ref c] ++ [])) (upd (upd H6 dx (.own x)) x (.ins C dx [])) (fun v H2 => v = .non ∧ Q (.ref x) H2) E2
    refine mk_core (t3.ext y35) ec r5 ?_ tx fun z H7 y7 sz => q z _ H7 ((y03.trans y35).trans y7) sz ow
    have := r5.len
    rw [← this, List.length_cons, l4]
    omega
end
end Rh
set_option Elab.async false
set_option linter.all false
set_option maxRecDepth 100000
set_option maxHeartbeats 1000000
/-! law: the signs' polynomials -/
namespace Rh
open PySem PySem.Spec PyProof.Rows L2 L2.DX GxR Gx Dl LiI LamX
theorem for_keys {d : Addr} {od : Obj} {kvs : List (L2.Key × V)} {g : TG} {tb : TS} {D : Ends} {σ : L2.St} {H : Hp} (Pv : Nat → L2.St → Hp → Prop) (h0 : Pv 0 σ H) (hl : ∀ i σ H, i ≤ kvs.length → Pv i σ H → H d = some (.frz od (.dK kvs)))
    (hs : ∀ i k v σ H, kvs[i]? = some (k, v) → Pv i σ H → g (kV k) σ H fun σ2 H2 => tb { D with nx := Pv (i + 1), ct := Pv (i + 1), bk := D.nx } σ2 H2) (hd : ∀ σ H, Pv kvs.length σ H → D.nx σ H) :
    ∃ W : Nat → Nat → L2.St → Hp → Prop, (∃ m, W 0 m σ H) ∧ ∀ i m σ H, W i m σ H →
      ((Itk d od kvs).stop i H ∧ D.nx σ H) ∨ ((Itk d od kvs).go i H ∧ ∃ N : L2.St → Hp → Prop, (∀ σ' H', N σ' H' → ∃ m', m' < m ∧ W (i + 1) m' σ' H') ∧ ∀ x H', (Itk d od kvs).yld i H x H' → g x σ H' fun σ2 H2 => tb { D with nx := N, ct := N, bk := D.nx } σ2 H2) := by
  refine ⟨fun i m σ H => m = kvs.length - i ∧ i ≤ kvs.length ∧ Pv i σ H, ⟨kvs.length, by simp, Nat.zero_le _, h0⟩, ?_⟩
  rintro i m σ H ⟨rfl, hi, p⟩
  have q := hl i σ H hi p
  by_cases hlt : i < kvs.length
  · refine .inr ⟨⟨q, hlt⟩, Pv (i + 1), fun σ' H' p' => ⟨kvs.length - (i + 1), by omega, rfl, hlt, p'⟩, fun x H' y => ?_⟩
    obtain ⟨e, k, v, e2, e3⟩ := y
    subst e e3
    exact hs i k v σ _ e2 p
  · have e : i = kvs.length := by omega
    subst e
    exact .inl ⟨⟨q, Nat.le_refl _⟩, hd σ H p⟩
abbrev SGN : List (Str × Nat) := [(sA, 0), (sB, 0), (sG, 1), (sF, 2)]
def SG : Sgn := fun s => if s = sA then some 0 else if s = sB then some 0 else if s = sG then some 1 else if s = sF then some 2 else none
theorem SG_in {s : Str} {ar : Nat} (h : SG s = some ar) : (s, ar) ∈ SGN := by
  unfold SG at h
  by_cases e1 : s = sA
  · rw [if_pos e1] at h
    cases h
    rw [e1]; simp
  rw [if_neg e1] at h
  by_cases e2 : s = sB
  · rw [if_pos e2] at h
    cases h
    rw [e2]; simp
  rw [if_neg e2] at h
  by_cases e3 : s = sG
  · rw [if_pos e3] at h
    cases h
    rw [e3]; simp
  rw [if_neg e3] at h
  by_cases e4 : s = sF
  · rw [if_pos e4] at h
    cases h
    rw [e4]; simp
  rw [if_neg e4] at h
  cases h
def mkS (ps : List Addr) : List (L2.Key × V) := List.zipWith (fun (q : Str × Nat) p => ((.inr q.1 : L2.Key), V.ref p)) SGN ps
theorem mkS_new {ps : List Addr} {q : Str × Nat} (h : SGN[ps.length]? = some q) (p : Addr) : putK (mkS ps) (.inr q.1) (.ref p) = mkS (ps ++ [p]) := by
  have hl : ps.length < 4 := (List.getElem?_eq_some_iff.mp h).1
  have : valV (mkS ps) (.inr q.1) = none := by
    match ps, hl, h with
    | [], _, h => rfl
    | [a], _, h => cases h; rfl
    | [a, b], _, h => cases h; rfl
    | [a, b, c], _, h => cases h; rfl
  rw [putK_new _ this]
  match ps, hl, h with
  | [], _, h => cases h; rfl
  | [a], _, h => cases h; rfl
  | [a, b], _, h => cases h; rfl
  | [a, b, c], _, h => cases h; rfl
section
variable {C : Addr} {H H' : Hp} {G : List Addr} {D d : Addr} {m : Num}
theorem NumD.get (s : NumD H D d m) : ∃ kvs : List (L2.Key × V), H d = some (.dK kvs) ∧ kvs.length = 4 ∧ (∀ (i : Nat) (k : L2.Key) (v : V), kvs[i]? = some (k, v) → ∃ (q : Str × Nat) (l : Addr), SGN[i]? = some q ∧ k = .inr q.1 ∧ valV kvs k = some (.ref l)) ∧
    ∀ q ∈ SGN, ∃ l, valV kvs (.inr q.1) = some (.ref l) ∧ H l = some (.lst ((numL (m q.1) q.2).map V.int)) ∧ NB (m q.1) ∧ q.2 ≤ 2 ∧ (q.2 < 1 → (m q.1).2.1 = 0) ∧ (q.2 < 2 → (m q.1).2.2 = 0) := by
  obtain ⟨⟨la, lb, lg, lf, e, ⟨e1, e2, e3, e4⟩, _⟩, ⟨b1, b2, b3, b4⟩, _, ⟨z1, z1'⟩, ⟨z2, z2'⟩, z3⟩ := s
  refine ⟨_, e, rfl, fun i k v h => ?_, fun q hq => ?_⟩
  · match i, h with
    | 0, h => cases h; exact ⟨_, la, rfl, rfl, rfl⟩
    | 1, h => cases h; exact ⟨_, lb, rfl, rfl, rfl⟩
    | 2, h => cases h; exact ⟨_, lg, rfl, rfl, rfl⟩
    | 3, h => cases h; exact ⟨_, lf, rfl, rfl, rfl⟩
    | i + 4, h => simp at h
  · simp only [List.mem_cons, List.not_mem_nil, or_false] at hq
    rcases hq with h | h | h | h <;> subst h
    · exact ⟨la, rfl, e1, b1, by decide, fun _ => z1, fun _ => z1'⟩
    · exact ⟨lb, rfl, e2, b2, by decide, fun _ => z2, fun _ => z2'⟩
    · exact ⟨lg, rfl, e3, b3, by decide, fun h => absurd h (by decide), fun _ => z3⟩
    · exact ⟨lf, rfl, e4, b4, by decide, fun h => absurd h (by decide), fun h => absurd h (by decide)⟩
theorem NumD.nums (s : NumD H D d m) : NumsAt H d SG m := by
  obtain ⟨kvs, e, _, _, h⟩ := s.get
  refine ⟨kvs, e, fun s ar hs => ?_⟩
  obtain ⟨l, h1, h2, h3, h4, _⟩ := h _ (SG_in hs)
  exact ⟨h3, h4, l, h1, h2⟩
def SgR (C : Addr) (H : Hp) (m : Num) (p : Addr) (q : Str × Nat) : Prop := ∃ rows, SumAt C H p rows ∧ Own rows (m q.1) q.2
theorem SumAt.updD {p : Addr} {rows : List Row} (s : SumAt C H p rows) {D : Addr} {kvs : List (L2.Key × V)} (h : H D = some (.dK kvs)) {o : HO} : SumAt C (upd H D o) p rows := by
  obtain ⟨dx, fs, a, oa, ts, h1, h2, h3, h4, h5⟩ := s
  refine ⟨dx, fs, a, oa, ts, by rw [upd_ne fun z => by rw [z, h] at h1; cases h1]; exact h1, h2, by rw [upd_ne fun z => by rw [z, h] at h3; cases h3]; exact h3, h4, h5.mono (TupK.upd fun xs z => by rw [h] at z; cases z)⟩
theorem SumAt.updF {p : Addr} {rows : List Row} (s : SumAt C H p rows) {D : Addr} {kvs : List (L2.Key × V)} {od : Obj} (h : H D = some (.frz od (.dK kvs))) {o : HO} : SumAt C (upd H D o) p rows := by
  obtain ⟨dx, fs, a, oa, ts, h1, h2, h3, h4, h5⟩ := s
  refine ⟨dx, fs, a, oa, ts, by rw [upd_ne fun z => by rw [z, h] at h1; cases h1]; exact h1, h2, by rw [upd_ne fun z => by rw [z, h] at h3; cases h3]; exact h3, h4, h5.mono (TupK.upd fun xs z => by rw [h] at z; cases z)⟩
theorem sums_of {ps : List Addr} (e : H d = some (.dK (mkS ps))) (pr : Paired (SgR C H m) ps SGN) : SumsAt C H d SG m := by
  match ps, pr with
  | [p1, p2, p3, p4], .cons ⟨r1, s1, o1⟩ (.cons ⟨r2, s2, o2⟩ (.cons ⟨r3, s3, o3⟩ (.cons ⟨r4, s4, o4⟩ .nil))) =>
    refine ⟨_, e, fun s ar hs => ?_, fun s hs => ?_⟩
    · have := SG_in hs
      simp only [List.mem_cons, List.not_mem_nil, or_false, Prod.mk.injEq] at this
      rcases this with ⟨h, h'⟩ | ⟨h, h'⟩ | ⟨h, h'⟩ | ⟨h, h'⟩ <;> subst h h'
      · exact ⟨p1, r1, rfl, s1, o1⟩
      · exact ⟨p2, r2, rfl, s2, o2⟩
      · exact ⟨p3, r3, rfl, s3, o3⟩
      · exact ⟨p4, r4, rfl, s4, o4⟩
    · have n1 : ¬ s = sA := fun z => by rw [z] at hs; cases hs
      have n2 : ¬ s = sB := fun z => by rw [z] at hs; cases hs
      have n3 : ¬ s = sG := fun z => by rw [z] at hs; cases hs
      have n4 : ¬ s = sF := fun z => by rw [z] at hs; cases hs
      have k : ∀ {x : Str}, ¬ s = x → ¬ ((.inr x : L2.Key) = .inr s) := fun h z => h (Sum.inr.inj z).symm
      show valV [((.inr sA : L2.Key), V.ref p1), (.inr sB, .ref p2), (.inr sG, .ref p3), (.inr sF, .ref p4)] (.inr s) = none
      rw [valV_neg (k n1), valV_neg (k n2), valV_neg (k n3), valV_neg (k n4)]
      rfl
theorem upd_comm {a b : Addr} (h : a ≠ b) (x y : HO) : upd (upd H a x) b y = upd (upd H b y) a x := by
  funext c
  by_cases ha : c = a
  · subst ha
    rw [upd_ne h, upd_same, upd_same]
  · by_cases hb : c = b
    · subst hb
      rw [upd_same, upd_ne ha, upd_same]
    · rw [upd_ne hb, upd_ne ha, upd_ne ha, upd_ne hb]
end
section
variable {P : Program} {w : World} {K : PySem.W.Frag} {mg : Str → Option Value} {base : Heap} {G : List Addr} {f g C fi CT CB CN CL Pl : Addr} {fd fdi gd : FuncData}
section
variable {c : Addr} {A : Around} {outer : List Env} {s : Shared} {H0 : Hp} {E : XK} (F : LF P w K mg base G C fi fdi) (hr : Room 40 (XL P w K mg base f c A outer s H0 E).A)
include F hr
theorem st12 : ∃ t1 t2, PS (XL P w K mg base f c A outer s H0 E) (forB 1) t1 ∧ PS (XL P w K mg base f c A outer s H0 E) (forB 2) t2 ∧ ∀ (u : TS) (En : Ends) (v0 : V) (dN D : Addr) (m : Num) (n3 n4 n5 n6 n7 n8 n9 n10 n11 n12 n13 n14 n15 : Option V) (H : Hp), TabsG G H → NumD H D dN m →
    (∀ d x H', Ext G H H' → SumsAt C H' d SG m → u En [some v0, some (.ref D), some (.ref dN), x, n4, n5, n6, n7, n8, n9, n10, n11, n12, n13, n14, some (.ref d), none] H') → tSeq t1 (tSeq t2 u) En [some v0, some (.ref D), some (.ref dN), n3, n4, n5, n6, n7, n8, n9, n10, n11, n12, n13, n14, n15, none] H := by
  refine ⟨_, _, ps_set (i := 15) sc_law.nd rfl (Or.inr rfl) pe_dnewK, ps_lock (ps_for PassesOwn.never rfl (pi_keys (pv 2)) (pg_name (i := 3) sc_law.nd rfl (Or.inr rfl))
  (pss_one (ps_dput (hu_of hr) (pv 15) (pv 3) (pe_make F.M F.I (hr.mono (by omega)) (by rfl) F.mS F.b .nil pass0 (pa_cons (pe_op op_cat (pe_lst (pa_cons (pe_tup (pa_cons (pe_tup pa_nil) (pa_cons (pe_ix ix_list (pe_dget (hu_of hr) (pv 2) (pv 3) (fun _ _ => rfl)) pe_int (fun _ _ => rfl)) pa_nil))) pa_nil))
    (pe_lc (own := [("k", 16)]) (g := gName 16) (tt := tYes) (te := tTup (tCons (tTup (tCons (tOp (fun x y H Q => ∃ i j, x = .str i ∧ y = .str j ∧ i.length + j.length ≤ sizeLine ∧ Q (.str (i ++ j)) H) (tC (.str "x")) (tCB (fun xs H Q => ∃ i, xs = [.int i] ∧ i.natAbs.log2 < 1920 ∧ Q (.str (toString i)) H) (tCons (tVar 16) tNil))) tNil)) (tCons (tOp (rIxL K) (tDGet (tVar 2) (tVar 3)) (tOp (rI0 fun i j => .int (i + j)) (tVar 16) (tC (.int 1)))) tNil)))
      rfl sc_law.nd (pi_range1 rfl F.range (pa_cons (pe_op op_sub (pe_callB call_len_seq (by rfl) F.len PySem.boot_len (pa_cons (pe_dget (hu_of hr) (pv 2) (pv 3) (fun _ _ => rfl)) pa_nil)) pe_int) pa_nil)) (blkOk_by (N := NL) (sc := defScope s_law) (by decide +kernel))
      (fun _ _ _ _ _ => pg_name (i := 16) sc_law.nd rfl (Or.inl rfl)) (fun _ _ _ _ _ => pts_nil) (fun _ _ _ _ _ => pe_tup (pa_cons (pe_tup (pa_cons (pe_op op_add_str pe_str (pe_callTy call_str_int (by rfl) F.str (by decide +kernel) (pa_cons (pv 16) pa_nil))) pa_nil)) (pa_cons (pe_ix ix_list (pe_dget (hu_of hr) (pv 2) (pv 3) (fun _ _ => rfl)) (pe_op op_add (pv 16) pe_int) (fun _ _ => rfl)) pa_nil)))) ) pa_nil)) (by rfl)))), ?_⟩
  intro u En v0 dN D m n3 n4 n5 n6 n7 n8 n9 n10 n11 n12 n13 n14 n15 H tG nd q
  refine s_seq fun dS hS => ?_
  dsimp only [gName]
  obtain ⟨kvs, ed, lk, hk1, hk2⟩ := nd.get
  have nSN : dS ≠ dN := fun z => by rw [z, ed] at hS; cases hS
  have x1 : Ext G H (upd H dS (.dK [])) := Ext.new hS
  have t1 := tG.ext x1
  have ed1 : upd H dS (.dK []) dN = some (.dK kvs) := by rw [upd_ne nSN.symm]; exact ed
  refine s_seq ⟨dN, .dK kvs, ed1, trivial, fun od => ?_⟩
  rw [upd_comm nSN]
  have tB := tabs_lock tG ed (o := .frz od (.dK kvs))
  have eB : upd H dN (.frz od (.dK kvs)) dN = some (.frz od (.dK kvs)) := upd_same
  have hSB : upd H dN (.frz od (.dK kvs)) dS = none := by rw [upd_ne nSN]; exact hS
  have lB : ∀ q ∈ SGN, ∃ l, valV kvs (.inr q.1) = some (.ref l) ∧ upd H dN (.frz od (.dK kvs)) l = some (.lst ((numL (m q.1) q.2).map V.int)) ∧ NB (m q.1) ∧ q.2 ≤ 2 ∧ (q.2 < 1 → (m q.1).2.1 = 0) ∧ (q.2 < 2 → (m q.1).2.2 = 0) := fun q hq => by
    obtain ⟨l, h1, h2, h3⟩ := hk2 q hq
    exact ⟨l, h1, by rw [upd_ne fun z => by rw [z, ed] at h2; cases h2]; exact h2, h3⟩
  have fin : ∀ Hk, Ext G (upd H dN (.frz od (.dK kvs))) Hk → Ext G H (upd Hk dN (.dK kvs)) := fun Hk y => ext_unlock tG ed y
  generalize upd H dN (.frz od (.dK kvs)) = B at tB eB hSB lB fin ⊢
  have yB : Ext G B (upd B dS (.dK [])) := Ext.new hSB
  have eS : upd B dS (.dK []) dS = some (.dK []) := upd_same
  have eN : upd B dS (.dK []) dN = some (.frz od (.dK kvs)) := by rw [upd_ne nSN.symm]; exact eB
  generalize upd B dS (.dK []) = HL at yB eS eN ⊢
  refine ⟨.ref dN, rfl, dN, od, rfl, .inl ⟨kvs, eN, ?_⟩⟩
  refine for_keys (d := dN) (od := od) (kvs := kvs) (fun i σ' H' => ∃ x, σ' = [some v0, some (.ref D), some (.ref dN), x, n4, n5, n6, n7, n8, n9, n10, n11, n12, n13, n14, some (.ref dS), none] ∧ Ext G B H' ∧ ∃ ps : List Addr, ps.length = i ∧ H' dS = some (.dK (mkS ps)) ∧ Paired (SgR C H' m) ps (SGN.take i))
    ⟨n3, rfl, yB, [], rfl, eS, .nil⟩ (fun i σ' H' _ ⟨_, _, e, _⟩ => e.at tB eB (fun ps z => by cases z)) (fun i k v σ' H' hkv hp => ?_) (fun σ' H' hp => ?_)
  · obtain ⟨x, rfl, y, ps, lp, eS', pr⟩ := hp
    obtain ⟨qq, l, hq, rfl, ev⟩ := hk1 i k v hkv
    obtain ⟨l', ev', el', nb, a2, z1, z2⟩ := lB qq (List.mem_of_getElem? hq)
    have t' := tB.ext y
    dsimp only [gName, sDPut]
    refine run_sum (K := K) (G := G) (C := C) (s := qq.1) (n := m qq.1) (ar := qq.2) t' rfl rfl (fun x => ⟨rfl, rfl, rfl⟩) (y.at tB eB (fun ps z => by cases z)) ev' (y.at tB el' (fun ps z => by cases z)) nb a2 z1 z2 fun z rows H2 y2 sz ow => ?_
    have eS2 := y2.at t' eS' (fun ps z => by cases z)
    refine ⟨.ref dS, rfl, .str qq.1, rfl, dS, _, rfl, DPut.k (k := .inr qq.1) eS2 (by
      rw [sizeLine_eq]
      have : (mkS ps).length ≤ 4 := by unfold mkS; rw [List.length_zipWith]; exact Nat.min_le_left _ _
      omega), ?_⟩
    subst lp
    rw [mkS_new hq]
    refine ⟨_, rfl, (y.trans y2).mut hSB eS2 (fun ps z => by cases z), ps ++ [z], by rw [List.length_append]; rfl, upd_same, ?_⟩
    rw [take_snoc hq]
    exact paired_snoc ⟨rows, sz.updD eS2, ow⟩ (Paired.mapP pr fun z t ⟨rows, a1, a2⟩ => ⟨rows, (a1.ext t' y2).updD eS2, a2⟩)
  · obtain ⟨x, rfl, y, ps, lp, eS', pr⟩ := hp
    rw [lk] at lp pr
    have eN' := y.at tB eB (fun ps z => by cases z)
    refine ⟨eN', q dS x _ (fin H' y) (sums_of (by rw [upd_ne nSN]; exact eS') (Paired.mapP pr fun z t ⟨rows, a1, a2⟩ => ⟨rows, a1.updF eN', a2⟩))⟩
end
end
end Rh
set_option Elab.async false
set_option linter.all false
set_option maxRecDepth 100000
set_option maxHeartbeats 1000000
/-! law: the terms and their polynomials -/
namespace Rh
open PySem PySem.Spec PyProof.Rows L2 L2.DX GxR Gx Dl LiI LamX
abbrev XY : List Str := [Str.ofString "x", Str.ofString "y"]
theorem drawn_sg : ∀ {t : T}, t.drawn XY → t.sg SG
  | .v x, h => by
    have h : x ∈ XY := h
    simp only [List.mem_cons, List.not_mem_nil, or_false] at h
    exact h
  | .c s, h => by
    rcases (show s = sA ∨ s = sB from h) with e | e <;> rw [e] <;> exact (rfl : _ = _)
  | .u s t, h => ⟨by rw [h.1]; rfl, drawn_sg h.2⟩
  | .b s t r, h => ⟨by rw [h.1]; rfl, drawn_sg h.2.1, drawn_sg h.2.2⟩
theorem drawn_ok : ∀ {t : T}, t.drawn XY → t.ok
  | .v x, h => by
    have h : x ∈ XY := h
    simp only [List.mem_cons, List.not_mem_nil, or_false] at h
    rcases h with e | e <;> rw [e] <;> exact ⟨by decide +kernel, by decide +kernel, by decide +kernel⟩
  | .c s, h => by
    rcases (show s = sA ∨ s = sB from h) with e | e <;> rw [e] <;> exact (show PyData.strOk _ = true by decide +kernel)
  | .u s t, h => ⟨by rw [h.1]; decide +kernel, drawn_ok h.2⟩
  | .b s t r, h => ⟨by rw [h.1]; decide +kernel, drawn_ok h.2.1, drawn_ok h.2.2⟩
section
variable {G : List Addr} {K : PySem.W.Frag} {σ : L2.St} {H : Hp} {D C : Addr}
theorem rd_term {n d : Nat} {E : XK} {Q : VK} (tG : TabsG G H) (h1 : σ[1]? = some (some (.ref D))) (hD : DiceAt n H D) (hd : d < 5) (hn : n < 100000)
    (q : ∀ v H' t, Ext (D :: G) H H' → DiceAt (n + cst d) H' D → Dp K H' v (enc t) → t.dp ≤ d → t.drawn XY → Q v H') :
    tCall (spTerm G K 5) [] E (tCons (tVar 1) (tCons (tC (.int d)) (tCons (tLst (tCons (tC (.str "x")) (tCons (tC (.str "y")) tNil))) tNil))) σ H Q := by
  refine ⟨.ref D, h1, ⟨by show 2 ≤ sizeLine; decide, fun Nm hN => ?_⟩⟩
  have x1 : Ext G H (upd H Nm (.lst [.str (Str.ofString "x"), .str (Str.ofString "y")])) := Ext.new hN
  have small : cst d < 100000 := by
    have : d = 0 ∨ d = 1 ∨ d = 2 ∨ d = 3 ∨ d = 4 := by omega
    rcases this with h | h | h | h | h <;> subst h <;> decide
  exact ⟨tG.ext x1, D, Nm, d, n, XY, rfl, hd, by decide, by omega, hD.ext tG x1, hD.ne hN, .lst (.inl (.inl upd_same)) (.cons (.str _) (.cons (.str _) .nil)), by decide, fun v H' t y dd rv n1 dr => q v H' t (x1.wide.trans y) dd rv n1 dr⟩
theorem rd_of {i : Nat} {v : V} {d : Addr} {t : T} {m : Num} {E : XK} {Q : VK} (tG : TabsG G H) (h1 : σ[i]? = some (some v)) (h2 : σ[15]? = some (some (.ref d))) (rv : Dp K H v (enc t)) (sm : SumsAt C H d SG m) (hd : t.dp ≤ 3) (dr : t.drawn XY)
    (q : ∀ z rows H', Ext G H H' → SumAt C H' z rows → Lin m t rows → Q (.ref z) H') : tCall (spOf G K C 5) [] E (tCons (tVar i) (tCons (tVar 15) tNil)) σ H Q :=
  tcall2 (v := v) (u := .ref d) (fun Q q => ⟨v, h1, q⟩) (fun Q q => ⟨_, h2, q⟩) ⟨tG, v, d, t, SG, m, rfl, rv, sm, drawn_ok dr, by omega, by decide, drawn_sg dr, q⟩
end
section
variable {P : Program} {w : World} {K : PySem.W.Frag} {mg : Str → Option Value} {base : Heap} {G : List Addr} {f g C fi CT CB CN CL Pl : Addr} {fd fdi gd : FuncData}
section
variable {c : Addr} {A : Around} {outer : List Env} {s : Shared} {H0 : Hp} {E : XK} (F : LF P w K mg base G C fi fdi) (hr : Room 40 (XL P w K mg base f c A outer s H0 E).A)
include F hr
theorem st3 : ∃ t, PS (XL P w K mg base f c A outer s H0 E) (forB 3) t ∧ ∀ (En : Ends) (v0 : V) (D : Addr) (n : Nat) (n2 n3 n4 n5 n6 n7 n8 n9 n10 n11 n12 n13 n14 n15 : Option V) (H : Hp), TabsG G H → DiceAt n H D → n < 90000 →
    (∀ va vb a b H', Ext (D :: G) H H' → DiceAt (n + 44) H' D → Dp K H' va (enc a) → Dp K H' vb (enc b) → a.dp ≤ 3 → b.dp ≤ 3 → a.drawn XY → b.drawn XY → En.nx [some v0, some (.ref D), n2, n3, some va, some vb, n6, n7, n8, n9, n10, n11, n12, n13, n14, n15, none] H') → t En [some v0, some (.ref D), n2, n3, n4, n5, n6, n7, n8, n9, n10, n11, n12, n13, n14, n15, none] H := by
  refine ⟨_, ps_par (i := 4) (j := 5) (by rfl) sc_law.nd rfl rfl (by decide) rfl rfl (pa_cons (pe_cl F.te (hr.mono (by omega)) rfl (pa_cons (pv 1) (pa_cons pe_int (pa_cons (pe_lst (pa_cons pe_str (pa_cons pe_str pa_nil))) pa_nil)))) (pa_cons (pe_cl F.te (hr.mono (by omega)) rfl (pa_cons (pv 1) (pa_cons pe_int (pa_cons (pe_lst (pa_cons pe_str (pa_cons pe_str pa_nil))) pa_nil)))) pa_nil)) rfl, ?_⟩
  intro En v0 D n n2 n3 n4 n5 n6 n7 n8 n9 n10 n11 n12 n13 n14 n15 H tG hD hn q
  show tCons _ _ _ _ _
  refine s_consQ ?_
  refine rd_term (K := K) (G := G) (d := 3) tG rfl hD (by decide) (by omega) fun va H1 a x1 d1 ra na da => ?_
  obtain ⟨l1, e1⟩ := hD.new
  have t1 := tG.wide x1
  obtain ⟨l2, e2⟩ := d1.new
  show tCons _ _ _ _ _
  refine s_consQ ?_
  refine rd_term (K := K) (G := G) (d := 2) t1 rfl d1 (by decide) (by have : cst 3 = 30 := rfl; omega) fun vb H2 b x2 d2 rb nb db => ?_
  exact ⟨va, vb, rfl, q va vb a b H2 (x1.trans x2) (d2.mono (by have : cst 3 = 30 := rfl; have : cst 2 = 14 := rfl; omega)) (dp_extD x2 t1 e2 (pu_enc a) ra) rb na (by omega) da db⟩
theorem st4 : ∃ t, PS (XL P w K mg base f c A outer s H0 E) (forB 4) t ∧ ∀ (En : Ends) (v0 va vb : V) (d : Addr) (a b : Rh.T) (m : Num) (n1 n2 n3 n6 n7 n8 n9 n10 n11 n12 n13 n14 : Option V) (H : Hp), TabsG G H → SumsAt C H d SG m → Dp K H va (enc a) → Dp K H vb (enc b) → a.dp ≤ 3 → b.dp ≤ 3 → a.drawn XY → b.drawn XY →
    (∀ z1 z2 r1 r2 H', Ext G H H' → SumAt C H' z1 r1 → SumAt C H' z2 r2 → Lin m a r1 → Lin m b r2 → En.nx [some v0, n1, n2, n3, some va, some vb, some (.ref z1), some (.ref z2), n8, n9, n10, n11, n12, n13, n14, some (.ref d), none] H') → t En [some v0, n1, n2, n3, some va, some vb, n6, n7, n8, n9, n10, n11, n12, n13, n14, some (.ref d), none] H := by
  refine ⟨_, ps_par (i := 6) (j := 7) (by rfl) sc_law.nd rfl rfl (by decide) rfl rfl (pa_cons (pe_cl F.of (hr.mono (by omega)) rfl (pa_cons (pv 4) (pa_cons (pv 15) pa_nil))) (pa_cons (pe_cl F.of (hr.mono (by omega)) rfl (pa_cons (pv 5) (pa_cons (pv 15) pa_nil))) pa_nil)) rfl, ?_⟩
  intro En v0 va vb d a b m n1 n2 n3 n6 n7 n8 n9 n10 n11 n12 n13 n14 H tG sm ra rb na nb da db q
  show tCons _ _ _ _ _
  refine s_consQ ?_
  refine rd_of (K := K) (G := G) (C := C) tG rfl rfl ra sm na da fun z1 r1 H1 x1 s1 l1 => ?_
  have t1 := tG.ext x1
  show tCons _ _ _ _ _
  refine s_consQ ?_
  refine rd_of (K := K) (G := G) (C := C) t1 rfl rfl (dp_ext x1 tG rb) (sm.ext tG x1) nb db fun z2 r2 H2 x2 s2 l2 => ?_
  exact ⟨.ref z1, .ref z2, rfl, q z1 z2 r1 r2 H2 (x1.trans x2) (s1.ext t1 x2) s2 l1 l2⟩
end
end
end Rh
set_option Elab.async false
set_option linter.all false
set_option maxRecDepth 100000
set_option maxHeartbeats 1000000
/-! law: a turn -/
namespace Rh
open PySem PySem.Spec PyProof.Rows L2 L2.DX GxR Gx Dl LiI LamX
def bd : Nat → Int
  | 0 => 10
  | n + 1 => 2 + 4 * bd n
theorem bd_ge : ∀ n, 10 ≤ bd n
  | 0 => Int.le_refl _
  | n + 1 => by have := bd_ge n; show 10 ≤ 2 + 4 * bd n; omega
theorem mul_bd {x y B : Int} (h0 : 0 ≤ x) (h2 : x ≤ 2) (y0 : 0 ≤ y) (yB : y ≤ B) : 0 ≤ x * y ∧ x * y ≤ 2 * B := by
  have : x = 0 ∨ x = 1 ∨ x = 2 := by omega
  rcases this with e | e | e <;> subst e <;> omega
abbrev NBs (m : Num) : Prop := ∀ s ar, SG s = some ar → NB (m s)
theorem lv_bd {m : Num} {ρ : L2.Key → Int} (hm : NBs m) (hρ : ∀ x, 0 ≤ ρ x ∧ ρ x ≤ 9) : ∀ {t : T} {n : Nat}, t.sg SG → t.dp ≤ n → 0 ≤ lv m ρ t ∧ lv m ρ t ≤ bd n
  | .v x, n, _, _ => by
    have := hρ (.inr x)
    have := bd_ge n
    show 0 ≤ ρ (.inr x) ∧ ρ (.inr x) ≤ bd n
    omega
  | .c s, n, h, _ => by
    have := (hm s 0 h).a
    have := bd_ge n
    show 0 ≤ (m s).1 ∧ (m s).1 ≤ bd n
    omega
  | .u s t, n, h, hd => by
    match n, hd with
    | n + 1, hd =>
      have nb := hm s 1 h.1
      have ih := lv_bd hm hρ (t := t) (n := n) h.2 (Nat.le_of_succ_le_succ hd)
      have h1 := mul_bd nb.b.1 nb.b.2 ih.1 ih.2
      have := nb.a
      have := bd_ge n
      show 0 ≤ (m s).1 + (m s).2.1 * lv m ρ t ∧ (m s).1 + (m s).2.1 * lv m ρ t ≤ 2 + 4 * bd n
      omega
  | .b s t r, n, h, hd => by
    match n, hd with
    | n + 1, hd =>
      have hd : max t.dp r.dp + 1 ≤ n + 1 := hd
      have nb := hm s 2 h.1
      have i1 := lv_bd hm hρ (t := t) (n := n) h.2.1 (by omega)
      have i2 := lv_bd hm hρ (t := r) (n := n) h.2.2 (by omega)
      have h1 := mul_bd nb.b.1 nb.b.2 i1.1 i1.2
      have h2 := mul_bd nb.c.1 nb.c.2 i2.1 i2.2
      have := nb.a
      show 0 ≤ (m s).1 + (m s).2.1 * lv m ρ t + (m s).2.2 * lv m ρ r ∧ (m s).1 + (m s).2.1 * lv m ρ t + (m s).2.2 * lv m ρ r ≤ 2 + 4 * bd n
      omega
theorem ite_bd {c : Prop} [Decidable c] {x : Int} (h : 0 ≤ x ∧ x ≤ 2) : 0 ≤ (if c then x else 0) ∧ (if c then x else 0) ≤ 2 := by
  split <;> omega
theorem lin_bd {m : Num} (hm : NBs m) (k : Ks) : ∀ {t : T} {n : Nat}, t.sg SG → t.dp ≤ n → 0 ≤ lin m t k ∧ lin m t k ≤ bd n
  | .v x, n, _, _ => by
    have := bd_ge n
    have h := ite_bd (c := k = [.inr x]) (x := 1) (by decide)
    show 0 ≤ (if k = [.inr x] then (1 : Int) else 0) ∧ (if k = [.inr x] then (1 : Int) else 0) ≤ bd n
    omega
  | .c s, n, h, _ => by
    have := ite_bd (c := k = []) (hm s 0 h).a
    have := bd_ge n
    show 0 ≤ (if k = [] then (m s).1 else 0) ∧ (if k = [] then (m s).1 else 0) ≤ bd n
    omega
  | .u s t, n, h, hd => by
    match n, hd with
    | n + 1, hd =>
      have nb := hm s 1 h.1
      have ih := lin_bd hm k (t := t) (n := n) h.2 (Nat.le_of_succ_le_succ hd)
      have h1 := mul_bd nb.b.1 nb.b.2 ih.1 ih.2
      have := ite_bd (c := k = []) nb.a
      have := bd_ge n
      show 0 ≤ (if k = [] then (m s).1 else 0) + (m s).2.1 * lin m t k ∧ (if k = [] then (m s).1 else 0) + (m s).2.1 * lin m t k ≤ 2 + 4 * bd n
      omega
  | .b s t r, n, h, hd => by
    match n, hd with
    | n + 1, hd =>
      have hd : max t.dp r.dp + 1 ≤ n + 1 := hd
      have nb := hm s 2 h.1
      have i1 := lin_bd hm k (t := t) (n := n) h.2.1 (by omega)
      have i2 := lin_bd hm k (t := r) (n := n) h.2.2 (by omega)
      have h1 := mul_bd nb.b.1 nb.b.2 i1.1 i1.2
      have h2 := mul_bd nb.c.1 nb.c.2 i2.1 i2.2
      have := ite_bd (c := k = []) nb.a
      show 0 ≤ (if k = [] then (m s).1 else 0) + (m s).2.1 * lin m t k + (m s).2.2 * lin m r k ∧ (if k = [] then (m s).1 else 0) + (m s).2.1 * lin m t k + (m s).2.2 * lin m r k ≤ 2 + 4 * bd n
      omega
theorem val_diff (ρ : L2.Key → Int) {rows r1 r2 : List Row} (cf : ∀ k, coef rows k = coef r1 k - coef r2 k) : val ρ rows = val ρ r1 - val ρ r2 := by
  have e := val_coef ρ (a := rows) (b := r1 ++ negR r2) fun k => by rw [cf, coef_app, coef_neg]; omega
  rw [e, val_app, val_neg]
  omega
theorem val_sum (ρ : L2.Key → Int) {rows r1 r2 : List Row} (cf : ∀ k, coef rows k = coef r1 k + coef r2 k) : val ρ rows = val ρ r1 + val ρ r2 := by
  have e := val_coef ρ (a := rows) (b := r1 ++ r2) fun k => by rw [cf, coef_app]
  rw [e, val_app]
theorem gr_val {ρ : L2.Key → Int} (h : ∀ x, 0 ≤ ρ x) {rows r1 r2 : List Row} (cf : ∀ k, coef rows k = coef r1 k - coef r2 k) (g : grB rows = true) : val ρ r2 < val ρ r1 := by
  unfold grB at g
  obtain ⟨g1, g2⟩ := Bool.and_eq_true_iff.mp g
  have := val_gt h (rows := rows) fun r hr => of_decide_eq_true (List.all_eq_true.mp g2 r hr)
  have := of_decide_eq_true g1
  have := val_diff ρ cf
  omega
theorem le_val {ρ : L2.Key → Int} (h : ∀ x, 0 ≤ ρ x) {rows r1 r2 : List Row} (cf : ∀ k, coef rows k = coef r1 k - coef r2 k) (g : leB rows = true) : val ρ r2 ≤ val ρ r1 := by
  have := val_ge h (rows := rows) fun r hr => of_decide_eq_true (List.all_eq_true.mp g r hr)
  have := val_diff ρ cf
  omega
def NmOk (rows : List Row) : Prop := ∀ r ∈ rows, ∀ x ∈ r.1, ∃ s, x = .inr s ∧ IsXY s
theorem ks_nm {k : Ks} (h : k ∈ KS) : ∀ x ∈ k, ∃ s, x = .inr s ∧ IsXY s := fun x hx => by
  simp only [List.mem_cons, List.not_mem_nil, or_false] at h
  rcases h with e | e | e
  · rw [e] at hx; cases hx
  · rw [e] at hx; exact ⟨_, List.mem_singleton.mp hx, .inl rfl⟩
  · rw [e] at hx; exact ⟨_, List.mem_singleton.mp hx, .inr rfl⟩
theorem nm_of {rows : List Row} (h : ∀ k ∈ keysR rows, k ∈ KS) : NmOk rows := fun r hr => ks_nm (h r.1 (List.mem_map_of_mem (f := (·.1)) hr))
theorem nm_prod {rows r1 r2 : List Row} (n1 : NmOk r1) (n2 : NmOk r2) (h : ∀ k ∈ keysR rows, k ∈ keysR (prodR srtKs r1 r2)) : NmOk rows := fun r hr x hx => by
  obtain ⟨q, hq, e⟩ := List.mem_map.mp (h r.1 (List.mem_map_of_mem (f := (·.1)) hr))
  obtain ⟨a, ha, hq⟩ := List.mem_flatMap.mp hq
  obtain ⟨b, hb, rfl⟩ := List.mem_map.mp hq
  rw [← e] at hx
  have := (srtKs_perm _).mem_iff.mp hx
  rcases List.mem_append.mp this with z | z
  · exact n1 a ha x z
  · exact n2 b hb x z
def RowD (H : Hp) (d : Addr) (ρ : L2.Key → Int) : Prop := (∀ x, 0 ≤ ρ x ∧ ρ x ≤ 9) ∧ RowAt H d ρ
section
variable {G : List Addr} {K : PySem.W.Frag} {σ : L2.St} {H H' : Hp} {D C d : Addr}
theorem RowD.ext {ρ : L2.Key → Int} (s : RowD H d ρ) (t : TabsG G H) (x : Ext G H H') : RowD H' d ρ := ⟨s.1, s.2.ext t x⟩
theorem val_core {z : Addr} {rows : List Row} {ρ : L2.Key → Int} {E : XK} {Q : VK} (tG : TabsG G H) (s : SumAt C H z rows) (rd : RowD H d ρ) (tx : Txts rows) (nm : NmOk rows) (q : ∀ H', Ext G H H' → Q (.int (val ρ rows)) H') : spVal G C [.ref z, .ref d] H Q E := by
  obtain ⟨kvs, e, h⟩ := rd.2
  refine ⟨tG, z, d, rows, kvs, ρ, rfl, s, e, tx, fun r hr x hx => ?_, q⟩
  obtain ⟨s, rfl, hs⟩ := nm r hr x hx
  exact ⟨h s hs, rd.1 _⟩
end
section
variable {P : Program} {w : World} {K : PySem.W.Frag} {mg : Str → Option Value} {base : Heap} {G : List Addr} {f g C fi CT CB CN CL Pl : Addr} {fd fdi gd : FuncData}
section
variable {c : Addr} {A : Around} {outer : List Env} {s : Shared} {H0 : Hp} {E : XK} (F : LF P w K mg base G C fi fdi) (hr : Room 40 (XL P w K mg base f c A outer s H0 E).A)
include F hr
theorem st50 : ∃ t, PS (XL P w K mg base f c A outer s H0 E) (turnB 0) t ∧ ∀ (En : Ends) (v0 va vb : V) (dN D : Addr) (n : Nat) (n3 n6 n7 n8 n9 n10 n11 n12 n13 n14 n15 : Option V) (H : Hp), TabsG G H → DiceAt n H D → n < 90000 →
    (∀ dR ρ H', Ext (D :: G) H H' → DiceAt (n + 2) H' D → RowD H' dR ρ → En.nx [some v0, some (.ref D), some (.ref dN), n3, some va, some vb, n6, n7, n8, some (.ref dR), n10, n11, n12, n13, n14, n15, none] H') → t En [some v0, some (.ref D), some (.ref dN), n3, some va, some vb, n6, n7, n8, n9, n10, n11, n12, n13, n14, n15, none] H := by
  refine ⟨_, ps_set (i := 9) sc_law.nd rfl (Or.inl rfl) (pe_disp (pps_cons pe_str (pe_cl F.rl (hr.mono (by omega)) rfl (pa_cons (pv 1) (pa_cons pe_int pa_nil))) (pps_cons pe_str (pe_cl F.rl (hr.mono (by omega)) rfl (pa_cons (pv 1) (pa_cons pe_int pa_nil))) pps_nil)) (by rfl) (by rfl) (fun z => by cases z) (by decide)), ?_⟩
  intro En v0 va vb dN D n n3 n6 n7 n8 n9 n10 n11 n12 n13 n14 n15 H tG hD hn q p hp
  have x0 : Ext G H (upd H p (.dK [])) := Ext.new hp
  have t0 := tG.ext x0
  have d0 := hD.ext tG x0
  have np := hD.ne hp
  have e0 : upd H p (.dK []) p = some (.dK []) := upd_same
  generalize upd H p (.dK []) = Ha at x0 t0 d0 e0
  refine s_prs ?_
  refine run_roll (σ := [some v0, some (.ref D), some (.ref dN), n3, some va, some vb, n6, n7, n8, n9, n10, n11, n12, n13, n14, n15, none]) (G := G) (m := 10) t0 rfl (by decide) (by decide) (by omega) d0 fun r1 H1 b1 x1 d1 => ?_
  have t1 := t0.wide x1
  have p1 := at_D x1 t0 e0 (fun ps z => by cases z) np
  refine s_prs ?_
  refine run_roll (σ := [some v0, some (.ref D), some (.ref dN), n3, some va, some vb, n6, n7, n8, n9, n10, n11, n12, n13, n14, n15, none]) (G := G) (m := 10) t1 rfl (by decide) (by decide) (by omega) d1 fun r2 H2 b2 x2 d2 => ?_
  have p2 := at_D x2 t1 p1 (fun ps z => by cases z) np
  refine s_prn ?_
  refine ⟨p2, [((.inr (Str.ofString "x") : L2.Key), V.int r1), (.inr (Str.ofString "y"), .int r2)], rfl, (by show 2 ≤ 15; decide), ?_⟩
  refine q p (fun k => if k = .inr (Str.ofString "x") then r1 else r2) _ ((x0.wide.trans (x1.trans x2)).mut hp p2 (fun ps z => by cases z)) (d2.upd fun z => np z.symm) ⟨fun x => ?_, _, upd_same, fun x hx => ?_⟩
  · dsimp only
    split <;> omega
  · rcases hx with e | e <;> rw [e] <;> rfl
theorem st51 : ∃ t, PS (XL P w K mg base f c A outer s H0 E) (turnB 1) t ∧ ∀ (En : Ends) (v0 va vb : V) (dN dR D : Addr) (a b : Rh.T) (m : Num) (ρ : L2.Key → Int) (n3 n6 n7 n8 n10 n11 n12 n13 n14 n15 : Option V) (H : Hp), TabsG G H → NumsAt H dN SG m → RowD H dR ρ → Dp K H va (enc a) → Dp K H vb (enc b) → a.dp ≤ 3 → b.dp ≤ 3 → a.drawn XY → b.drawn XY →
    (∀ H', Ext G H H' → En.nx [some v0, some (.ref D), some (.ref dN), n3, some va, some vb, n6, n7, n8, some (.ref dR), some (.int (lv m ρ a)), some (.int (lv m ρ b)), n12, n13, n14, n15, none] H') → t En [some v0, some (.ref D), some (.ref dN), n3, some va, some vb, n6, n7, n8, some (.ref dR), n10, n11, n12, n13, n14, n15, none] H := by
  refine ⟨_, ps_par (i := 10) (j := 11) (by rfl) sc_law.nd rfl rfl (by decide) rfl rfl (pa_cons (pe_cl F.lv (hr.mono (by omega)) rfl (pa_cons (pv 4) (pa_cons (pv 2) (pa_cons (pv 9) pa_nil)))) (pa_cons (pe_cl F.lv (hr.mono (by omega)) rfl (pa_cons (pv 5) (pa_cons (pv 2) (pa_cons (pv 9) pa_nil)))) pa_nil)) rfl, ?_⟩
  intro En v0 va vb dN dR D a b m ρ n3 n6 n7 n8 n10 n11 n12 n13 n14 n15 H tG nm rd ra rb na nb da db q
  show tCons _ _ _ _ _
  refine s_consQ ?_
  refine tcall3 (v := va) (u := .ref dN) (w := .ref dR) (fun Q q => ⟨va, rfl, q⟩) (fun Q q => ⟨_, rfl, q⟩) (fun Q q => ⟨_, rfl, q⟩) ?_
  refine ⟨tG, va, dN, dR, a, SG, m, ρ, rfl, ra, nm, rd.2, drawn_ok da, by omega, by decide, drawn_sg da, fun H1 x1 => ?_⟩
  have t1 := tG.ext x1
  show tCons _ _ _ _ _
  refine s_consQ ?_
  refine tcall3 (v := vb) (u := .ref dN) (w := .ref dR) (fun Q q => ⟨vb, rfl, q⟩) (fun Q q => ⟨_, rfl, q⟩) (fun Q q => ⟨_, rfl, q⟩) ?_
  refine ⟨t1, vb, dN, dR, b, SG, m, ρ, rfl, dp_ext x1 tG rb, nm.ext tG x1, (rd.ext tG x1).2, drawn_ok db, by omega, by decide, drawn_sg db, fun H2 x2 => ?_⟩
  exact ⟨_, _, rfl, q H2 (x1.trans x2)⟩
end
end
end Rh
set_option Elab.async false
set_option linter.all false
set_option maxRecDepth 100000
set_option maxHeartbeats 1000000
/-! law: a turn's tests, the turns -/
namespace Rh
open PySem PySem.Spec PyProof.Rows L2 L2.DX GxR Gx Dl LiI LamX
theorem ne_f {x y : V} (h : x = y) : (!decide (x = y)) = false := by rw [decide_eq_true h]; rfl
section
variable {G : List Addr} {K : PySem.W.Frag} {σ : L2.St} {H H' : Hp} {D C d : Addr}
theorem SumAt.extD {p : Addr} {rows : List Row} {l : List V} (s : SumAt C H p rows) (t : TabsG G H) (x : Ext (D :: G) H H') (hD : H D = some (.lst l)) : SumAt C H' p rows := by
  obtain ⟨dx, fs, a, o, ts, h1, h2, h3, h4, h5⟩ := s
  have ne : ∀ {a : Addr} {o : HO}, H a = some o → (∀ l, o ≠ .lst l) → a ≠ D := fun e no z => by
    rw [z, hD] at e
    cases e
    exact no _ rfl
  have k : TupK H H' := fun a xs e => at_D x t e (fun ps z => by cases z) (ne e fun l z => by cases z)
  exact ⟨dx, fs, a, o, ts, at_D x t h1 (fun ps z => by cases z) (ne h1 fun l z => by cases z), h2, at_D x t h3 (fun ps z => by cases z) (ne h3 fun l z => by cases z), h4, h5.mono k⟩
theorem SumsAt.extD {g : Sgn} {m : Num} {l : List V} (s : SumsAt C H d g m) (t : TabsG G H) (x : Ext (D :: G) H H') (hD : H D = some (.lst l)) : SumsAt C H' d g m := by
  obtain ⟨kvs, h1, h2, h3⟩ := s
  refine ⟨kvs, at_D x t h1 (fun ps z => by cases z) (fun z => by rw [z, hD] at h1; cases h1), fun s ar h => ?_, h3⟩
  obtain ⟨p, rows, e1, e2, e3⟩ := h2 s ar h
  exact ⟨p, rows, e1, e2.extD t x hD, e3⟩
theorem NumD.bs {m : Num} (s : NumD H D d m) : NBs m := fun s' ar h => by
  obtain ⟨kvs, _, _, _, k⟩ := s.get
  obtain ⟨l, _, _, nb, _⟩ := k _ (SG_in h)
  exact nb
theorem lin_rows {m : Num} {t : T} {rows : List Row} (hm : NBs m) (l : Lin m t rows) (s : t.sg SG) (hd : t.dp ≤ 3) : (∀ r ∈ rows, -(2 ^ 60) < r.2 ∧ r.2 < 2 ^ 60) ∧ ∀ r ∈ rows, r.1.length ≤ 1000 := by
  refine ⟨fun r hr => ?_, fun r hr => Nat.le_trans (KS_short (l.ks s r.1 (List.mem_map_of_mem (f := (·.1)) hr))) (by decide)⟩
  have h := lin_bd hm r.1 (n := 3) s hd
  rw [← l.cf, coef_mem l.ok.g.nd hr] at h
  have e : bd 3 = 682 := rfl
  rw [e] at h
  omega
end
section
variable {P : Program} {w : World} {K : PySem.W.Frag} {mg : Str → Option Value} {base : Heap} {G : List Addr} {f g C fi CT CB CN CL Pl : Addr} {fd fdi gd : FuncData}
section
variable {c : Addr} {A : Around} {outer : List Env} {s : Shared} {H0 : Hp} {E : XK} (F : LF P w K mg base G C fi fdi) (hr : Room 40 (XL P w K mg base f c A outer s H0 E).A)
include F hr
theorem st52 : ∃ t, PS (XL P w K mg base f c A outer s H0 E) (turnB 2) t ∧ ∀ (En : Ends) (v0 va vb : V) (dN dR D z1 z2 : Addr) (a b : Rh.T) (m : Num) (ρ : L2.Key → Int) (r1 r2 : List Row) (n3 n8 n12 n13 n14 n15 : Option V) (H : Hp), TabsG G H → NBs m → RowD H dR ρ → SumAt C H z1 r1 → SumAt C H z2 r2 → Lin m a r1 → Lin m b r2 → a.dp ≤ 3 → b.dp ≤ 3 → a.drawn XY → b.drawn XY →
    (∀ H', Ext G H H' → En.nx [some v0, some (.ref D), some (.ref dN), n3, some va, some vb, some (.ref z1), some (.ref z2), n8, some (.ref dR), some (.int (lv m ρ a)), some (.int (lv m ρ b)), n12, n13, n14, n15, none] H') → t En [some v0, some (.ref D), some (.ref dN), n3, some va, some vb, some (.ref z1), some (.ref z2), n8, some (.ref dR), some (.int (lv m ρ a)), some (.int (lv m ρ b)), n12, n13, n14, n15, none] H := by
  refine ⟨_, ps_if (PW.pt (pw_or (pt_cmpR op_ne (pe_cl F.va (hr.mono (by omega)) rfl (pa_cons (pv 6) (pa_cons (pv 9) pa_nil))) (pv 10) (nomark _)) (pw_or (pt_cmpR op_ne (pe_cl F.va (hr.mono (by omega)) rfl (pa_cons (pe_cl F.ad (hr.mono (by omega)) rfl (pa_cons (pv 6) (pa_cons (pv 7) pa_nil))) (pa_cons (pv 9) pa_nil))) (pe_op op_add (pv 10) (pv 11)) (nomark _)) (pw_or1 (pt_cmpR op_ne (pe_cl F.va (hr.mono (by omega)) rfl (pa_cons (pe_cl F.ti (hr.mono (by omega)) rfl (pa_cons (pv 6) (pa_cons (pv 7) pa_nil))) (pa_cons (pv 9) pa_nil))) (pe_op op_mul (pv 10) (pv 11)) (nomark _)))))) (pss_one (ps_ret pe_bl)) pss_nil, ?_⟩
  intro En v0 va vb dN dR D z1 z2 a b m ρ r1 r2 n3 n8 n12 n13 n14 n15 H tG hm rd s1 s2 l1 l2 na nb da db q
  have g1 := drawn_sg da
  have g2 := drawn_sg db
  have v1 := l1.val g1 ρ
  have v2 := l2.val g2 ρ
  have le1 := l1.len g1
  have le2 := l2.len g2
  have i1 := lin_rows hm l1 g1 na
  have i2 := lin_rows hm l2 g2 nb
  refine s_if (G := G) (b := false) (edt_is (b := false || (false || false)) (edt_or (b := false) (fun H1 x1 Q qq => ?_) fun _ => edt_or (b := false) (fun H1 x1 Q qq => ?_) fun _ H1 x1 Q qq => ?_) rfl) (fun z => by cases z) fun _ H' x => q H' x
  · show tCall _ _ _ _ _ _ _
    refine tcall2 (v := .ref z1) (u := .ref dR) (fun Q q => ⟨_, rfl, q⟩) (fun Q q => ⟨_, rfl, q⟩) (val_core (G := G) (tG.ext x1) (s1.ext tG x1) (rd.ext tG x1) l1.ok.t (nm_of (l1.ks g1)) fun H2 x2 => ?_)
    refine ⟨_, rfl, rfl, _, rfl, ?_⟩
    rw [ne_f (by rw [v1])]
    exact qq H2 x2
  · show tCall _ _ _ _ _ _ _
    show tCons _ _ _ _ _
    refine s_consQ ?_
    have t1 := tG.ext x1
    refine tcall2 (v := .ref z1) (u := .ref z2) (fun Q q => ⟨_, rfl, q⟩) (fun Q q => ⟨_, rfl, q⟩) ?_
    refine ⟨t1, z1, z2, r1, r2, rfl, s1.ext tG x1, s2.ext tG x1, l1.ok, l2.ok, by omega, by omega, fun z rows H2 y2 sz ok cf ks => ?_⟩
    refine ⟨.ref dR, rfl, ?_⟩
    dsimp only [tNil]
    show spVal G C ([.ref z, .ref dR] ++ []) H2 _ _
    rw [List.append_nil]
    refine val_core (G := G) (t1.ext y2) sz (rd.ext tG (x1.trans y2)) ok.t (nm_of fun k hk => (ks k hk).elim (l1.ks g1 k) (l2.ks g2 k)) fun H3 y3 => ?_
    refine ⟨_, rfl, _, rfl, _, _, rfl, rfl, rfl, _, rfl, ?_⟩
    rw [ne_f (by rw [val_sum ρ cf, v1, v2])]
    exact qq H3 (y2.trans y3)
  · show tCall _ _ _ _ _ _ _
    show tCons _ _ _ _ _
    refine s_consQ ?_
    have t1 := tG.ext x1
    refine tcall2 (v := .ref z1) (u := .ref z2) (fun Q q => ⟨_, rfl, q⟩) (fun Q q => ⟨_, rfl, q⟩) ?_
    refine ⟨t1, z1, z2, r1, r2, rfl, s1.ext tG x1, s2.ext tG x1, l1.ok, l2.ok, by omega, by omega, i1.1, i1.2, i2.2, fun z rows H2 y2 sz ok cf ks => ?_⟩
    refine ⟨.ref dR, rfl, ?_⟩
    dsimp only [tNil]
    show spVal G C ([.ref z, .ref dR] ++ []) H2 _ _
    rw [List.append_nil]
    refine val_core (G := G) (t1.ext y2) sz (rd.ext tG (x1.trans y2)) ok.t (nm_prod (nm_of (l1.ks g1)) (nm_of (l2.ks g2)) ks) fun H3 y3 => ?_
    have lb := lv_bd (n := 3) hm rd.1 g1 na
    have e3 : bd 3 = 682 := rfl
    rw [e3] at lb
    refine ⟨_, rfl, _, rfl, _, _, rfl, rfl, .inl ⟨by omega, by omega⟩, rfl, _, rfl, ?_⟩
    rw [ne_f (by rw [val_coef ρ cf, val_prod ρ srtKs_perm, v1, v2])]
    exact qq H3 (y2.trans y3)
theorem st53 : ∃ t, PS (XL P w K mg base f c A outer s H0 E) (turnB 3) t ∧ ∀ (En : Ends) (v0 va vb : V) (dN dR D z1 z2 : Addr) (a b : Rh.T) (m : Num) (ρ : L2.Key → Int) (r1 r2 : List Row) (n3 n8 n12 n13 n14 n15 : Option V) (H : Hp), TabsG G H → NBs m → RowD H dR ρ → SumAt C H z1 r1 → SumAt C H z2 r2 → Lin m a r1 → Lin m b r2 → a.dp ≤ 3 → b.dp ≤ 3 → a.drawn XY → b.drawn XY →
    (∀ H', Ext G H H' → En.nx [some v0, some (.ref D), some (.ref dN), n3, some va, some vb, some (.ref z1), some (.ref z2), n8, some (.ref dR), some (.int (lv m ρ a)), some (.int (lv m ρ b)), n12, n13, n14, n15, none] H') → t En [some v0, some (.ref D), some (.ref dN), n3, some va, some vb, some (.ref z1), some (.ref z2), n8, some (.ref dR), some (.int (lv m ρ a)), some (.int (lv m ρ b)), n12, n13, n14, n15, none] H := by
  refine ⟨_, ps_if (PW.pt (pw_or (PW.pt (pw_and (pt_val (pe_cl F.gt (hr.mono (by omega)) rfl (pa_cons (pv 6) (pa_cons (pv 7) pa_nil)))) (pw_and1 (pt_cmpR op_le (pv 10) (pv 11) (nomark _))))) (pw_or1 (PW.pt (pw_and (pt_val (pe_cl F.nl (hr.mono (by omega)) rfl (pa_cons (pv 6) (pa_cons (pv 7) pa_nil)))) (pw_and1 (pt_cmpR op_lt (pv 10) (pv 11) (nomark _)))))))) (pss_one (ps_ret pe_bl)) pss_nil, ?_⟩
  intro En v0 va vb dN dR D z1 z2 a b m ρ r1 r2 n3 n8 n12 n13 n14 n15 H tG hm rd s1 s2 l1 l2 na nb da db q
  have g1 := drawn_sg da
  have g2 := drawn_sg db
  have v1 := l1.val g1 ρ
  have v2 := l2.val g2 ρ
  have le1 := l1.len g1
  have le2 := l2.len g2
  have h0 : ∀ x, 0 ≤ ρ x := fun x => (rd.1 x).1
  refine s_if (G := G) (b := false) (edt_is (b := false || false) (edt_or (b := false) (fun H1 x1 Q qq => ?_) fun _ H1 x1 Q qq => ?_) rfl) (fun z => by cases z) fun _ H' x => q H' x
  · show tCall _ _ _ _ _ _ _
    refine tcall2 (v := .ref z1) (u := .ref z2) (fun Q q => ⟨_, rfl, q⟩) (fun Q q => ⟨_, rfl, q⟩) ?_
    refine ⟨tG.ext x1, z1, z2, r1, r2, rfl, s1.ext tG x1, s2.ext tG x1, l1.ok, l2.ok, by omega, by omega, fun rows H2 y2 ok cf => ⟨grB rows, rfl, ?_⟩⟩
    cases hg : grB rows with
    | false => exact qq H2 y2
    | true =>
      have := gr_val h0 cf hg
      rw [v1, v2] at this
      refine ⟨_, rfl, _, rfl, _, _, rfl, rfl, _, rfl, ?_⟩
      rw [decide_eq_false (by omega)]
      exact qq H2 y2
  · show tCall _ _ _ _ _ _ _
    refine tcall2 (v := .ref z1) (u := .ref z2) (fun Q q => ⟨_, rfl, q⟩) (fun Q q => ⟨_, rfl, q⟩) ?_
    refine ⟨tG.ext x1, z1, z2, r1, r2, rfl, s1.ext tG x1, s2.ext tG x1, l1.ok, l2.ok, by omega, by omega, fun rows H2 y2 ok cf => ⟨leB rows, rfl, ?_⟩⟩
    cases hg : leB rows with
    | false => exact qq H2 y2
    | true =>
      have := le_val h0 cf hg
      rw [v1, v2] at this
      refine ⟨_, rfl, _, rfl, _, _, rfl, rfl, _, rfl, ?_⟩
      rw [decide_eq_false (by omega)]
      exact qq H2 y2
end
end
end Rh
set_option Elab.async false
set_option linter.all false
set_option maxRecDepth 100000
set_option maxHeartbeats 1000000
/-! law: the turns; one against itself -/
namespace Rh
open PySem PySem.Spec PyProof.Rows L2 L2.DX GxR Gx Dl LiI LamX
theorem gr_no {rows : List Row} (h : coef rows [] ≤ 0) : grB rows = false := by
  unfold grB
  rw [decide_eq_false (by omega)]
  rfl
theorem gr_yes {rows : List Row} {c : Int} (ok : Ok rows) (hc : 0 < c) (cf : ∀ k, coef rows k = if [] = k then c else 0) : grB rows = true := by
  unfold grB
  have e := cf []
  rw [if_pos rfl] at e
  rw [e, decide_eq_true hc, Bool.true_and, List.all_eq_true]
  intro r hr
  have h1 := coef_mem ok.g.nd hr
  rw [cf] at h1
  refine decide_eq_true ?_
  split at h1 <;> omega
theorem le_nil {rows : List Row} (ok : Ok rows) (cf : ∀ k, coef rows k = 0) : leB rows = true := by
  unfold leB
  rw [List.all_eq_true]
  intro r hr
  have h1 := coef_mem ok.g.nd hr
  rw [cf] at h1
  exact decide_eq_true (by omega)
theorem ok_one : Ok [(([] : Ks), (1 : Int))] := ⟨⟨by simp [keysR], fun r hr => by rw [List.mem_singleton.mp hr]; exact Int.one_ne_zero⟩, fun r hr x hx => by rw [List.mem_singleton.mp hr] at hx; cases hx⟩
section
variable {P : Program} {w : World} {K : PySem.W.Frag} {mg : Str → Option Value} {base : Heap} {G : List Addr} {f g C fi CT CB CN CL Pl : Addr} {fd fdi gd : FuncData}
section
variable {c : Addr} {A : Around} {outer : List Env} {s : Shared} {H0 : Hp} {E : XK} (F : LF P w K mg base G C fi fdi) (hr : Room 40 (XL P w K mg base f c A outer s H0 E).A)
include F hr
theorem st5 : ∃ t, PS (XL P w K mg base f c A outer s H0 E) (forB 5) t ∧ ∀ (En : Ends) (v0 va vb : V) (dN D z1 z2 : Addr) (a b : Rh.T) (m : Num) (r1 r2 : List Row) (n : Nat) (n3 n8 n9 n10 n11 n12 n13 n14 n15 : Option V) (H : Hp), TabsG G H → NumD H D dN m → DiceAt n H D → n < 80000 → Dp K H va (enc a) → Dp K H vb (enc b) → SumAt C H z1 r1 → SumAt C H z2 r2 → Lin m a r1 → Lin m b r2 → a.dp ≤ 3 → b.dp ≤ 3 → a.drawn XY → b.drawn XY →
    (∀ x8 x9 x10 x11 H', Ext (D :: G) H H' → DiceAt (n + 6) H' D → En.nx [some v0, some (.ref D), some (.ref dN), n3, some va, some vb, some (.ref z1), some (.ref z2), x8, x9, x10, x11, n12, n13, n14, n15, none] H') → t En [some v0, some (.ref D), some (.ref dN), n3, some va, some vb, some (.ref z1), some (.ref z2), n8, n9, n10, n11, n12, n13, n14, n15, none] H := by
  obtain ⟨t50, h50, q50⟩ := st50 F hr
  obtain ⟨t51, h51, q51⟩ := st51 F hr
  obtain ⟨t52, h52, q52⟩ := st52 F hr
  obtain ⟨t53, h53, q53⟩ := st53 F hr
  refine ⟨_, ps_for PassesOwn.never rfl (pi_range1 rfl F.range (pa_cons pe_int pa_nil)) (pg_name (i := 8) sc_law.nd rfl (Or.inl rfl)) (pss_cons h50 (pss_cons h51 (pss_cons h52 (pss_one h53)))), ?_⟩
  intro En v0 va vb dN D z1 z2 a b m r1 r2 n n3 n8 n9 n10 n11 n12 n13 n14 n15 H tG nd hD hn ra rb s1 s2 l1 l2 na nb da db q
  refine ⟨3, rfl, by decide, by decide, ?_⟩
  obtain ⟨lD, eD⟩ := hD.new
  refine for_range (lo := 0) (n := 3) (fun i σ' H' => ∃ x8 x9 x10 x11, σ' = [some v0, some (.ref D), some (.ref dN), n3, some va, some vb, some (.ref z1), some (.ref z2), x8, x9, x10, x11, n12, n13, n14, n15, none] ∧ Ext (D :: G) H H' ∧ DiceAt (n + 2 * i) H' D) ⟨n8, n9, n10, n11, rfl, (Ext.refl G H).wide, hD⟩ (fun i σ' H' hi hp => ?_) (fun σ' H' hp => ?_)
  · obtain ⟨x8, x9, x10, x11, rfl, y, dk⟩ := hp
    have t1 := tG.wide y
    dsimp only [gName]
    refine s_seq (q50 _ v0 va vb dN D (n + 2 * i) n3 (some (.ref z1)) (some (.ref z2)) _ x9 x10 x11 n12 n13 n14 n15 H' t1 dk (by omega) fun dR ρ H2 x2 d2 rd => ?_)
    have y2 := y.trans x2
    have t2 := tG.wide y2
    have nd2 := nd.extD tG y2
    have s12 := s1.extD tG y2 eD
    have s22 := s2.extD tG y2 eD
    refine s_seq (q51 _ v0 va vb dN dR D a b m ρ n3 (some (.ref z1)) (some (.ref z2)) _ x10 x11 n12 n13 n14 n15 H2 t2 nd2.nums rd (dp_extD y2 tG eD (pu_enc a) ra) (dp_extD y2 tG eD (pu_enc b) rb) na nb da db fun H3 x3 => ?_)
    have t3 := t2.ext x3
    have s13 := s12.ext t2 x3
    have s23 := s22.ext t2 x3
    have rd3 := rd.ext t2 x3
    refine s_seq (q52 _ v0 va vb dN dR D z1 z2 a b m ρ r1 r2 n3 _ n12 n13 n14 n15 H3 t3 nd.bs rd3 s13 s23 l1 l2 na nb da db fun H4 x4 => ?_)
    have t4 := t3.ext x4
    refine q53 _ v0 va vb dN dR D z1 z2 a b m ρ r1 r2 n3 _ n12 n13 n14 n15 H4 t4 nd.bs (rd3.ext t3 x4) (s13.ext t3 x4) (s23.ext t3 x4) l1 l2 na nb da db fun H5 x5 => ?_
    have x35 := (x3.trans x4).trans x5
    exact ⟨_, _, _, _, rfl, y2.trans x35.wide, (d2.ext t2 x35).mono (by omega)⟩
  · obtain ⟨x8, x9, x10, x11, rfl, y, dk⟩ := hp
    exact q x8 x9 x10 x11 H' y dk
theorem st6 : ∃ t, PS (XL P w K mg base f c A outer s H0 E) (forB 6) t ∧ ∀ (En : Ends) (z1 : Addr) (r1 : List Row) (n0 n1 n2 n3 n4 n5 n7 n8 n9 n10 n11 n12 n13 n14 n15 : Option V) (H : Hp), TabsG G H → SumAt C H z1 r1 → Ok r1 → r1.length ≤ 3 →
    (∀ H', Ext G H H' → En.nx [n0, n1, n2, n3, n4, n5, some (.ref z1), n7, n8, n9, n10, n11, n12, n13, n14, n15, none] H') → t En [n0, n1, n2, n3, n4, n5, some (.ref z1), n7, n8, n9, n10, n11, n12, n13, n14, n15, none] H := by
  refine ⟨_, ps_if (PW.pt (pw_or (pt_val (pe_cl F.gt (hr.mono (by omega)) rfl (pa_cons (pv 6) (pa_cons (pv 6) pa_nil)))) (pw_or (pt_not (pt_val (pe_cl F.nl (hr.mono (by omega)) rfl (pa_cons (pv 6) (pa_cons (pv 6) pa_nil))))) (pw_or1 (pt_not (pt_val (pe_cl F.gt (hr.mono (by omega)) rfl (pa_cons (pe_cl F.ad (hr.mono (by omega)) rfl (pa_cons (pv 6) (pa_cons (pe_make F.M F.I (hr.mono (by omega)) (by rfl) F.mS F.b .nil pass0 (pa_cons (pe_lst (pa_cons (pe_tup (pa_cons (pe_tup pa_nil) (pa_cons pe_int pa_nil))) pa_nil)) pa_nil)) pa_nil))) (pa_cons (pv 6) pa_nil))))))))) (pss_one (ps_ret pe_bl)) pss_nil, ?_⟩
  intro En z1 r1 n0 n1 n2 n3 n4 n5 n7 n8 n9 n10 n11 n12 n13 n14 n15 H tG s1 o1 le1 q
  refine s_if (G := G) (b := false) (edt_is (b := false || (!true || !true)) (edt_or (b := false) (fun H1 x1 Q qq => ?_) fun _ => edt_or (b := !true) (edt_not (b := true) fun H1 x1 Q qq => ?_) fun _ => edt_not (b := true) fun H1 x1 Q qq => ?_) rfl) (fun z => by cases z) fun _ H' x => q H' x
  · show tCall _ _ _ _ _ _ _
    refine tcall2 (v := .ref z1) (u := .ref z1) (fun Q q => ⟨_, rfl, q⟩) (fun Q q => ⟨_, rfl, q⟩) ?_
    refine ⟨tG.ext x1, z1, z1, r1, r1, rfl, s1.ext tG x1, s1.ext tG x1, o1, o1, by omega, by omega, fun rows H2 y2 ok cf => ⟨grB rows, rfl, ?_⟩⟩
    rw [gr_no (by rw [cf]; omega)]
    exact qq H2 y2
  · show tCall _ _ _ _ _ _ _
    refine tcall2 (v := .ref z1) (u := .ref z1) (fun Q q => ⟨_, rfl, q⟩) (fun Q q => ⟨_, rfl, q⟩) ?_
    refine ⟨tG.ext x1, z1, z1, r1, r1, rfl, s1.ext tG x1, s1.ext tG x1, o1, o1, by omega, by omega, fun rows H2 y2 ok cf => ⟨leB rows, rfl, ?_⟩⟩
    rw [le_nil ok fun k => by rw [cf]; omega]
    exact qq H2 y2
  · show tCall _ _ _ _ _ _ _
    show tCons _ _ _ _ _
    refine s_consQ ?_
    have t1 := tG.ext x1
    refine ⟨.ref z1, rfl, ?_⟩
    show tCons _ _ _ _ _
    refine s_consQ ?_
    refine run_one (K := K) (G := G) (k := []) (n := 1) t1 (fun x hx => by cases hx) (fun Q q => ⟨Nat.zero_le _, fun p hp => q p _ (Ext.new hp) upd_same⟩) (fun H1 y1 Q q => q H1 (Ext.refl G H1)) fun w H2 y2 sw => ?_
    rw [nz_one Int.one_ne_zero] at sw
    have t2 := t1.ext y2
    have s12 := s1.ext tG (x1.trans y2)
    dsimp only [tNil]
    show spAdd G C ([.ref z1, .ref w] ++ []) H2 _ _
    rw [List.append_nil]
    refine ⟨t2, z1, w, r1, _, rfl, s12, sw, o1, ok_one, by omega, by show 1 ≤ 100; decide, fun z rows H3 y3 sz ok cf ks => ?_⟩
    refine ⟨.ref z1, rfl, ?_⟩
    dsimp only [tNil]
    show spCmp grB G C ([.ref z, .ref z1] ++ []) H3 _ _
    rw [List.append_nil]
    have lz : rows.length ≤ 100 := by
      rw [← keys_len]
      have := nd_len (m := keysR r1 ++ keysR [(([] : Ks), (1 : Int))]) ok.g.nd fun k hk => List.mem_append.mpr (ks k hk)
      rw [List.length_append] at this
      have kl := keys_len r1
      have e1 : (keysR [(([] : Ks), (1 : Int))]).length = 1 := rfl
      rw [e1] at this
      omega
    refine ⟨t2.ext y3, z, z1, rows, r1, rfl, sz, s12.ext t2 y3, ok, o1, lz, by omega, fun rows2 H4 y4 ok2 cf2 => ⟨grB rows2, rfl, ?_⟩⟩
    rw [gr_yes (c := 1) ok2 (by decide) fun k => by
      rw [cf2, cf, coef_cons, coef_nil]
      dsimp only
      omega]
    exact qq H4 ((y2.trans y3).trans y4)
end
end
end Rh
set_option Elab.async false
set_option linter.all false
set_option maxRecDepth 100000
set_option maxHeartbeats 1000000
/-! law: the table, grows -/
namespace Rh
open PySem PySem.Spec PyProof.Rows L2 L2.DX GxR Gx Dl LiI LamX
abbrev TBL : List (Str × Nat) := [(sA, 0), (sB, 0), (sF, 2), (sG, 1)]
theorem tbl_all (m : Num) : TBL.all (rowOk m) = (decide (0 < (m sG).2.1) && (decide (0 < (m sF).2.1) && decide (0 < (m sF).2.2))) := by
  show ((true && (true && ((decide (1 ≤ (m sF).2.1) && (decide (1 ≤ (m sF).2.2) && true)) && ((decide (1 ≤ (m sG).2.1) && true) && true))))) = _
  have e : ∀ x : Int, decide (1 ≤ x) = decide (0 < x) := fun x => by
    by_cases h : 0 < x
    · rw [decide_eq_true h, decide_eq_true (show 1 ≤ x by omega)]
    · rw [decide_eq_false h, decide_eq_false (show ¬ 1 ≤ x by omega)]
  rw [e, e, e]
  cases decide (0 < (m sG).2.1) <;> cases decide (0 < (m sF).2.1) <;> cases decide (0 < (m sF).2.2) <;> rfl
section
variable {G : List Addr} {K : PySem.W.Frag} {σ : L2.St} {H : Hp}
/-- (s, n), written out -/
theorem run_tab {s : Str} {i : Nat} {Q : VK} (tG : TabsG G H) (q : ∀ v H', Ext G H H' → Dp K H' v (sgD (s, i)) → Q v H') : tTup (tCons (tC (.str s)) (tCons (tC (.int i)) tNil)) σ H Q :=
  ⟨by show 2 ≤ sizeLine; decide, fun p hp => q (.ref p) _ (Ext.new hp) (.tup (.inl (.inl upd_same)) (.cons (.str _) (.cons (.int _) .nil)))⟩
end
section
variable {P : Program} {w : World} {K : PySem.W.Frag} {mg : Str → Option Value} {base : Heap} {G : List Addr} {f g C fi CT CB CN CL Pl : Addr} {fd fdi gd : FuncData}
section
variable {c : Addr} {A : Around} {outer : List Env} {s : Shared} {H0 : Hp} {E : XK} (F : LF P w K mg base G C fi fdi) (hr : Room 40 (XL P w K mg base f c A outer s H0 E).A)
include F hr
theorem st7 : ∃ t, PS (XL P w K mg base f c A outer s H0 E) (forB 7) t ∧ ∀ (En : Ends) (n0 n1 n2 n3 n4 n5 n6 n7 n8 n9 n10 n11 n12 n13 n14 n15 : Option V) (H : Hp), TabsG G H →
    (∀ L vs H', Ext G H H' → H' L = some (.lst vs) → DpAll K H' vs (TBL.map sgD) → En.nx [n0, n1, n2, n3, n4, n5, n6, n7, n8, n9, n10, n11, some (.ref L), n13, n14, n15, none] H') → t En [n0, n1, n2, n3, n4, n5, n6, n7, n8, n9, n10, n11, n12, n13, n14, n15, none] H := by
  refine ⟨_, ps_set (i := 12) sc_law.nd rfl (Or.inl rfl) (pe_lst (pa_cons (pe_tup (pa_cons pe_str (pa_cons pe_int pa_nil))) (pa_cons (pe_tup (pa_cons pe_str (pa_cons pe_int pa_nil))) (pa_cons (pe_tup (pa_cons pe_str (pa_cons pe_int pa_nil))) (pa_cons (pe_tup (pa_cons pe_str (pa_cons pe_int pa_nil))) pa_nil))))), ?_⟩
  intro En n0 n1 n2 n3 n4 n5 n6 n7 n8 n9 n10 n11 n12 n13 n14 n15 H tG q
  have tu : ∀ {H'} (s : Str) (i : Int), TabsG G H' → Ed G K (tTup (tCons (tC (.str s)) (tCons (tC (.int i)) tNil))) [n0, n1, n2, n3, n4, n5, n6, n7, n8, n9, n10, n11, n12, n13, n14, n15, none] H' (.tuple [.str s, .int i]) := fun s i t => ed_tup t (ed_cons t ed_str (ed_one ed_int)) (by show 2 ≤ sizeLine; decide)
  refine (edl_lst tG (ed_cons tG (tu sA 0 tG) (ed_cons tG (tu sB 0 tG) (ed_cons tG (tu sF 2 tG) (ed_one (tu sG 1 tG))))) (by show 4 ≤ sizeLine; decide)) H (Ext.refl G H) _ fun L vs H2 x2 e r => ?_
  exact q L vs H2 x2 e r
theorem st8 : ∃ t, PS (XL P w K mg base f c A outer s H0 E) (forB 8) t ∧ ∀ (En : Ends) (dN dS L D : Addr) (vs : List V) (m : Num) (n0 n1 n3 n4 n5 n6 n7 n8 n9 n10 n11 n13 n14 : Option V) (H : Hp), TabsG G H → NumD H D dN m → SumsAt C H dS SG m → H L = some (.lst vs) → DpAll K H vs (TBL.map sgD) →
    (∀ H', Ext G H H' → En.nx [n0, n1, some (.ref dN), n3, n4, n5, n6, n7, n8, n9, n10, n11, some (.ref L), n13, n14, some (.ref dS), none] H') → t En [n0, n1, some (.ref dN), n3, n4, n5, n6, n7, n8, n9, n10, n11, some (.ref L), n13, n14, some (.ref dS), none] H := by
  refine ⟨_, ps_if (pt_cmpR op_ne (pe_cl F.gr (hr.mono (by omega)) rfl (pa_cons (pv 15) (pa_cons (pv 12) pa_nil))) (pe_and (pe_cmpR op_gt (pe_ix ix_list (pe_dget (hu_of hr) (pv 2) pe_str (fun _ _ => rfl)) pe_int (fun _ _ => rfl)) pe_int (nomark _)) (pe_and (pe_cmpR op_gt (pe_ix ix_list (pe_dget (hu_of hr) (pv 2) pe_str (fun _ _ => rfl)) pe_int (fun _ _ => rfl)) pe_int (nomark _)) (pe_one (pe_cmpR op_gt (pe_ix ix_list (pe_dget (hu_of hr) (pv 2) pe_str (fun _ _ => rfl)) pe_int (fun _ _ => rfl)) pe_int (nomark _))))) (nomark _)) (pss_one (ps_ret pe_bl)) pss_nil, ?_⟩
  intro En dN dS L D vs m n0 n1 n3 n4 n5 n6 n7 n8 n9 n10 n11 n13 n14 H tG nd sm eL rL q
  obtain ⟨⟨la, lb, lg, lf, e, ⟨e1, e2, e3, e4⟩, _⟩, _, _, _⟩ := nd
  refine s_if (G := G) (b := false) (fun H1 x1 Q qq => ?_) (fun z => by cases z) fun _ H' x => q H' x
  show tCall _ _ _ _ _ _ _
  refine tcall2 (v := .ref dS) (u := .ref L) (fun Q q => ⟨_, rfl, q⟩) (fun Q q => ⟨_, rfl, q⟩) ?_
  refine ⟨tG.ext x1, dS, L, vs, TBL, SG, m, rfl, sm.ext tG x1, SqL.of (x1.at tG eL (fun ps z => by cases z)), dpA_ext x1 tG rL, fun p hp => ?_, fun H2 x2 => ?_⟩
  · simp only [List.mem_cons, List.not_mem_nil, or_false] at hp
    rcases hp with h | h | h | h <;> subst h <;> exact ⟨rfl, by decide⟩
  have x12 := x1.trans x2
  have t2 := tG.ext x12
  have rdN : ∀ (s : Str) (l : Addr) (xs : List V) (i : Int) (j : Int), valV [((.inr sA : L2.Key), V.ref la), (.inr sB, .ref lb), (.inr sG, .ref lg), (.inr sF, .ref lf)] (.inr s) = some (.ref l) → H l = some (.lst xs) → 0 ≤ i → xs[i.toNat]? = some (.int j) →
      Ed G K (tOp (rIxL K) (tDGet (tVar 2) (tC (.str s))) (tC (.int i))) [n0, n1, some (.ref dN), n3, n4, n5, n6, n7, n8, n9, n10, n11, some (.ref L), n13, n14, some (.ref dS), none] H2 (.int j) := fun s l xs i j ev el hi hx H3 x3 Q qq => by
    have y := x12.trans x3
    refine ⟨.ref dN, rfl, dN, .ref l, rfl, ?_, l, xs, i, .int j, rfl, rfl, SqL.of (y.at tG el (fun ps z => by cases z)), atI_get hi hx, qq _ H3 (Ext.refl G H3) (.int _)⟩
    rw [← ev]
    exact DGet.k (k := .inr s) (y.at tG e (fun ps z => by cases z))
  have g1 := ed_op (K := K) t2 (rdN sG lg _ 1 (m sG).2.1 rfl e3 (by decide) rfl) (ed_int (i := 0)) rd_gtI
  have g2 := ed_op (K := K) t2 (rdN sF lf _ 1 (m sF).2.1 rfl e4 (by decide) rfl) (ed_int (i := 0)) rd_gtI
  have g3 := ed_op (K := K) t2 (rdN sF lf _ 2 (m sF).2.2 rfl e4 (by decide) rfl) (ed_int (i := 0)) rd_gtI
  refine (ed_andV g1 fun _ => ed_andV g2 fun _ => g3) H2 (Ext.refl G H2) _ fun v H3 x3 rv => ?_
  rw [dp_bl rv]
  refine ⟨rfl, _, rfl, ?_⟩
  rw [ne_f (by rw [tbl_all])]
  exact qq H3 (x2.trans x3)
end
end
end Rh
set_option Elab.async false
set_option linter.all false
set_option maxRecDepth 100000
set_option maxHeartbeats 1000000
/-! law: rules, fit, ends_by_sums -/
namespace Rh
open PySem PySem.Spec PyProof.Rows L2 L2.DX GxR Gx Dl LiI LamX
abbrev sx : Str := Str.ofString "x"
abbrev sy : Str := Str.ofString "y"
abbrev TL : T := .u sG (.b sF (.v sx) (.v sy))
abbrev TR : T := .b sF (.u sG (.v sx)) (.u sG (.v sy))
def SF : Sgn := fun s => if s = sG then some 1 else if s = sF then some 2 else none
def mF : Num := fun s => if s = sG then (0, 3, 0) else (1, 1, 1)
theorem SF_in {s : Str} {ar : Nat} (h : SF s = some ar) : s = sG ∧ ar = 1 ∨ s = sF ∧ ar = 2 := by
  unfold SF at h
  by_cases e1 : s = sG
  · rw [if_pos e1] at h
    cases h
    exact .inl ⟨e1, rfl⟩
  rw [if_neg e1] at h
  by_cases e2 : s = sF
  · rw [if_pos e2] at h
    cases h
    exact .inr ⟨e2, rfl⟩
  rw [if_neg e2] at h
  cases h
theorem SF_row : ∀ s ar, SF s = some ar → ar ≤ 2 ∧ rowOk mF (s, ar) = true := fun s ar h => by
  rcases SF_in h with ⟨e, e'⟩ | ⟨e, e'⟩ <;> subst e e' <;> exact ⟨by decide, by decide +kernel⟩
theorem TL_ok : TL.ok ∧ TR.ok := by
  have x : (T.v sx).ok := ⟨by decide +kernel, by decide +kernel, by decide +kernel⟩
  have y : (T.v sy).ok := ⟨by decide +kernel, by decide +kernel, by decide +kernel⟩
  have g : PyData.strOk sG = true := by decide +kernel
  have f : PyData.strOk sF = true := by decide +kernel
  exact ⟨⟨g, f, x, y⟩, ⟨f, ⟨g, x⟩, ⟨g, y⟩⟩⟩
theorem TL_sg : TL.sg SF ∧ TR.sg SF := ⟨⟨rfl, rfl, .inl rfl, .inr rfl⟩, ⟨rfl, ⟨rfl, .inl rfl⟩, ⟨rfl, .inr rfl⟩⟩⟩
theorem TL_TR (k : Ks) : lin mF TL k - lin mF TR k = if [] = k then 2 else 0 := by
  show ((if k = [] then (0 : Int) else 0) + 3 * ((if k = [] then (1 : Int) else 0) + 1 * lin mF (.v sx) k + 1 * lin mF (.v sy) k)) - ((if k = [] then (1 : Int) else 0) + 1 * ((if k = [] then (0 : Int) else 0) + 3 * lin mF (.v sx) k) + 1 * ((if k = [] then (0 : Int) else 0) + 3 * lin mF (.v sy) k)) = _
  by_cases e : k = []
  · rw [if_pos e, if_pos e, if_pos e.symm]
    omega
  · rw [if_neg e, if_neg e, if_neg fun z => e z.symm]
    omega
theorem own_of {R : List Row} {n : Int × Int × Int} {ar : Nat} (nd : (keysR R).Nodup) (tx : Txts R) (c0 : coef R [] = n.1) (c1 : coef R kx0 = n.2.1) (c2 : coef R kx1 = n.2.2) (ks : ∀ k ∈ keysR R, k ∈ ([[], kx0, kx1] : List Ks).take (ar + 1)) (bd : ∀ r ∈ R, 0 < r.2 ∧ r.2 ≤ 3) : Own (srtR (nzR R)) n ar :=
  ⟨ok_srt nd tx, by rw [coef_srt]; exact c0, by rw [coef_srt]; exact c1, by rw [coef_srt]; exact c2, fun k hk => ks k (keys_srt hk), fun r hr => bd r (List.mem_filter.mp ((srtR_perm _).mem_iff.mp hr)).1⟩
abbrev R1 : List Row := [(kx0, 3)]
abbrev R2' : List Row := [(kx0, 1), (kx1, 1), ([], 1)]
theorem tx_of {R : List Row} (h : ∀ k ∈ keysR R, k ∈ ([[], kx0, kx1] : List Ks)) : Txts R := fun r hr x hx => by
  have := h r.1 (List.mem_map_of_mem (f := (·.1)) hr)
  simp only [List.mem_cons, List.not_mem_nil, or_false] at this
  rcases this with e | e | e <;> rw [e] at hx
  · cases hx
  · exact ⟨_, List.mem_singleton.mp hx⟩
  · exact ⟨_, List.mem_singleton.mp hx⟩
theorem k1a : ∀ k ∈ ([kx0] : List Ks), k ∈ ([[], kx0, kx1] : List Ks) := fun k hk => by rw [List.mem_singleton.mp hk]; exact List.mem_cons_of_mem _ List.mem_cons_self
theorem k1b : ∀ k ∈ ([kx0] : List Ks), k ∈ ([[], kx0, kx1] : List Ks).take (1 + 1) := fun k hk => by rw [List.mem_singleton.mp hk]; exact List.mem_cons_of_mem _ List.mem_cons_self
theorem k2a : ∀ k ∈ ([kx0, kx1, []] : List Ks), k ∈ ([[], kx0, kx1] : List Ks) := fun k hk => by
  simp only [List.mem_cons, List.not_mem_nil, or_false] at hk ⊢
  rcases hk with e | e | e
  · exact .inr (.inl e)
  · exact .inr (.inr e)
  · exact .inl e
theorem k2b : ∀ k ∈ ([kx0, kx1, []] : List Ks), k ∈ ([[], kx0, kx1] : List Ks).take (2 + 1) := k2a
theorem own1 : Own (srtR (nzR R1)) (0, 3, 0) 1 := own_of (by decide +kernel) (tx_of k1a) (by decide +kernel) (by decide +kernel) (by decide +kernel) k1b (by decide +kernel)
theorem own2 : Own (srtR (nzR R2')) (1, 1, 1) 2 := own_of (by decide +kernel) (tx_of k2a) (by decide +kernel) (by decide +kernel) (by decide +kernel) k2b (by decide +kernel)
section
variable {G : List Addr} {K : PySem.W.Frag} {σ : L2.St} {H H' : Hp} {C d : Addr}
theorem fit_of {p1 p2 : Addr} (e : H d = some (.dK [((.inr sG : L2.Key), V.ref p1), (.inr sF, .ref p2)])) (s1 : SumAt C H p1 (srtR (nzR R1))) (s2 : SumAt C H p2 (srtR (nzR R2'))) : SumsAt C H d SF mF := by
  refine ⟨_, e, fun s ar h => ?_, fun s hs => ?_⟩
  · rcases SF_in h with ⟨e, e'⟩ | ⟨e, e'⟩ <;> subst e e'
    · exact ⟨p1, _, rfl, s1, own1⟩
    · exact ⟨p2, _, rfl, s2, own2⟩
  · have n1 : ¬ s = sG := fun z => by rw [z] at hs; cases hs
    have n2 : ¬ s = sF := fun z => by rw [z] at hs; cases hs
    have k : ∀ {x : Str}, ¬ s = x → ¬ ((.inr x : L2.Key) = .inr s) := fun h z => h (Sum.inr.inj z).symm
    rw [valV_neg (k n1), valV_neg (k n2)]
    rfl
theorem run_row {te : TE} {k : Ks} {n : Int} {Q : VK} (tG : TabsG G H) (hk : ∀ Q : VK, (∀ b H1, Ext G H H1 → H1 b = some (.tup (k.map kV)) → Q (.ref b) H1) → te σ H Q) (q : ∀ t H', Ext G H H' → PairT H' t (toV (k, n)) → Q (.ref t) H') : tTup (tCons te (tCons (tC (.int n)) tNil)) σ H Q := by
  show te σ H _
  refine hk _ fun b H1 y1 eb => ?_
  refine ⟨by show 2 ≤ sizeLine; decide, fun u hu => ?_⟩
  have y3 : Ext G H1 (upd H1 u (.tup [.ref b, .int n])) := Ext.new hu
  exact q u _ (y1.trans y3) ⟨b, upd_same, y3.at (tG.ext y1) eb (fun ps z => by cases z)⟩
theorem run_key1 {s : Str} {Q : VK} (q : ∀ b H1, Ext G H H1 → H1 b = some (.tup (([.inr s] : Ks).map kV)) → Q (.ref b) H1) : tTup (tCons (tC (.str s)) tNil) σ H Q := ⟨by show 1 ≤ sizeLine; decide, fun p hp => q p _ (Ext.new hp) upd_same⟩
theorem run_key0 {Q : VK} (q : ∀ b H1, Ext G H H1 → H1 b = some (.tup (([] : Ks).map kV)) → Q (.ref b) H1) : tTup tNil σ H Q := ⟨Nat.zero_le _, fun p hp => q p _ (Ext.new hp) upd_same⟩
theorem run_r3 {E2 : XK} {Q : VK} (tG : TabsG G H) (q : ∀ z H', Ext G H H' → SumAt C H' z (srtR (nzR R2')) → Q (.ref z) H') :
    tMake C (spSI G K C) [] E2 (tCons (tLst (tCons (tTup (tCons (tTup (tCons (tC (.str (Str.ofString "x0"))) tNil)) (tCons (tC (.int 1)) tNil))) (tCons (tTup (tCons (tTup (tCons (tC (.str (Str.ofString "x1"))) tNil)) (tCons (tC (.int 1)) tNil))) (tCons (tTup (tCons (tTup tNil) (tCons (tC (.int 1)) tNil))) tNil)))) tNil) σ H Q := by
  refine s_makeR (s_consQ ?_)
  show tCons _ _ _ _ _
  refine s_consQ ?_
  refine run_row (G := G) (k := kx0) tG (fun Q q => run_key1 q) fun u1 H1 y1 p1 => ?_
  have t1 := tG.ext y1
  show tCons _ _ _ _ _
  refine s_consQ ?_
  refine run_row (G := G) (k := kx1) t1 (fun Q q => run_key1 q) fun u2 H2 y2 p2 => ?_
  have t2 := t1.ext y2
  show tCons _ _ _ _ _
  refine s_consQ ?_
  refine run_row (G := G) (k := []) t2 (fun Q q => run_key0 q) fun u3 H3 y3 p3 => ?_
  have t3 := t2.ext y3
  refine ⟨by show 3 ≤ sizeLine; decide, fun l hl => ?_⟩
  have y4 : Ext G H3 (upd H3 l (.lst [.ref u1, .ref u2, .ref u3])) := Ext.new hl
  have el : upd H3 l (.lst [.ref u1, .ref u2, .ref u3]) l = some (.lst ([u1, u2, u3].map V.ref)) := upd_same
  have y34 := y3.trans y4
  have y24 := y2.trans y34
  have hr : RowsAt (upd H3 l (.lst [.ref u1, .ref u2, .ref u3])) [u1, u2, u3] R2' := .cons (pairT_mono (.of t1 y24) p1) (.cons (pairT_mono (.of t2 y34) p2) (.cons (pairT_mono (.of t3 y4) p3) .nil))
  generalize upd H3 l (.lst [.ref u1, .ref u2, .ref u3]) = H4 at y4 el hr y34 y24 ⊢
  show ∀ x dx, H4 x = none → H4 dx = none → dx ≠ x → spSI G K C (.ref x :: ([.ref l] ++ [])) (upd (upd H4 dx (.own x)) x (.ins C dx [])) (fun v H2 => v = .non ∧ Q (.ref x) H2) E2
  exact mk_core (t3.ext y4) el hr (by show 3 ≤ 1000; decide) (tx_of k2a) fun z H5 y5 s => q z H5 ((y1.trans y24).trans y5) s
end
section
variable {P : Program} {w : World} {K : PySem.W.Frag} {mg : Str → Option Value} {base : Heap} {G : List Addr} {f g C fi CT CB CN CL Pl : Addr} {fd fdi gd : FuncData}
section
variable {c : Addr} {A : Around} {outer : List Env} {s : Shared} {H0 : Hp} {E : XK} (F : LF P w K mg base G C fi fdi) (hr : Room 40 (XL P w K mg base f c A outer s H0 E).A)
include F hr
theorem st9 : ∃ t, PS (XL P w K mg base f c A outer s H0 E) (forB 9) t ∧ ∀ (En : Ends) (n0 n1 n2 n3 n4 n5 n6 n7 n8 n9 n10 n11 n12 n13 n14 n15 : Option V) (H : Hp), TabsG G H →
    (∀ L vs H', Ext G H H' → H' L = some (.lst vs) → DpAll K H' vs [encRl (TL, TR)] → En.nx [n0, n1, n2, n3, n4, n5, n6, n7, n8, n9, n10, n11, n12, some (.ref L), n14, n15, none] H') → t En [n0, n1, n2, n3, n4, n5, n6, n7, n8, n9, n10, n11, n12, n13, n14, n15, none] H := by
  refine ⟨_, ps_set (i := 13) sc_law.nd rfl (Or.inl rfl) (pe_lst (pa_cons (pe_tup (pa_cons (pe_tup (pa_cons pe_str (pa_cons (pe_tup (pa_cons (pe_tup (pa_cons pe_str (pa_cons (pe_tup (pa_cons pe_str (pa_cons pe_str pa_nil))) pa_nil))) pa_nil)) pa_nil))) (pa_cons (pe_tup (pa_cons pe_str (pa_cons (pe_tup (pa_cons (pe_tup (pa_cons pe_str (pa_cons (pe_tup (pa_cons pe_str pa_nil)) pa_nil))) (pa_cons (pe_tup (pa_cons pe_str (pa_cons (pe_tup (pa_cons pe_str pa_nil)) pa_nil))) pa_nil))) pa_nil))) pa_nil))) pa_nil)), ?_⟩
  intro En n0 n1 n2 n3 n4 n5 n6 n7 n8 n9 n10 n11 n12 n13 n14 n15 H tG q
  have e2 : ∀ {ta tb : TE} {d e : PyData}, Ed G K ta [n0, n1, n2, n3, n4, n5, n6, n7, n8, n9, n10, n11, n12, n13, n14, n15, none] H d → Ed G K tb [n0, n1, n2, n3, n4, n5, n6, n7, n8, n9, n10, n11, n12, n13, n14, n15, none] H e → Ed G K (tTup (tCons ta (tCons tb tNil))) [n0, n1, n2, n3, n4, n5, n6, n7, n8, n9, n10, n11, n12, n13, n14, n15, none] H (.tuple [d, e]) := fun a b => ed_tup tG (ed_cons tG a (ed_one b)) (by show 2 ≤ sizeLine; decide)
  have e1 : ∀ {ta : TE} {d : PyData}, Ed G K ta [n0, n1, n2, n3, n4, n5, n6, n7, n8, n9, n10, n11, n12, n13, n14, n15, none] H d → Ed G K (tTup (tCons ta tNil)) [n0, n1, n2, n3, n4, n5, n6, n7, n8, n9, n10, n11, n12, n13, n14, n15, none] H (.tuple [d]) := fun a => ed_tup tG (ed_one a) (by show 1 ≤ sizeLine; decide)
  refine (edl_lst tG (ed_one (e2 (e2 ed_str (e1 (e2 ed_str (e2 ed_str ed_str)))) (e2 ed_str (e2 (e2 ed_str (e1 ed_str)) (e2 ed_str (e1 ed_str)))))) (by show 1 ≤ sizeLine; decide)) H (Ext.refl G H) _ fun L vs H2 x2 e r => ?_
  exact q L vs H2 x2 e r
theorem st10 : ∃ t, PS (XL P w K mg base f c A outer s H0 E) (forB 10) t ∧ ∀ (En : Ends) (n0 n1 n2 n3 n4 n5 n6 n7 n8 n9 n10 n11 n12 n13 n14 n15 : Option V) (H : Hp), TabsG G H →
    (∀ d H', Ext G H H' → SumsAt C H' d SF mF → En.nx [n0, n1, n2, n3, n4, n5, n6, n7, n8, n9, n10, n11, n12, n13, some (.ref d), n15, none] H') → t En [n0, n1, n2, n3, n4, n5, n6, n7, n8, n9, n10, n11, n12, n13, n14, n15, none] H := by
  refine ⟨_, ps_set (i := 14) sc_law.nd rfl (Or.inl rfl) (pe_disp (pps_cons pe_str (pe_make F.M F.I (hr.mono (by omega)) (by rfl) F.mS F.b .nil pass0 (pa_cons (pe_lst (pa_cons (pe_tup (pa_cons (pe_tup (pa_cons pe_str pa_nil)) (pa_cons pe_int pa_nil))) pa_nil)) pa_nil)) (pps_cons pe_str (pe_make F.M F.I (hr.mono (by omega)) (by rfl) F.mS F.b .nil pass0 (pa_cons (pe_lst (pa_cons (pe_tup (pa_cons (pe_tup (pa_cons pe_str pa_nil)) (pa_cons pe_int pa_nil))) (pa_cons (pe_tup (pa_cons (pe_tup (pa_cons pe_str pa_nil)) (pa_cons pe_int pa_nil))) (pa_cons (pe_tup (pa_cons (pe_tup pa_nil) (pa_cons pe_int pa_nil))) pa_nil)))) pa_nil)) pps_nil)) (by rfl) (by rfl) (fun z => by cases z) (by decide)), ?_⟩
  intro En n0 n1 n2 n3 n4 n5 n6 n7 n8 n9 n10 n11 n12 n13 n14 n15 H tG q p hp
  have x0 : Ext G H (upd H p (.dK [])) := Ext.new hp
  have t0 := tG.ext x0
  have e0 : upd H p (.dK []) p = some (.dK []) := upd_same
  generalize upd H p (.dK []) = Ha at x0 t0 e0
  refine s_prs ?_
  refine run_one (K := K) (G := G) (C := C) (k := kx0) (n := 3) t0 (fun x hx => ⟨_, List.mem_singleton.mp hx⟩) (fun Q q => run_key1 q) (fun H1 y1 Q q => q H1 (Ext.refl G H1)) fun z1 H1 x1 s1 => ?_
  have t1 := t0.ext x1
  refine s_prs ?_
  refine run_r3 (K := K) (G := G) (C := C) t1 fun z2 H2 x2 s2 => ?_
  have p2 := (x1.trans x2).at t0 e0 (fun ps z => by cases z)
  refine s_prn ?_
  refine ⟨p2, [((.inr sG : L2.Key), V.ref z1), (.inr sF, .ref z2)], rfl, (by show 2 ≤ 15; decide), ?_⟩
  exact q p _ ((x0.trans (x1.trans x2)).mut hp p2 (fun ps z => by cases z)) (fit_of upd_same ((s1.ext t1 x2).updD p2) (s2.updD p2))
theorem st11 : ∃ t, PS (XL P w K mg base f c A outer s H0 E) (forB 11) t ∧ ∀ (En : Ends) (L d : Addr) (vs : List V) (n0 n1 n2 n3 n4 n5 n6 n7 n8 n9 n10 n11 n12 n15 : Option V) (H : Hp), TabsG G H → H L = some (.lst vs) → DpAll K H vs [encRl (TL, TR)] → SumsAt C H d SF mF →
    (∀ H', Ext G H H' → En.nx [n0, n1, n2, n3, n4, n5, n6, n7, n8, n9, n10, n11, n12, some (.ref L), some (.ref d), n15, none] H') → t En [n0, n1, n2, n3, n4, n5, n6, n7, n8, n9, n10, n11, n12, some (.ref L), some (.ref d), n15, none] H := by
  refine ⟨_, ps_if (PW.pt (pw_or (pt_not (pt_val (pe_cl F.eb (hr.mono (by omega)) rfl (pa_cons (pv 13) (pa_cons (pv 14) pa_nil))))) (pw_or1 (pt_val (pe_cl F.eb (hr.mono (by omega)) rfl (pa_cons (pe_lst (pa_cons (pe_tup (pa_cons (pe_ix ix_tup (pe_ix ix_list (pv 13) pe_int (fun _ _ => rfl)) pe_int (fun _ _ => rfl)) (pa_cons (pe_ix ix_tup (pe_ix ix_list (pv 13) pe_int (fun _ _ => rfl)) pe_int (fun _ _ => rfl)) pa_nil))) pa_nil)) (pa_cons (pv 14) pa_nil))))))) (pss_one (ps_ret pe_bl)) pss_nil, ?_⟩
  intro En L d vs n0 n1 n2 n3 n4 n5 n6 n7 n8 n9 n10 n11 n12 n15 H tG eL rL sm q
  obtain ⟨o1, o2⟩ := TL_ok
  obtain ⟨g1, g2⟩ := TL_sg
  refine s_if (G := G) (b := false) (edt_is (b := !true || false) (edt_or (b := !true) (edt_not (b := true) fun H1 x1 Q qq => ?_) fun _ H1 x1 Q qq => ?_) rfl) (fun z => by cases z) fun _ H' x => q H' x
  · show tCall _ _ _ _ _ _ _
    refine tcall2 (v := .ref L) (u := .ref d) (fun Q q => ⟨_, rfl, q⟩) (fun Q q => ⟨_, rfl, q⟩) ?_
    refine ⟨tG.ext x1, L, d, vs, (TL, TR), SF, mF, true, rfl, SqL.of (x1.at tG eL (fun ps z => by cases z)), dpA_ext x1 tG rL, sm.ext tG x1, o1, o2, by decide, by decide, g1, g2, SF_row, fun rows ok cf => gr_yes (c := 2) ok (by decide) fun k => by rw [cf]; exact TL_TR k, fun H2 x2 => ⟨true, rfl, qq H2 x2⟩⟩
  · show tCall _ _ _ _ _ _ _
    show tCons _ _ _ _ _
    refine s_consQ ?_
    have t1 := tG.ext x1
    have eL1 := x1.at tG eL (fun ps z => by cases z)
    have rL1 := dpA_ext x1 tG rL
    obtain ⟨v, rfl, rv⟩ := dpA_one rL1
    obtain ⟨u, ws, rfl, hs, hr2⟩ := dp_tup (show Dp K H1 v (.tuple [enc TL, enc TR]) from rv)
    obtain ⟨w1, w2, rfl, rw1, rw2⟩ := dpA_two hr2
    refine ⟨.ref L, rfl, L, [.ref u], 0, .ref u, rfl, rfl, SqL.of eL1, atI_get (Int.le_refl 0) rfl, u, [w1, w2], 1, w2, rfl, rfl, hs, atI_get (by decide) rfl, ?_⟩
    refine ⟨.ref L, rfl, L, [.ref u], 0, .ref u, rfl, rfl, SqL.of eL1, atI_get (Int.le_refl 0) rfl, u, [w1, w2], 0, w1, rfl, rfl, hs, atI_get (by decide) rfl, ?_⟩
    refine ⟨by show 2 ≤ sizeLine; decide, fun u2 hu2 => ?_⟩
    have y2 : Ext G H1 (upd H1 u2 (.tup [w2, w1])) := Ext.new hu2
    have e2 : upd H1 u2 (.tup [w2, w1]) u2 = some (.tup [w2, w1]) := upd_same
    generalize upd H1 u2 (.tup [w2, w1]) = H2 at y2 e2 ⊢
    have t2 := t1.ext y2
    refine ⟨by show 1 ≤ sizeLine; decide, fun L2 hL2 => ?_⟩
    have y3 : Ext G H2 (upd H2 L2 (.lst [.ref u2])) := Ext.new hL2
    have e3 : upd H2 L2 (.lst [.ref u2]) L2 = some (.lst [.ref u2]) := upd_same
    generalize upd H2 L2 (.lst [.ref u2]) = H3 at y3 e3 ⊢
    have y23 := y2.trans y3
    refine ⟨.ref d, rfl, ?_⟩
    dsimp only [tNil]
    show spEb G K C ([.ref L2, .ref d] ++ []) H3 _ _
    rw [List.append_nil]
    refine ⟨t2.ext y3, L2, d, [.ref u2], (TR, TL), SF, mF, false, rfl, SqL.of e3, .cons (.tup (.inl (.inl (y3.at t2 e2 (fun ps z => by cases z)))) (.cons (dp_ext y23 t1 rw2) (.cons (dp_ext y23 t1 rw1) .nil))) .nil, sm.ext tG (x1.trans y23), o2, o1, by decide, by decide, g2, g1, SF_row, fun rows ok cf => gr_no (by rw [cf]; decide +kernel), fun H4 x4 => ⟨false, rfl, qq H4 (y23.trans x4)⟩⟩
end
end
end Rh
set_option Elab.async false
set_option linter.all false
set_option maxRecDepth 100000
set_option maxHeartbeats 1000000
/-! law: the last statement, a round, the law -/
namespace Rh
open PySem PySem.Spec PyProof.Rows L2 L2.DX GxR Gx Dl LiI LamX
theorem lamExt {G : List Addr} {P : Addr} {q : Str} {H H1 : Hp} (m : LamMade P q H H1) : Ext (P :: G) H H1 := ⟨fun a n o e => m.keep a o (fun z => n (by rw [z]; exact List.mem_cons_self)) e, fun Q hQ t => by
  by_cases h : Q = P
  · obtain ⟨ps, e, tr, _⟩ := m.tab
    rw [h]
    exact ⟨ps, e, tr⟩
  · obtain ⟨ps, e, tr⟩ := t
    exact ⟨ps, m.keep Q _ h e, tr⟩⟩
theorem tabsP {G : List Addr} {P : Addr} {q : Str} {H : Hp} (tG : TabsG G H) (tS : LamX.TabS H P q) : TabsG (P :: G) H := fun Q hQ => by
  rcases List.mem_cons.mp hQ with z | z
  · obtain ⟨ps, e, tr, _⟩ := tS
    rw [z]
    exact ⟨ps, e, tr⟩
  · exact tG Q z
theorem tabs_made {G : List Addr} {P : Addr} {q : Str} {H H1 : Hp} (hP : P ∉ G) (tG : TabsG G H) (m : LamMade P q H H1) : TabsG G H1 := fun Q hQ => by
  obtain ⟨ps, e, tr⟩ := tG Q hQ
  exact ⟨ps, m.keep Q _ (fun z => hP (z ▸ hQ)) e, tr⟩
theorem tabS_ext {G : List Addr} {P : Addr} {q : Str} {H H1 : Hp} (hP : P ∉ G) (tG : TabsG G H) (x : Ext G H H1) (t : LamX.TabS H P q) : LamX.TabS H1 P q := by
  obtain ⟨ps, e, tr, k⟩ := t
  refine ⟨ps, x.keep P hP _ e, tr, fun p cv h => ?_⟩
  obtain ⟨c, ec, kc⟩ := k p cv h
  exact ⟨c, ec, x.keep c (notTab tG kc LamX.codeO_ne) _ kc⟩
theorem tabS_extD {G : List Addr} {P D : Addr} {q : Str} {H H1 : Hp} {l : List V} (hP : P ∉ G) (tG : TabsG G H) (eD : H D = some (.lst l)) (x : Ext (D :: G) H H1) (t : LamX.TabS H P q) : LamX.TabS H1 P q := by
  obtain ⟨ps, e, tr, k⟩ := t
  refine ⟨ps, x.keep P (fun z => ?_) _ e, tr, fun p cv h => ?_⟩
  · rcases List.mem_cons.mp z with z | z
    · rw [z, eD] at e; cases e
    · exact hP z
  · obtain ⟨c, ec, kc⟩ := k p cv h
    refine ⟨c, ec, at_D x tG kc LamX.codeO_ne (fun z => ?_)⟩
    rw [z, eD] at kc
    cases kc
section
variable {P : Program} {w : World} {K : PySem.W.Frag} {mg : Str → Option Value} {base : Heap} {G : List Addr} {f g C fi CT CB CN CL Pl : Addr} {fd fdi gd : FuncData}
section
variable {c : Addr} {A : Around} {outer : List Env} {s : Shared} {H0 : Hp} {E : XK} (hr : Room 40 (XL P w K mg base f c A outer s H0 E).A)
include hr
theorem stT (TB : LamX.TabB base mg c Pl) (hPl : Pl ∉ G) (D : DefF K mg base G "_law_told" s_told_law ["what"] g gd) (cx : ClX P w K mg base 4 "of_term" (spOfE G K CB)) (mT : mg "BadTerm" = some (.ref CT)) (mB : mg "BadRule" = some (.ref CB)) (mN : mg "NoWay" = some (.ref CN)) (mL : mg "TooLarge" = some (.ref CL))
    (e1 : PySem.W.exmOne K (.ref CB) (.ref CT) = some false) (e2 : PySem.W.exmOne K (.ref CB) (.ref CB) = some true) : ∃ t, PS (XL P w K mg base f c A outer s H0 E) (forB 12) t ∧
    ∀ (En : Ends) (σ : L2.St) (H : Hp) (dS : Addr) (m : Num), TabsG G H → LamX.TabS H Pl ((XL P w K mg base f c A outer s H0 E).env.qual ++ "<lambda>") → σ[15]? = some (some (.ref dS)) → SumsAt C H dS SG m →
      (∀ H1 H2, LamMade Pl ((XL P w K mg base f c A outer s H0 E).env.qual ++ "<lambda>") H H1 → Ext G H1 H2 → En.nx σ H2) → t En σ H := by
  obtain ⟨t, h1, h2⟩ := b12 hr TB D cx mT mB mN mL e1 e2
  refine ⟨t, h1, fun En σ H dS m tG tS h15 sm q => ?_⟩
  rw [h2]
  refine ⟨tS, fun H1 made => ?_⟩
  have t1 := tabs_made hPl tG made
  have sm1 := sm.ext (tabsP tG tS) (lamExt (G := G) made)
  obtain ⟨kvs, ed, _, hn⟩ := sm1
  dsimp only [TTrule, tCall]
  refine s_consQ ?_
  have ek : Ed G K (tTup (tCons (tC (.str (Str.ofString "k"))) (tCons (tTup tNil) tNil))) σ H1 (enc (.c (Str.ofString "k"))) := ed_tup t1 (ed_cons t1 ed_str (ed_one (ed_tup t1 ed_nil (by show 0 ≤ sizeLine; decide)))) (by show 2 ≤ sizeLine; decide)
  refine ek H1 (Ext.refl G H1) _ fun v H2 x2 rv => ?_
  refine ⟨.ref dS, h15, ?_⟩
  dsimp only [tNil]
  show spOfE G K CB ([v, .ref dS] ++ []) H2 _ _
  rw [List.append_nil]
  refine ⟨t1.ext x2, v, dS, Str.ofString "k", kvs, rfl, rv, by decide +kernel, x2.at t1 ed (fun ps z => by cases z), hn _ (by decide +kernel), fun H3 x3 => ⟨rfl, ?_⟩⟩
  refine ⟨rfl, ?_⟩
  refine ⟨false, by simp, ?_⟩
  exact q H1 H3 made (x2.trans x3)
end
end
section
variable {P : Program} {w : World} {K : PySem.W.Frag} {mg : Str → Option Value} {base : Heap} {G : List Addr} {f g C fi CT CB CN CL Pl : Addr} {fd fdi gd : FuncData}
section
variable {c : Addr} {A : Around} {outer : List Env} {s : Shared} {H0 : Hp} {E : XK} (F : LF P w K mg base G C fi fdi) (hr : Room 40 (XL P w K mg base f c A outer s H0 E).A)
include F hr
theorem round (TB : LamX.TabB base mg c Pl) (hPl : Pl ∉ G) (Dt : DefF K mg base G "_law_told" s_told_law ["what"] g gd) (cx : ClX P w K mg base 4 "of_term" (spOfE G K CB)) (mT : mg "BadTerm" = some (.ref CT)) (mB : mg "BadRule" = some (.ref CB)) (mN : mg "NoWay" = some (.ref CN)) (mL : mg "TooLarge" = some (.ref CL))
    (e1 : PySem.W.exmOne K (.ref CB) (.ref CT) = some false) (e2 : PySem.W.exmOne K (.ref CB) (.ref CB) = some true) :
    ∃ t, PSs (XL P w K mg base f c A outer s H0 E) [forB 0, forB 1, forB 2, forB 3, forB 4, forB 5, forB 6, forB 7, forB 8, forB 9, forB 10, forB 11, forB 12] t ∧
    ∀ (En : Ends) (v0 : V) (D : Addr) (n2 n3 n4 n5 n6 n7 n8 n9 n10 n11 n12 n13 n14 n15 : Option V) (H : Hp), TabsG G H → LamX.TabS H Pl ((XL P w K mg base f c A outer s H0 E).env.qual ++ "<lambda>") → DiceAt 1100 H D →
      (∀ (x2 x3 x4 x5 x6 x7 x8 x9 x10 x11 x12 x13 x14 x15 : Option V) H1 H2 H3, Ext (D :: G) H H1 → LamMade Pl ((XL P w K mg base f c A outer s H0 E).env.qual ++ "<lambda>") H1 H2 → Ext G H2 H3 → En.nx [some v0, some (.ref D), x2, x3, x4, x5, x6, x7, x8, x9, x10, x11, x12, x13, x14, x15, none] H3) → t En [some v0, some (.ref D), n2, n3, n4, n5, n6, n7, n8, n9, n10, n11, n12, n13, n14, n15, none] H := by
  obtain ⟨t0, h0, r0⟩ := st0 F hr
  obtain ⟨t1, t2, h1, h2, r12⟩ := st12 F hr
  obtain ⟨t3, h3, r3⟩ := st3 F hr
  obtain ⟨t4, h4, r4⟩ := st4 F hr
  obtain ⟨t5, h5, r5⟩ := st5 F hr
  obtain ⟨t6, h6, r6⟩ := st6 F hr
  obtain ⟨t7, h7, r7⟩ := st7 F hr
  obtain ⟨t8, h8, r8⟩ := st8 F hr
  obtain ⟨t9, h9, r9⟩ := st9 F hr
  obtain ⟨t10, h10, r10⟩ := st10 F hr
  obtain ⟨t11, h11, r11⟩ := st11 F hr
  obtain ⟨t12, h12, r12'⟩ := stT (C := C) hr TB hPl Dt cx mT mB mN mL e1 e2
  refine ⟨_, pss_cons h0 (pss_cons h1 (pss_cons h2 (pss_cons h3 (pss_cons h4 (pss_cons h5 (pss_cons h6 (pss_cons h7 (pss_cons h8 (pss_cons h9 (pss_cons h10 (pss_cons h11 (pss_one h12)))))))))))), ?_⟩
  intro En v0 D n2 n3 n4 n5 n6 n7 n8 n9 n10 n11 n12 n13 n14 n15 H tG tS hD q
  obtain ⟨l0, eD0⟩ := hD.new
  refine s_seq (r0 _ _ _ _ _ _ _ _ _ _ _ _ _ _ _ _ H D 1100 tG hD (by decide) fun dN m Ha xa da nd => ?_)
  have ta := tG.wide xa
  have tSa := tabS_extD hPl tG eD0 xa tS
  obtain ⟨la, eDa⟩ := da.new
  dsimp only
  refine r12 _ _ _ dN D m _ _ _ _ _ _ _ _ _ _ _ _ _ Ha ta nd fun dS x3 Hb xb sm => ?_
  have tb := ta.ext xb
  have xab := xa.trans xb.wide
  have tSb := tabS_ext hPl ta xb tSa
  have db := da.ext ta xb
  obtain ⟨lb, eDb⟩ := db.new
  have ndb := nd.extD ta xb.wide
  refine s_seq (r3 _ _ D (1100 + 7) _ _ _ _ _ _ _ _ _ _ _ _ _ _ Hb tb db (by decide) fun va vb a b Hc xc dc ra rb na nb da' db' => ?_)
  have tc := tb.wide xc
  have tSc := tabS_extD hPl tb eDb xc tSb
  obtain ⟨lc, eDc⟩ := dc.new
  have smc := sm.extD tb xc eDb
  have ndc := ndb.extD tb xc
  have xac := xab.trans xc
  dsimp only
  refine s_seq (r4 _ _ va vb dS a b m _ _ _ _ _ _ _ _ _ _ _ _ Hc tc smc ra rb na nb da' db' fun z1 z2 r1 r2 Hd xd s1 s2 l1 l2 => ?_)
  have td := tc.ext xd
  have tSd := tabS_ext hPl tc xd tSc
  have dd := dc.ext tc xd
  obtain ⟨ld, eDd⟩ := dd.new
  have smd := smc.ext tc xd
  have ndd := ndc.extD tc xd.wide
  have xad := xac.trans xd.wide
  dsimp only
  refine s_seq (r5 _ _ va vb dN D z1 z2 a b m r1 r2 (1100 + 7 + 44) _ _ _ _ _ _ _ _ _ Hd td ndd dd (by decide) (dp_ext xd tc ra) (dp_ext xd tc rb) s1 s2 l1 l2 na nb da' db' fun x8 x9 x10 x11 He xe de => ?_)
  have te := td.wide xe
  have tSe := tabS_extD hPl td eDd xe tSd
  have sme := smd.extD td xe eDd
  have nde := ndd.extD td xe
  have s1e := s1.extD td xe eDd
  have xae := xad.trans xe
  dsimp only
  refine s_seq (r6 _ z1 r1 _ _ _ _ _ _ _ _ _ _ _ _ _ _ _ He te s1e l1.ok (l1.len (drawn_sg da')) fun Hf xf => ?_)
  have tf := te.ext xf
  dsimp only
  refine s_seq (r7 _ _ _ _ _ _ _ _ _ _ _ _ _ _ _ _ _ Hf tf fun L vs Hg xg eL rL => ?_)
  have tg := tf.ext xg
  have xeg := xf.trans xg
  have smg := sme.ext te xeg
  have ndg := nde.extD te xeg.wide
  dsimp only
  refine s_seq (r8 _ dN dS L D vs m _ _ _ _ _ _ _ _ _ _ _ _ _ Hg tg ndg smg eL rL fun Hh xh => ?_)
  have th := tg.ext xh
  dsimp only
  refine s_seq (r9 _ _ _ _ _ _ _ _ _ _ _ _ _ _ _ _ _ Hh th fun L2 vs2 Hi xi eL2 rL2 => ?_)
  have ti := th.ext xi
  dsimp only
  refine s_seq (r10 _ _ _ _ _ _ _ _ _ _ _ _ _ _ _ _ _ Hi ti fun dF Hj xj fit => ?_)
  have tj := ti.ext xj
  dsimp only
  refine s_seq (r11 _ L2 dF vs2 _ _ _ _ _ _ _ _ _ _ _ _ _ _ Hj tj (xj.at ti eL2 (fun ps z => by cases z)) (dpA_ext xj ti rL2) fit fun Hk xk => ?_)
  have xgk := ((xh.trans xi).trans xj).trans xk
  have xek := xeg.trans xgk
  have tk := te.ext xek
  dsimp only
  refine r12' _ _ Hk dS m tk (tabS_ext hPl te xek tSe) rfl (smg.ext tg xgk) fun H1 H2 made x2 => ?_
  exact q _ _ _ _ _ _ _ _ _ _ _ _ _ _ Hk H1 H2 (xae.trans xek.wide) made x2
end
end
end Rh
set_option Elab.async false
set_option linter.all false
set_option maxRecDepth 100000
set_option maxHeartbeats 1000000
/-! the law -/
namespace Rh
open PySem PySem.Spec PyProof.Rows L2 L2.DX GxR Gx Dl LiI LamX
/-- what law promises -/
def spLaw (G : List Addr) (K : PySem.W.Frag) (Pl : Addr) : Sp := fun vs H Q _ => ∃ (a : Addr) (ns : List Int), vs = [.ref a] ∧ SqL K H a (ns.map V.int) ∧ ns.length ≤ 63 ∧ (∀ z ∈ ns, z.natAbs.log2 < 2000000) ∧ TabsG G H ∧ H Pl = some (.tbl #[]) ∧ ∀ H', Q (.bl true) H'
theorem drop_get {α : Type} {l : List α} {i : Nat} {x : α} (h : l[i]? = some x) : l.drop i = x :: l.drop (i + 1) := by
  obtain ⟨h1, h2⟩ := List.getElem?_eq_some_iff.mp h
  rw [List.drop_eq_getElem_cons h1, h2]
section
variable {P : Program} {w : World} {K : PySem.W.Frag} {mg : Str → Option Value} {base : Heap} {G : List Addr} {f g C fi CT CB CN CL Pl c : Addr} {fd fdi gd : FuncData}
theorem ok_law (FL : FunC K "law" "law" s_law f fd c) (F : LF P w K mg base G C fi fdi) (TB : LamX.TabB base mg c Pl) (hPl : Pl ∉ G) (Dt : DefF K mg base G "_law_told" s_told_law ["what"] g gd) (cx : ClX P w K mg base 4 "of_term" (spOfE G K CB)) (mT : mg "BadTerm" = some (.ref CT)) (mB : mg "BadRule" = some (.ref CB)) (mN : mg "NoWay" = some (.ref CN)) (mL : mg "TooLarge" = some (.ref CL))
    (e1 : PySem.W.exmOne K (.ref CB) (.ref CT) = some false) (e2 : PySem.W.exmOne K (.ref CB) (.ref CB) = some true) : FnOk P w K mg base CX0 41 f fd ["script"] (spLaw G K Pl) := by
  obtain ⟨oc, od, kV, doc, pm, an, ct, osl, rfl, lk, hcd⟩ := FL.ex
  refine fn_of (k := 40) lk hcd sc_law (fun vs H Q E ⟨_, _, h, _⟩ => by rw [h]; rfl) fun A outer s H vs Q E hr hsp => ?_
  obtain ⟨a, ns, rfl, hS, h63, hb, tG, hP, q⟩ := hsp
  obtain ⟨t, ht, rt⟩ := round (A := A) (outer := outer) (s := s) (H0 := H) (E := E) (f := f) (c := c) F hr TB hPl Dt cx mT mB mN mL e1 e2
  refine ⟨_, PSs.nox (pss_cons (ps_for PassesOwn.never rfl (pi_list (pe_cl F.ro (hr.mono (by omega)) rfl (pa_cons (pv 0) (pa_cons pe_int pa_nil)))) (pg_name (i := 1) sc_law.nd rfl (Or.inl rfl)) ht) (pss_one (ps_ret pe_bl))), ?_⟩
  generalize eq : ((XL P w K mg base f c A outer s H E).env.qual ++ "<lambda>") = qn at *
  refine s_seq (s_forL ?_)
  refine tcall2 (v := .ref a) (u := .int 3) (fun Q q => ⟨_, rfl, q⟩) (fun Q q => q) ?_
  refine ⟨tG, a, ns, rfl, hS, h63, hb, fun L ps H3 x3 eL nd hd => ?_⟩
  have t3 := tG.ext x3
  have e3 : H3 Pl = some (.tbl #[]) := x3.keep Pl hPl _ hP
  refine ⟨L, rfl, ⟨_, SqL.of eL⟩, for_list (K := K) (a := L) (xs := ps.map V.ref) (fun i σ' H' => ∃ n1 n2 n3 n4 n5 n6 n7 n8 n9 n10 n11 n12 n13 n14 n15, σ' = [some (.ref a), n1, n2, n3, n4, n5, n6, n7, n8, n9, n10, n11, n12, n13, n14, n15, none] ∧ TabsG G H' ∧ LamX.TabS H' Pl qn ∧ H' L = some (.lst (ps.map V.ref)) ∧ ∀ p ∈ ps.drop i, DiceAt 1100 H' p) ?_ (fun i σ' H' _ z => ?_) ?_ ?_⟩
  · refine ⟨none, none, none, none, none, none, none, none, none, none, none, none, none, none, none, rfl, t3, ⟨#[], e3, ?_, fun p cv h => ?_⟩, eL, fun p hp => hd p hp⟩
    · trivial
    · cases h
  · obtain ⟨_, _, _, _, _, _, _, _, _, _, _, _, _, _, _, _, _, _, e, _⟩ := z
    exact SqL.of e
  · rintro i v σ' H' hv ⟨n1, n2, n3, n4, n5, n6, n7, n8, n9, n10, n11, n12, n13, n14, n15, rfl, tH, tS, eL', hd'⟩
    rw [List.getElem?_map] at hv
    obtain ⟨D, hD, rfl⟩ := Option.map_eq_some_iff.mp hv
    have dr := drop_get hD
    have dD : DiceAt 1100 H' D := hd' D (by rw [dr]; exact List.mem_cons_self)
    have nD : D ∉ ps.drop (i + 1) := by
      have := nd.sublist (List.drop_sublist i ps)
      rw [dr] at this
      exact (List.nodup_cons.mp this).1
    obtain ⟨xa, xb, xc, eD, bD⟩ := id dD
    have hLD : L ≠ D := fun e => by
      rw [e, eD] at eL'
      match ps, hD, eL' with
      | [], hD, _ => cases hD
      | p :: r, _, eL' => cases eL'
    dsimp only [gName]
    refine rt _ (.ref a) D n2 n3 n4 n5 n6 n7 n8 n9 n10 n11 n12 n13 n14 n15 H' tH tS dD fun x2 x3 x4 x5 x6 x7 x8 x9 x10 x11 x12 x13 x14 x15 H4 H5 H6 y1 mk y2 => ?_
    have t4 := tH.wide y1
    have tS4 := tabS_extD hPl tH eD y1 tS
    have t5 := tabs_made hPl t4 mk
    have kp : ∀ b l, H' b = some (.lst l) → b ≠ D → H6 b = some (.lst l) := fun b l e n => by
      have nG : b ∉ G := notTab tH e (fun ps z => by cases z)
      refine y2.keep b nG _ (mk.keep b _ (fun y => ?_) (at_D y1 tH e (fun ps z => by cases z) n))
      obtain ⟨ps, eP, _⟩ := tS
      rw [y, eP] at e
      cases e
    refine ⟨_, x2, x3, x4, x5, x6, x7, x8, x9, x10, x11, x12, x13, x14, x15, rfl, t5.ext y2, tabS_ext hPl t5 y2 mk.tab, kp L _ eL' hLD, fun p hp => ?_⟩
    obtain ⟨x, y, u, e, b⟩ := hd' p (by rw [dr]; exact List.mem_cons_of_mem _ hp)
    exact ⟨x, y, u, kp p _ e (fun e => nD (e ▸ hp)), b⟩
  · rintro σ' H' ⟨_, _, _, _, _, _, _, _, _, _, _, _, _, _, _, rfl, _⟩
    exact q H'
end
end Rh
set_option Elab.async false
set_option linter.all false
set_option maxRecDepth 100000
set_option maxHeartbeats 2000000
/-! the end of a law whose defs hold tables of code objects -/
namespace Dl
open PySem PySem.Spec PyProof.Rows L2 GxR Gx LamX
abbrev tab0 : Obj := { cls := .none, data := .fields #[] }
def TabsOf (q : Program) (mg : Str → Option Value) (h : Heap) : Prop := ∀ d ∈ recsOf q, ∃ a o fd c P, mg d.name = some (.ref a) ∧ h.get? a = some o ∧ o.data = .func fd ∧ fd.code = .ref c ∧ h.IsCode c P #[] ∧ h.TableAt c P #[]
theorem walk_tabs {l : PySem.W.OpenLaw} {n k : Nat} {q : Program} {loose : List Str} {XP : (Str → Option Value) → Heap → Prop} {YP : World → Heap → Prop} {d : DefRec} {K : Params → PySem.W.Frag} {CX : World → CXT} {x : Str}
    (hn : l.most = some n) (hn2 : n ≤ sizeLine) (hdf : d.params.defaults = []) (hr : Room k callerA) (hY : ∀ (w : World) (h : Heap), YP w h → (K w.params).In h)
    (F : ∀ (w : World) (mg : Str → Option Value) (fa : Addr) (h : Heap), (K w.params).In h → h.Ns mainGlobals mg → mg d.name = some (.ref fa) → TabsOf q mg h → LawAtS l w (K w.params) (CX w) k n x mg fa h)
    (hCX : ∀ (w : World) (H : Hp) (s : Shared) (e : Value) (s' : Shared), CX w [] H s (fun _ _ _ => False) e s' → False) :
    PySem.W.WalkO q loose XP YP l.row.toRowW d [] (fun f vs => PySem.call f vs) := by
  refine Att.attach_callB hn hdf fun w s₀ s₁ mg mb fa o pm cd doc a vs ns G Y ho hd hcd hmg hobj hints hlen hbits hg => ?_
  have KX := hY w _ Y
  obtain ⟨fd, cs, sp, hT, nT, C, hb, hsp, hF⟩ := F w mg fa _ KX G.T.g hmg G.T.tab
  exact law_callTs KX G.T.g G.T.b G.T.builtins G.T.nolimit hg hT nT C G.T.bmain hobj hints (Nat.le_trans hlen hn2) hr hF hb (fun H hH hS => hsp H a ns hlen hbits hH hS) fun H e s' => hCX w H s₁ e s'
/-- no table is among what is written out -/
def noTabs (K : PySem.W.Frag) : Bool := K.all fun p => match p.2.data with
  | .fields vs => vs.size != 0
  | _ => true
theorem noTab {K : PySem.W.Frag} {h : Heap} {P : Addr} (X : K.In h) (n : noTabs K = true) (t : h.get? P = some tab0) : K.lookup P = none := by
  cases e : K.lookup P with
  | none => rfl
  | some o =>
    have e2 := X P o e
    rw [t] at e2
    cases e2
    have mem : ∀ (l : List (Addr × Obj)) {o : Obj}, l.lookup P = some o → (P, o) ∈ l := fun l => by
      induction l with
      | nil => intro o z; cases z
      | cons p r ih =>
        intro o z
        rw [List.lookup_cons] at z
        cases h : (P == p.1) with
        | true =>
          rw [h] at z
          cases z
          rw [beq_iff_eq.mp h]
          exact List.mem_cons_self
        | false =>
          rw [h] at z
          exact List.mem_cons_of_mem _ (ih z)
    have m : (P, tab0) ∈ K := mem K e
    have z := List.all_eq_true.mp n _ m
    simp at z
structure DefT (K : PySem.W.Frag) (mg : Str → Option Value) (h : Heap) (x : Str) (st : Stmt) (ps : List Str) (f : Addr) (fd : FuncData) (c P : Addr) : Prop where
  F : FunC K x x st f fd c
  b : Binds K fd ps []
  m : mg x = some (.ref f)
  C : PySem.W.CodeHd h c P
  T : h.get? P = some tab0
theorem defT_mk {q : Program} {K : PySem.W.Frag} {mg : Str → Option Value} {h : Heap} {x : Str} {st : Stmt} {ps : List Str} {f c P : Addr} {oc kV dc pm ct e : Value} {od an dd : Option Addr} {sl sl2 : Array (Option Value)} {vs : Array Value}
    (X : K.In h) (G : h.Ns mainGlobals mg) (T : TabsOf q mg h) (hr : ((recsOf q).any fun e => e.name == x) = true)
    (a : PySem.W.nsIn K mainGlobals x = some (some (.ref f))) (l : K.lookup f = some ⟨oc, od, .func (PySem.W.fnOf x x (defArgs st) (defBody st) (defScope st) .none kV dc pm an (.ref c) ct), sl⟩)
    (cc : PySem.W.codeIn K (.ref c) x = true) (k : PySem.W.keepIn K (.ref f) = true) (t : K.lookup c = some ⟨e, dd, .fields vs, sl2⟩) (p : vs[11]? = some (.ref P))
    (hb : ∀ us : List Value, us.length = ps.length → bindArgs (PySem.W.fnOf x x (defArgs st) (defBody st) (defScope st) .none kV dc pm an (.ref c) ct) ⟨us, []⟩ = pure (ps.zip us)) :
    DefT K mg h x st ps f (PySem.W.fnOf x x (defArgs st) (defBody st) (defScope st) .none kV dc pm an (.ref c) ct) c P := by
  have m := PySem.W.mg_of X G a
  obtain ⟨dL, hm, hn1⟩ := List.any_eq_true.mp hr
  have hn2 : dL.name = x := beq_iff_eq.mp hn1
  obtain ⟨a', o', fd', c', P', h1, h2, h3, h4, h5, h6⟩ := T dL hm
  rw [hn2, m] at h1
  cases h1
  have g1 := X _ _ l
  rw [g1] at h2
  cases h2
  cases h3
  cases h4
  have hd := PySem.W.CodeHd.of h5 h6
  obtain ⟨⟨oc', vc, e1, _, e3, e4⟩, hP⟩ := h6
  have g2 := X _ _ t
  rw [g2] at e1
  cases e1
  cases e3
  rw [p] at e4
  cases e4
  exact ⟨⟨⟨_, _, _, _, _, _, _, _, rfl, l, cc⟩, k⟩, .all hb, m, hd, hP⟩
theorem DefT.f {K : PySem.W.Frag} {mg : Str → Option Value} {h base : Heap} {x : Str} {st : Stmt} {ps : List Str} {f : Addr} {fd : FuncData} {c P : Addr} {G : List Addr} (D : DefT K mg h x st ps f fd c P) {cs : List (Addr × Addr)} (TB : ∀ p ∈ cs, LamX.TabB base mg p.1 p.2) (hc : (c, P) ∈ cs) (hG : P ∈ G) : DefF K mg base G x st ps f fd := by
  have t := TB _ hc
  exact ⟨⟨c, P, D.F, ⟨t.code, t.bm, t.gP⟩, hG⟩, D.b, D.m⟩
/-- is an error of the class at S what «except C» names -/
theorem exm_mk {K : PySem.W.Frag} {S C : Addr} {b : Bool} (h1 : PySem.W.subIn K (.ref C) (.type "BaseException") = some true) (h2 : PySem.W.isClsIn K C = true) (h3 : PySem.W.typeIn K (.ref C) = some (.type "type")) (h4 : PySem.W.subIn K (.ref S) (.ref C) = some b) :
    PySem.W.exmOne K (.ref S) (.ref C) = some b := by
  have e1 : (PySem.W.subIn K (.ref C) (.type "BaseException") == some true) = true := by rw [h1] <;> rfl
  have e2 : ((PySem.W.clsIn K C).isSome && PySem.W.typeIn K (.ref C) == some (.type "type")) = true := by
    have h2' : (PySem.W.clsIn K C).isSome = true := h2
    rw [h2', h3] <;> rfl
  show (if (PySem.W.subIn K (.ref C) (.type "BaseException") == some true) = true then (if ((PySem.W.clsIn K C).isSome && PySem.W.typeIn K (.ref C) == some (.type "type")) = true then PySem.W.subIn K (.ref S) (.ref C) else none) else none) = some b
  rw [if_pos e1, if_pos e2]
  exact h4
theorem log2_bits {z : Int} (h : Builtin.Int.intBits z ≤ 1048576) : z.natAbs.log2 < 2000000 := by
  unfold Builtin.Int.intBits at h
  split at h
  · rename_i e
    have e' : z = 0 := by simpa using e
    subst e'
    decide
  · omega
end Dl
set_option Elab.async false
set_option linter.all false
set_option maxRecDepth 100000
set_option maxHeartbeats 2000000
namespace Rh
open PySem PySem.Spec PyProof.Rows L2 L2.DX GxR Gx Dl LiI LamX
theorem sumC_mk {K : PySem.W.Frag} {C : Addr} (c : Cls K C) (n1 : PySem.W.findIn K (.ref C) "rows" = some none) : SumC K C := ⟨c, n1⟩
def MethF (K : PySem.W.Frag) (C : Addr) (x q : Str) (st : Stmt) (ps : List Str) : Prop := ∃ f fd c, FunC K x q st f fd c ∧ PySem.W.findIn K (.ref C) x = some (some (.ref f)) ∧ PySem.W.isFn K (.ref f) = true ∧ Binds K fd ps []
theorem methF_mk {K : PySem.W.Frag} {C : Addr} {x q : Str} {st : Stmt} {ps : List Str} {f c : Addr} {oc kV dc pm ct : Value} {od an : Option Addr} {sl : Array (Option Value)} (a : PySem.W.findIn K (.ref C) x = some (some (.ref f)))
    (l : K.lookup f = some ⟨oc, od, .func (PySem.W.fnOf x q (defArgs st) (defBody st) (defScope st) .none kV dc pm an (.ref c) ct), sl⟩) (cc : PySem.W.codeIn K (.ref c) q = true) (k : PySem.W.keepIn K (.ref f) = true) (i : PySem.W.isFn K (.ref f) = true)
    (hb : ∀ us : List Value, us.length = ps.length → bindArgs (PySem.W.fnOf x q (defArgs st) (defBody st) (defScope st) .none kV dc pm an (.ref c) ct) ⟨us, []⟩ = pure (ps.zip us)) : MethF K C x q st ps :=
  ⟨f, _, c, ⟨⟨_, _, _, _, _, _, _, _, rfl, l, cc⟩, k⟩, a, i, .all hb⟩
theorem law_at {l : PySem.W.OpenLaw} {w : World} {K : PySem.W.Frag} {h : Heap} {mg : Str → Option Value} {fa Cd CT CB CN CL : Addr} {f0 c0 P0 f1 c1 P1 f2 c2 P2 f3 c3 P3 f4 c4 P4 f5 c5 P5 f6 c6 P6 f7 c7 P7 f8 c8 P8 f9 c9 P9 f10 c10 P10 f11 c11 P11 f12 c12 P12 f13 c13 P13 f14 c14 P14 f15 c15 P15 f16 c16 P16 f17 c17 P17 : Addr} {d0 d1 d2 d3 d4 d5 d6 d7 d8 d9 d10 d11 d12 d13 d14 d15 d16 d17 : FuncData} (KX : K.In h) (hG : h.Ns mainGlobals mg) (hfa : mg "law" = some (.ref fa)) (nt : noTabs K = true)
    (D0 : DefT K mg h "is_variable" s_is_variable ["thing"] f0 d0 c0 P0)
    (D1 : DefT K mg h "signs" s_signs ["term"] f1 d1 c1 P1)
    (D2 : DefT K mg h "add" s_add ["one", "other"] f2 d2 c2 P2)
    (D3 : DefT K mg h "times" s_times ["one", "other"] f3 d3 c3 P3)
    (D4 : DefT K mg h "of_term" s_of_term ["term", "sums"] f4 d4 c4 P4)
    (D5 : DefT K mg h "is_greater" s_is_greater ["one", "other"] f5 d5 c5 P5)
    (D6 : DefT K mg h "no_less" s_no_less ["one", "other"] f6 d6 c6 P6)
    (D7 : DefT K mg h "grows" s_grows ["sums", "table"] f7 d7 c7 P7)
    (D8 : DefT K mg h "value" s_value ["total", "table"] f8 d8 c8 P8)
    (D9 : DefT K mg h "ends_by_sums" s_ends_by_sums ["rules", "sums"] f9 d9 c9 P9)
    (D10 : DefT K mg h "all_signs" s_all_signs ["rules"] f10 d10 c10 P10)
    (D11 : DefT K mg h "_law_dice" s_dice ["cell"] f11 d11 c11 P11)
    (D12 : DefT K mg h "_law_roll" s_roll ["dice", "many"] f12 d12 c12 P12)
    (D13 : DefT K mg h "_law_rounds" s_rounds ["script", "most"] f13 d13 c13 P13)
    (D14 : DefT K mg h "_law_told" s_told_law ["what"] f14 d14 c14 P14)
    (D15 : DefT K mg h "_law_term" s_term ["dice", "deep", "names"] f15 d15 c15 P15)
    (D16 : DefT K mg h "_law_value" s__law_value ["term", "numbers", "row"] f16 d16 c16 P16)
    (D17 : DefT K mg h "law" s_law ["script"] f17 d17 c17 P17)
    (n0 : P17 ≠ P0)
    (n1 : P17 ≠ P1)
    (n2 : P17 ≠ P2)
    (n3 : P17 ≠ P3)
    (n4 : P17 ≠ P4)
    (n5 : P17 ≠ P5)
    (n6 : P17 ≠ P6)
    (n7 : P17 ≠ P7)
    (n8 : P17 ≠ P8)
    (n9 : P17 ≠ P9)
    (n10 : P17 ≠ P10)
    (n11 : P17 ≠ P11)
    (n12 : P17 ≠ P12)
    (n13 : P17 ≠ P13)
    (n14 : P17 ≠ P14)
    (n15 : P17 ≠ P15)
    (n16 : P17 ≠ P16)
    (m_isinstance : mg "isinstance" = none)
    (m_str : mg "str" = none)
    (m_all : mg "all" = none)
    (m_int : mg "int" = none)
    (m_tuple : mg "tuple" = none)
    (m_len : mg "len" = none)
    (m_abs : mg "abs" = none)
    (m_list : mg "list" = none)
    (m_range : mg "range" = none)
    (m_sorted : mg "sorted" = none)
    (m_dict : mg "dict" = none)
    (m_any : mg "any" = none)
    (m_sum : mg "sum" = none)
    (gCT : mg "BadTerm" = some (.ref CT))
    (gCB : mg "BadRule" = some (.ref CB))
    (gCN : mg "NoWay" = some (.ref CN))
    (gCL : mg "TooLarge" = some (.ref CL))
    (gS : mg "Sum" = some (.ref Cd)) (T : SumC K Cd) (mk1 : PySem.W.makesIn K Cd = true) (mk4 : PySem.W.keepIn K (.ref Cd) = true) (hI : MethF K Cd "__init__" "Sum.__init__" (sumM 0) ["self", "rows"])
    (kB : PySem.W.keepIn K (.ref CB) = true) (qB : PySem.W.excIn K CB [.type "ValueError", .type "Exception", .type "BaseException", .type "object"] "ValueError.__new__" = true) (s1 : PySem.W.subIn K (.ref CB) (.type "BaseException") = some true) (t1 : PySem.W.typeIn K (.ref CB) = some (.type "type"))
    (e1 : PySem.W.exmOne K (.ref CB) (.ref CT) = some false) (e2 : PySem.W.exmOne K (.ref CB) (.ref CB) = some true) (bl : ∀ (s : Shared) (u : Value), BindsTo s d17 ⟨[u], []⟩ [("script", u)]) :
    LamX.LawAtS l w K CX0 41 63 "script" mg fa h := by
  have ef := hfa.symm.trans D17.m
  cases ef
  have TC : ∀ p ∈ ([(c0, P0), (c1, P1), (c2, P2), (c3, P3), (c4, P4), (c5, P5), (c6, P6), (c7, P7), (c8, P8), (c9, P9), (c10, P10), (c11, P11), (c12, P12), (c13, P13), (c14, P14), (c15, P15), (c16, P16), (c17, P17)] : List (Addr × Addr)), PySem.W.CodeHd h p.1 p.2 ∧ h.get? p.2 = some tab0 := by
    intro p hp
    simp only [List.mem_cons, List.not_mem_nil, or_false] at hp
    rcases hp with e | e | e | e | e | e | e | e | e | e | e | e | e | e | e | e | e | e
    · rw [e]; exact ⟨D0.C, D0.T⟩
    · rw [e]; exact ⟨D1.C, D1.T⟩
    · rw [e]; exact ⟨D2.C, D2.T⟩
    · rw [e]; exact ⟨D3.C, D3.T⟩
    · rw [e]; exact ⟨D4.C, D4.T⟩
    · rw [e]; exact ⟨D5.C, D5.T⟩
    · rw [e]; exact ⟨D6.C, D6.T⟩
    · rw [e]; exact ⟨D7.C, D7.T⟩
    · rw [e]; exact ⟨D8.C, D8.T⟩
    · rw [e]; exact ⟨D9.C, D9.T⟩
    · rw [e]; exact ⟨D10.C, D10.T⟩
    · rw [e]; exact ⟨D11.C, D11.T⟩
    · rw [e]; exact ⟨D12.C, D12.T⟩
    · rw [e]; exact ⟨D13.C, D13.T⟩
    · rw [e]; exact ⟨D14.C, D14.T⟩
    · rw [e]; exact ⟨D15.C, D15.T⟩
    · rw [e]; exact ⟨D16.C, D16.T⟩
    · rw [e]; exact ⟨D17.C, D17.T⟩
  refine ⟨d17, [(c0, P0), (c1, P1), (c2, P2), (c3, P3), (c4, P4), (c5, P5), (c6, P6), (c7, P7), (c8, P8), (c9, P9), (c10, P10), (c11, P11), (c12, P12), (c13, P13), (c14, P14), (c15, P15), (c16, P16), (c17, P17)], spLaw [P0, P1, P2, P3, P4, P5, P6, P7, P8, P9, P10, P11, P12, P13, P14, P15, P16] K P17, fun p hp => (TC p hp).2, fun p hp => noTab KX nt (TC p hp).2, fun p hp => (TC p hp).1, bl, fun H a ns hl hb hT hS => ?_, fun base KB BN TB => ?_⟩
  · refine ⟨a, ns, rfl, hS, hl, fun z hz => log2_bits (hb z hz), fun P hP => ?_, hT (c17, P17) (by simp), fun _ => rfl⟩
    simp only [List.mem_cons, List.not_mem_nil, or_false] at hP
    rcases hP with e | e | e | e | e | e | e | e | e | e | e | e | e | e | e | e | e
    · exact ⟨#[], e ▸ hT (c0, P0) (by simp), trivial⟩
    · exact ⟨#[], e ▸ hT (c1, P1) (by simp), trivial⟩
    · exact ⟨#[], e ▸ hT (c2, P2) (by simp), trivial⟩
    · exact ⟨#[], e ▸ hT (c3, P3) (by simp), trivial⟩
    · exact ⟨#[], e ▸ hT (c4, P4) (by simp), trivial⟩
    · exact ⟨#[], e ▸ hT (c5, P5) (by simp), trivial⟩
    · exact ⟨#[], e ▸ hT (c6, P6) (by simp), trivial⟩
    · exact ⟨#[], e ▸ hT (c7, P7) (by simp), trivial⟩
    · exact ⟨#[], e ▸ hT (c8, P8) (by simp), trivial⟩
    · exact ⟨#[], e ▸ hT (c9, P9) (by simp), trivial⟩
    · exact ⟨#[], e ▸ hT (c10, P10) (by simp), trivial⟩
    · exact ⟨#[], e ▸ hT (c11, P11) (by simp), trivial⟩
    · exact ⟨#[], e ▸ hT (c12, P12) (by simp), trivial⟩
    · exact ⟨#[], e ▸ hT (c13, P13) (by simp), trivial⟩
    · exact ⟨#[], e ▸ hT (c14, P14) (by simp), trivial⟩
    · exact ⟨#[], e ▸ hT (c15, P15) (by simp), trivial⟩
    · exact ⟨#[], e ▸ hT (c16, P16) (by simp), trivial⟩
  have E0 := D0.f (G := [P0, P1, P2, P3, P4, P5, P6, P7, P8, P9, P10, P11, P12, P13, P14, P15, P16]) TB (by simp) (by simp)
  have E1 := D1.f (G := [P0, P1, P2, P3, P4, P5, P6, P7, P8, P9, P10, P11, P12, P13, P14, P15, P16]) TB (by simp) (by simp)
  have E2 := D2.f (G := [P0, P1, P2, P3, P4, P5, P6, P7, P8, P9, P10, P11, P12, P13, P14, P15, P16]) TB (by simp) (by simp)
  have E3 := D3.f (G := [P0, P1, P2, P3, P4, P5, P6, P7, P8, P9, P10, P11, P12, P13, P14, P15, P16]) TB (by simp) (by simp)
  have E4 := D4.f (G := [P0, P1, P2, P3, P4, P5, P6, P7, P8, P9, P10, P11, P12, P13, P14, P15, P16]) TB (by simp) (by simp)
  have E5 := D5.f (G := [P0, P1, P2, P3, P4, P5, P6, P7, P8, P9, P10, P11, P12, P13, P14, P15, P16]) TB (by simp) (by simp)
  have E6 := D6.f (G := [P0, P1, P2, P3, P4, P5, P6, P7, P8, P9, P10, P11, P12, P13, P14, P15, P16]) TB (by simp) (by simp)
  have E7 := D7.f (G := [P0, P1, P2, P3, P4, P5, P6, P7, P8, P9, P10, P11, P12, P13, P14, P15, P16]) TB (by simp) (by simp)
  have E8 := D8.f (G := [P0, P1, P2, P3, P4, P5, P6, P7, P8, P9, P10, P11, P12, P13, P14, P15, P16]) TB (by simp) (by simp)
  have E9 := D9.f (G := [P0, P1, P2, P3, P4, P5, P6, P7, P8, P9, P10, P11, P12, P13, P14, P15, P16]) TB (by simp) (by simp)
  have E10 := D10.f (G := [P0, P1, P2, P3, P4, P5, P6, P7, P8, P9, P10, P11, P12, P13, P14, P15, P16]) TB (by simp) (by simp)
  have E11 := D11.f (G := [P0, P1, P2, P3, P4, P5, P6, P7, P8, P9, P10, P11, P12, P13, P14, P15, P16]) TB (by simp) (by simp)
  have E12 := D12.f (G := [P0, P1, P2, P3, P4, P5, P6, P7, P8, P9, P10, P11, P12, P13, P14, P15, P16]) TB (by simp) (by simp)
  have E13 := D13.f (G := [P0, P1, P2, P3, P4, P5, P6, P7, P8, P9, P10, P11, P12, P13, P14, P15, P16]) TB (by simp) (by simp)
  have E14 := D14.f (G := [P0, P1, P2, P3, P4, P5, P6, P7, P8, P9, P10, P11, P12, P13, P14, P15, P16]) TB (by simp) (by simp)
  have E15 := D15.f (G := [P0, P1, P2, P3, P4, P5, P6, P7, P8, P9, P10, P11, P12, P13, P14, P15, P16]) TB (by simp) (by simp)
  have E16 := D16.f (G := [P0, P1, P2, P3, P4, P5, P6, P7, P8, P9, P10, P11, P12, P13, P14, P15, P16]) TB (by simp) (by simp)
  have iv := cl_iv (P := l.prog) (w := w) E0 m_isinstance m_str m_all
  have si := cl_signs E1 iv m_len m_tuple m_sorted 5
  obtain ⟨fI, fdI, cI, FI, aI, nI, bI⟩ := hI
  have xi := fx_sinit (P := l.prog) (w := w) (mg := mg) (base := base) (G := [P0, P1, P2, P3, P4, P5, P6, P7, P8, P9, P10, P11, P12, P13, P14, P15, P16]) FI T m_tuple m_sorted
  have M : Mk K Cd fI := ⟨mk1, aI, nI, mk4⟩
  have ad := cl_add E2 T M xi gS bI m_dict m_list
  have ti := cl_times E3 T M xi gS bI m_tuple m_list m_sorted
  have of_ := cl_of E4 T M xi gS bI iv ad ti m_int 5
  have gt := cl_greater E5 T M xi gS bI ad m_dict m_all
  have nl := cl_noless E6 T M xi gS bI ad m_all
  have va := cl_value (P := l.prog) (w := w) (C := Cd) E8 T
  have gl := cl_growsL (P := l.prog) (w := w) E7 T m_dict m_any m_range m_str
  have gT := cl_growsT (P := l.prog) (w := w) E7 T m_dict m_any m_range m_str
  have as_ := cl_as (n := 5) E10 si m_tuple m_sorted
  have eb := cl_eb E9 gT as_ gt of_ m_all
  have lv := cl_lv E16 iv m_sum m_range m_len 5
  have di := cl_dice (P := l.prog) (w := w) E11 m_abs m_int
  have rl := cl_roll (P := l.prog) (w := w) E12 m_int
  have ro := cl_rounds (K := K) E13 di
  have te := cl_term (K := K) E15 rl m_list m_len 5
  have cx := clx_of E4 iv gCB kB fun {X m j p p2 pos} eK em hg => pmk_own PySem.F.excBase_ValueError (by rw [eK]; exact qB) (by rw [em]; exact gCB) (by rw [eK]; exact kB) (raises_own (by rw [eK]; exact s1) (by rw [eK]; exact t1)) hg
  exact ok_law D17.F ⟨ro, rl, te, of_, lv, va, ad, ti, gt, nl, gl, eb, T, M, xi, gS, bI, m_range, m_len, m_str⟩ (TB (c17, P17) (by simp)) (by simp [n0, n1, n2, n3, n4, n5, n6, n7, n8, n9, n10, n11, n12, n13, n14, n15, n16]) E14 cx gCT gCB gCN gCL e1 e2
end Rh
open PySem PySem.W PyProof.Rows
set_option Elab.async false
set_option pp.maxSteps 400
set_option maxRecDepth 100000 in
set_option maxHeartbeats 0 in
theorem PySem.Challenge.cw_rewritehall_k09_orders_by_polynomials_holds : PySem.Challenge.rw_rewritehall_k09_orders_by_polynomials.Holds := by
  w_on; o_law; k_head; (case hw => w_witness2)
  k_fill
  refine Dl.walk_tabs (l := PySem.Challenge.rw_rewritehall_k09_orders_by_polynomials) (n := 63) (k := 41) (x := "script") (CX := fun _ => L2.CX0) rfl (by decide) rfl ⟨rfl, by decide, by decide⟩ (fun w h Y => by first | exact PySem.W.km_in_of Y | exact PySem.W.kIn_of Y) ?F fun _ _ _ _ _ z => z
  case F =>
    intro w mg fa h KX G hmg T
    have D0 := Dl.defT_mk (x := "is_variable") (st := Rh.s_is_variable) (ps := ["thing"]) KX G T (by kernel_rfl) (by k_is) (by k_is) (by k_is) (by k_is) (by k_is) (by rfl) fun us hl => match us, hl with | [_], _ => rfl
    have D1 := Dl.defT_mk (x := "signs") (st := Rh.s_signs) (ps := ["term"]) KX G T (by kernel_rfl) (by k_is) (by k_is) (by k_is) (by k_is) (by k_is) (by rfl) fun us hl => match us, hl with | [_], _ => rfl
    have D2 := Dl.defT_mk (x := "add") (st := Rh.s_add) (ps := ["one", "other"]) KX G T (by kernel_rfl) (by k_is) (by k_is) (by k_is) (by k_is) (by k_is) (by rfl) fun us hl => match us, hl with | [_, _], _ => rfl
    have D3 := Dl.defT_mk (x := "times") (st := Rh.s_times) (ps := ["one", "other"]) KX G T (by kernel_rfl) (by k_is) (by k_is) (by k_is) (by k_is) (by k_is) (by rfl) fun us hl => match us, hl with | [_, _], _ => rfl
    have D4 := Dl.defT_mk (x := "of_term") (st := Rh.s_of_term) (ps := ["term", "sums"]) KX G T (by kernel_rfl) (by k_is) (by k_is) (by k_is) (by k_is) (by k_is) (by rfl) fun us hl => match us, hl with | [_, _], _ => rfl
    have D5 := Dl.defT_mk (x := "is_greater") (st := Rh.s_is_greater) (ps := ["one", "other"]) KX G T (by kernel_rfl) (by k_is) (by k_is) (by k_is) (by k_is) (by k_is) (by rfl) fun us hl => match us, hl with | [_, _], _ => rfl
    have D6 := Dl.defT_mk (x := "no_less") (st := Rh.s_no_less) (ps := ["one", "other"]) KX G T (by kernel_rfl) (by k_is) (by k_is) (by k_is) (by k_is) (by k_is) (by rfl) fun us hl => match us, hl with | [_, _], _ => rfl
    have D7 := Dl.defT_mk (x := "grows") (st := Rh.s_grows) (ps := ["sums", "table"]) KX G T (by kernel_rfl) (by k_is) (by k_is) (by k_is) (by k_is) (by k_is) (by rfl) fun us hl => match us, hl with | [_, _], _ => rfl
    have D8 := Dl.defT_mk (x := "value") (st := Rh.s_value) (ps := ["total", "table"]) KX G T (by kernel_rfl) (by k_is) (by k_is) (by k_is) (by k_is) (by k_is) (by rfl) fun us hl => match us, hl with | [_, _], _ => rfl
    have D9 := Dl.defT_mk (x := "ends_by_sums") (st := Rh.s_ends_by_sums) (ps := ["rules", "sums"]) KX G T (by kernel_rfl) (by k_is) (by k_is) (by k_is) (by k_is) (by k_is) (by rfl) fun us hl => match us, hl with | [_, _], _ => rfl
    have D10 := Dl.defT_mk (x := "all_signs") (st := Rh.s_all_signs) (ps := ["rules"]) KX G T (by kernel_rfl) (by k_is) (by k_is) (by k_is) (by k_is) (by k_is) (by rfl) fun us hl => match us, hl with | [_], _ => rfl
    have D11 := Dl.defT_mk (x := "_law_dice") (st := Rh.s_dice) (ps := ["cell"]) KX G T (by kernel_rfl) (by k_is) (by k_is) (by k_is) (by k_is) (by k_is) (by rfl) fun us hl => match us, hl with | [_], _ => rfl
    have D12 := Dl.defT_mk (x := "_law_roll") (st := Rh.s_roll) (ps := ["dice", "many"]) KX G T (by kernel_rfl) (by k_is) (by k_is) (by k_is) (by k_is) (by k_is) (by rfl) fun us hl => match us, hl with | [_, _], _ => rfl
    have D13 := Dl.defT_mk (x := "_law_rounds") (st := Rh.s_rounds) (ps := ["script", "most"]) KX G T (by kernel_rfl) (by k_is) (by k_is) (by k_is) (by k_is) (by k_is) (by rfl) fun us hl => match us, hl with | [_, _], _ => rfl
    have D14 := Dl.defT_mk (x := "_law_told") (st := Rh.s_told_law) (ps := ["what"]) KX G T (by kernel_rfl) (by k_is) (by k_is) (by k_is) (by k_is) (by k_is) (by rfl) fun us hl => match us, hl with | [_], _ => rfl
    have D15 := Dl.defT_mk (x := "_law_term") (st := Rh.s_term) (ps := ["dice", "deep", "names"]) KX G T (by kernel_rfl) (by k_is) (by k_is) (by k_is) (by k_is) (by k_is) (by rfl) fun us hl => match us, hl with | [_, _, _], _ => rfl
    have D16 := Dl.defT_mk (x := "_law_value") (st := Rh.s__law_value) (ps := ["term", "numbers", "row"]) KX G T (by kernel_rfl) (by k_is) (by k_is) (by k_is) (by k_is) (by k_is) (by rfl) fun us hl => match us, hl with | [_, _, _], _ => rfl
    have D17 := Dl.defT_mk (x := "law") (st := Rh.s_law) (ps := ["script"]) KX G T (by kernel_rfl) (by k_is) (by k_is) (by k_is) (by k_is) (by k_is) (by rfl) fun us hl => match us, hl with | [_], _ => rfl
    refine' Rh.law_at (l := PySem.Challenge.rw_rewritehall_k09_orders_by_polynomials) KX G hmg (by kernel_rfl) D0 D1 D2 D3 D4 D5 D6 D7 D8 D9 D10 D11 D12 D13 D14 D15 D16 D17 (by decide) (by decide) (by decide) (by decide) (by decide) (by decide) (by decide) (by decide) (by decide) (by decide) (by decide) (by decide) (by decide) (by decide) (by decide) (by decide) (by decide) ?m0 ?m1 ?m2 ?m3 ?m4 ?m5 ?m6 ?m7 ?m8 ?m9 ?m10 ?m11 ?m12 ?gT ?gB ?gN ?gL ?gS ?T ?mk1 ?mk4 ?hI ?kB ?qB ?s1 ?t1 (Dl.exm_mk ?x1 ?x2 ?x3 ?x4) (Dl.exm_mk ?s1 ?x5 ?t1 ?x6) (fun s u => .of_eq rfl)
    (case m0 => exact mg_none_of KX G (by k_is))
    (case m1 => exact mg_none_of KX G (by k_is))
    (case m2 => exact mg_none_of KX G (by k_is))
    (case m3 => exact mg_none_of KX G (by k_is))
    (case m4 => exact mg_none_of KX G (by k_is))
    (case m5 => exact mg_none_of KX G (by k_is))
    (case m6 => exact mg_none_of KX G (by k_is))
    (case m7 => exact mg_none_of KX G (by k_is))
    (case m8 => exact mg_none_of KX G (by k_is))
    (case m9 => exact mg_none_of KX G (by k_is))
    (case m10 => exact mg_none_of KX G (by k_is))
    (case m11 => exact mg_none_of KX G (by k_is))
    (case m12 => exact mg_none_of KX G (by k_is))
    (case gT => exact mg_of KX G (by k_is))
    (case gB => exact mg_of KX G (by k_is))
    (case gN => exact mg_of KX G (by k_is))
    (case gL => exact mg_of KX G (by k_is))
    (case gS => exact mg_of KX G (by k_is))
    (case T => exact Rh.sumC_mk ⟨by k_is, by k_is, by k_is, by k_is⟩ (by k_is)); (case mk1 => k_is); (case mk4 => k_is)
    (case hI => clear D0 D1 D2 D3 D4 D5 D6 D7 D8 D9 D10 D11 D12 D13 D14 D15 D16 D17; exact Rh.methF_mk (by k_is) (by k_is) (by k_is) (by k_is) (by k_is) fun us hl => match us, hl with | [_, _], _ => rfl)
    (case kB => k_is); (case qB => kernel_rfl); (case s1 => k_is); (case t1 => k_is); (case x1 => k_is); (case x2 => k_is); (case x3 => k_is); (case x4 => k_is); (case x5 => k_is); (case x6 => k_is)
