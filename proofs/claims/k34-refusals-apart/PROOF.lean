import PyProof.Rows.All
import Wide.All
import OpenK.AllK
import Wide.FinOn
import HandS.ForMost
import HandS.AnyAll
import HandS.GenOver
import HandS.DictComp
import HandS.TupAny
import HandS.Zip
import HandS.IsInst
import HandS.EndTab
import HandS.WordsExc
import HandS.TryMany
import HandS.ExcOwn
import KE.GoesMore
import KE.GoesEnum
import HandS.ListItems
import HandS.WordsDict
import KE.SortData
import KE.KDictSum
import KE.KDictCopyH
import HandS.Conv
import KE.KDictDisplayH
import HandS.Lambda
import HandS.ExcValue
import HandS.Keys
import KE.SortKeyHeap
import KE.KSortKey
import HandS.SortKw
import HandS.ExcInit
import HandS.ExcField
import HandS.SuiteRaise
import HandS.RaiseFrom
import HandS.ExcInitHot
import KE.KExcSuper
import KE.KAsSuite
import HandS.ExcIs
import HandS.Text
import HandS.More
import HandS.Wide
import HandS.SetKeys
import PyProof.StrBlock2
import PyProof.ExcBaseAll.ValueError
import PySem.Challenge.RW_rewritehall_k34_refusals_apart
set_option Elab.async false
set_option linter.all false
set_option maxRecDepth 100000
set_option maxHeartbeats 2000000
/-! any, all, sum of a generator expression whose element may call further. -/
namespace Gx
open PySem PySem.Spec PyProof.Rows L2 GxR GenW

/-- the context of a generator expression's frame -/
abbrev gexCx (X : Cx) (s : Shared) (H : Hp) (cenv : Env) (fp : List Addr) (A : Around) : Cx :=
  { X with A := A, s_0 := s, H_0 := H, env := cenv, outer := X.stack, stack := cenv :: X.stack, ex := fp, fn := fun _ => false, calm := true, pn := [], xe := fun _ _ => False }

section
variable {X : Cx} {α : Type}
/-- between a yield and the next wake the consumer may change its own objects xp -/
structure Rsm (xp : α → List (Addr × Obj)) (gsz : Nat) (al al' : α) (s s' : Shared) : Prop where
  os : s'.os = s.os
  bare : AllBare s'.gens
  size : gsz ≤ s'.gens.size
  keep : ∀ b o, b ∉ (xp al).map (·.1) → s.heap.get? b = some o → s'.heap.get? b = some o
  here : ∀ p ∈ xp al', s'.heap.get? p.1 = some p.2
  same : (xp al').map (·.1) = (xp al).map (·.1)
  nocell : ∀ p ∈ xp al', ∀ v, p.2.data ≠ .cell v

theorem Rsm.inv {pp : List (Addr × Obj)} {σ : L2.St} {H : Hp} {s s' : Shared} {xp : α → List (Addr × Obj)} {gsz : Nat} {al al' : α} (I : Inv X (pp ++ xp al) σ H s) (z : Rsm xp gsz al al' s s')
    (hxs : ∀ p ∈ xp al, X.s_0.heap.objs.size ≤ p.1) (hpx : ∀ p ∈ X.pn ++ pp, p.1 ∉ (xp al).map (·.1)) : Inv X (pp ++ xp al') σ H s' := by
  have I0 : Inv X pp σ H s := I.pins_of fun p hp => I.pin p (List.mem_append_right _ (List.mem_append_left _ hp))
  have px : ∀ b ∈ (xp al).map (·.1), H b = none ∧ b ≠ X.env.locals ∧ b ∉ X.fs ∧ X.s_0.heap.objs.size ≤ b ∧ ∀ x c, X.env.cells.lookup x = some c → c ≠ b := fun b hb => by
    obtain ⟨p, hp, e⟩ := List.mem_map.mp hb
    obtain ⟨h1, h2, h3, h4, h5⟩ := I.pin p (List.mem_append_right _ (List.mem_append_right _ hp))
    subst e
    refine ⟨h2, h3, h4, hxs p hp, fun x c hc e => ?_⟩
    obtain ⟨v, o, ho, hd⟩ := I.cell x c hc
    rw [e, h1] at ho
    cases ho
    exact h5 v hd
  have nt : ∀ b u, H b = some u → b ∉ (xp al).map (·.1) := fun b u q hb => by
    rw [(px b hb).1] at q
    cases q
  obtain ⟨z1, z2, z3, z4, z5, z6, z7⟩ := z
  obtain ⟨hh, g, d, t, o⟩ := s'
  have ho : o = s.os := z1
  subst ho
  have J : Inv X pp σ H { s with heap := hh, gens := g, drawn := d, toks := t } := by
    refine I0.step (g' := g) (t' := t) (d' := d) (ch := (xp al).map (·.1)) (fun b hb => ?_)
      (fun b ob _ _ hc q _ => z4 b ob hc q) (fun b ob _ _ hc q _ => ⟨ob.slots, z4 b ob hc q⟩) (fun _ _ _ _ n => n) (fun b ob hc q => ⟨ob, z4 b ob hc q⟩)
      (fun _ _ q => q) (fun _ _ _ q => q) (fun b ps q => ⟨#[], by rw [q]; simp⟩) (fun m hm => ?_) (fun b u q => ?_) z2
    · obtain ⟨h1, h2, h3, h4, h5⟩ := px b hb
      exact ⟨.inr h4, h2, h5, fun p hp e => hpx p hp (by rw [e]; exact hb)⟩
    · obtain ⟨ob, es, ep, ho, r⟩ := hm
      exact ⟨ob, es, ep, z4 _ ob (fun hb => (px _ hb).2.1 rfl) ho, r⟩
    · refine (I0.hok b u q).stay (fun c v hc y => z4 c v ?_ y) (fun _ y => y) fun _ _ y => y
      rcases hc with y | y
      · rw [y]
        exact nt b u q
      · exact nt c _ y
  refine J.pins_of fun p hp => ?_
  rcases List.mem_append.mp hp with hp | hp
  · exact J.pin p (List.mem_append_right _ hp)
  · have hb : p.1 ∈ (xp al).map (·.1) := by
      rw [← z6]
      exact List.mem_map.mpr ⟨p, hp, rfl⟩
    obtain ⟨h1, h2, h3, _⟩ := px _ hb
    exact ⟨z5 p hp, h1, h2, h3, z7 p hp⟩

/-- what the generator's end and its yields say -/
def GxR (X : Cx) (pp : List (Addr × Obj)) (xp : α → List (Addr × Obj)) (gsz : Nat) (Fn : α → Hp → Prop) (_ : Nat) (s₀ : Shared) (s : Shared) : Prop :=
  ∃ al σ H, Inv X (pp ++ xp al) σ H s ∧ Fn al H ∧ gsz ≤ s.gens.size ∧ ∀ p ∈ xp al, s₀.heap.get? p.1 = some p.2
def GxY (X : Cx) (pp : List (Addr × Obj)) (xp : α → List (Addr × Obj)) (gsz : Nat) (Cs : α → V → Hp → (α → Hp → Prop) → Prop) : Protocol := fun _ s₀ v s kap =>
  ∃ al y σ H Nx, RelV y v ∧ Inv X (pp ++ xp al) σ H s ∧ gsz ≤ s.gens.size ∧ (∀ p ∈ xp al, s₀.heap.get? p.1 = some p.2) ∧ Cs al y H Nx ∧ ∀ al' s', Nx al' H → Rsm xp gsz al al' s s' → kap (.send .none) s'

theorem seg_gexLoop {A : Around} {elt tg iter : Expr} {ifs : List Expr} {scope : Scope} {pos : Pos} {it : Addr} {fp : List Addr} {tn : Nat → Heap → Prop} {J : It} {g : TG} {tt : TT} {te : TE} {pp : List (Addr × Obj)} {xp : α → List (Addr × Obj)} {gsz : Nat}
    {Cs : α → V → Hp → (α → Hp → Prop) → Prop} {Fn : α → Hp → Prop} {W : Nat → Nat → α → Hp → Prop} {σ0 : L2.St} {vs : List Nat}
    (T : Turn X.prog X.w X.K tg J fp it tn) (hA : A.over (.compLoop (.GeneratorExp elt [⟨tg, iter, ifs, 0⟩] scope pos) 0 (.ref it) .none X.env) [] = X.A) (hcalm : X.calm = true) (hco : X.env.scope.isCoroutine = false) (hxe : X.xe = fun _ _ => False)
    (hfx : X.ex = fp) (hpn : X.pn = [])
    (pg : PG X tg g) (pt : PTs X ifs tt) (pe : PE X elt te)
    (hxs : ∀ al, ∀ p ∈ xp al, X.s_0.heap.objs.size ≤ p.1) (hpx : ∀ al, ∀ p ∈ pp, p.1 ∉ (xp al).map (·.1)) (hpf : ∀ p ∈ pp, p.1 ∉ fp) (hxf : ∀ al, ∀ p ∈ xp al, p.1 ∉ fp)
    (hw0 : wipe σ0 vs = σ0)
    (turn : ∀ i m al H, W i m al H → (J.stop i H ∧ Fn al H) ∨ (J.go i H ∧ ∃ Nx : α → Hp → Prop, (∀ al' H', Nx al' H' → ∃ m', m' < m ∧ W (i + 1) m' al' H') ∧
      ∀ x H', J.yld i H x H' → g x σ0 H' fun σ2 H2 => wipe σ2 vs = σ0 ∧ tt σ2 H2 fun b H3 => if b = true then te σ2 H3 fun y H4 => Cs al y H4 Nx else Nx al H3)) :
    ∀ (m n i : Nat) (al : α) (H : Hp) (s₀ s : Shared), m + 1 ≤ n → W i m al H → Inv X (pp ++ xp al) σ0 H s → tn i s.heap → (∀ b ∈ fp, H b = none) → gsz ≤ s.gens.size → (∀ p ∈ xp al, s₀.heap.get? p.1 = some p.2) →
      Seg (model X.prog X.w) A (fun n s₀ r s₁ => r = .ok .next ∧ GxR X pp xp gsz Fn n s₀ s₁) (GxY X pp xp gsz Cs) n s₀
        (.compLoop (.GeneratorExp elt [⟨tg, iter, ifs, 0⟩] scope pos) 0 (.ref it) .none X.env) ((model X.prog X.w).den (.compLoop (.GeneratorExp elt [⟨tg, iter, ifs, 0⟩] scope pos) 0 (.ref it) .none X.env)) [] s := by
  have stat : ∀ {al : α} {σ' : L2.St} {H' : Hp} {s' : Shared}, Inv X (pp ++ xp al) σ' H' s' → (∀ b ∈ fp, H' b = none) → ∀ b ∈ fp, FpOk X (pp ++ xp al) H' b := fun {al σ' H' s'} I' hn b hb => by
    have hb' : b ∈ X.ex := by rw [hfx]; exact hb
    refine ⟨hn b hb, (I'.ok.exf b hb').1, I'.ok.exfs b hb', .inl hb', fun x c e => (I'.ok.exf b hb').2 x c e, fun p hp => ?_⟩
    rw [hpn, List.nil_append] at hp
    rcases List.mem_append.mp hp with hp | hp
    · exact fun e => hpf p hp (by rw [e]; exact hb)
    · exact fun e => hxf al p hp (by rw [e]; exact hb)
  intro m
  induction m using Nat.strongRecOn with
  | ind m ih =>
    intro n i al H s₀ s hmn w I st hn0 hgs hs0
    show Seg _ A _ _ _ s₀ _ ((compTurn (.GeneratorExp elt [⟨tg, iter, ifs, 0⟩] scope pos) 0 (.ref it) .none X.env).onRaise (leaving X.env)) [] s
    rw [compTurn_gen, Sem.onRaise_eq_wrap]
    refine seg_bind_wrap (wpAny_standAt ?_)
    rcases turn i m al H w with ⟨stop, qq⟩ | ⟨go, Nx, hNx, step⟩
    · refine seg_bind_wrap ?_
      rw [hA]
      refine wpAny_gsz hgs ?_
      refine thnF (T.done X rfl rfl rfl hcalm i _ s _ H (fun _ _ => False) I (stat I hn0) st stop) fun r s6 ⟨hr, I6⟩ hg6 => ?_
      subst hr
      exact seg_end (.ok .next) ⟨rfl, al, _, H, I6, qq, hg6, hs0⟩
    · obtain ⟨n, rfl⟩ : ∃ k, n = k + 1 := ⟨n - 1, by omega⟩
      refine seg_bind_wrap ?_
      rw [hA]
      refine wpAny_gsz hgs ?_
      refine thnF (T.item X rfl rfl rfl hcalm i _ s _ H (fun _ _ => False) I (stat I hn0) st go) fun r s6 ⟨u, hr, h6⟩ hg6 => ?_
      subst hr
      refine seg_bind_wrap ?_
      rw [hA]
      refine wpAny_gsz hg6 ?_
      refine thnF h6 fun _ s7 ⟨x, H7, I7, r7, y7, st7, n7⟩ hg7 => ?_
      have I7' := I7.pinned (stat I7 n7) (T.obj _ _ st7)
      refine seg_bind_wrap ?_
      rw [hA]
      refine wpAny_gsz hg7 ?_
      have pgr := pg.run _ s7 _ H7 x u _ I7' r7 (step x H7 y7)
      rw [hxe] at pgr
      refine thnF pgr fun _ s8 ⟨σ8, H8, I8, hw8, q8⟩ hg8 => ?_
      refine seg_bind_wrap ?_
      rw [hA]
      refine wpAny_gsz hg8 ?_
      have ptr := pt.run _ s8 σ8 H8 _ I8 q8
      rw [hxe] at ptr
      refine thnF ptr fun b s9 ⟨H9, I9, q9⟩ hg9 => ?_
      -- the pins of the iterator come back
      have back : ∀ {s' : Shared} {H' : Hp}, Inv X ((pp ++ xp al) ++ pinsAt fp s7.heap) σ8 H' s' → Inv X (pp ++ xp al) σ8 H' s' ∧ tn (i + 1) s'.heap ∧ ∀ b ∈ fp, H' b = none := fun {s' H'} I' => by
        have pin' : ∀ b ∈ fp, ∀ o, s7.heap.get? b = some o → s'.heap.get? b = some o ∧ H' b = none := fun b hb o e =>
          let z := I'.pin (b, o) (List.mem_append_right _ (List.mem_append_right _ (mem_pinsAt hb e)))
          ⟨z.1, z.2.1⟩
        refine ⟨I'.pins_of fun p hp => I'.pin p (List.mem_append_right _ (List.mem_append_left _ hp)), T.keep _ _ _ st7 fun b hb o e => (pin' b hb o e).1, fun b hb => ?_⟩
        obtain ⟨o, e, _⟩ := T.obj _ _ st7 b hb
        exact (pin' b hb o e).2
      have forget : ∀ {al' : α} {s' : Shared} {H' : Hp}, Inv X (pp ++ xp al') σ8 H' s' → Inv X (pp ++ xp al') σ0 H' s' := fun {al' s' H'} I' => by
        have hl : σ0.length = σ8.length := by rw [← hw8, wipe_length]
        refine I'.weak hl fun j v e => ?_
        rw [← hw8] at e
        exact (wipe_some e).1
      cases b with
      | false =>
        simp only [Bool.false_eq_true, if_false] at q9 ⊢
        obtain ⟨m', hm, w'⟩ := hNx al H9 q9
        obtain ⟨I9', st9, n9⟩ := back I9
        exact seg_again rfl (ih m' hm (n + 1) (i + 1) al H9 s₀ s9 (by omega) w' (forget I9') st9 n9 hg9 hs0)
      | true =>
        simp only [if_true] at q9 ⊢
        have hy : ∀ v, yieldOut X.env v = yieldValue v := fun v => by simp only [yieldOut, hco, Bool.false_eq_true, if_false]
        simp only [hy]
        rw [Sem.bind_eq_wrap', Sem.bind_eq_wrap', Sem.wrap_wrap, Sem.wrap_wrap]
        refine seg_wrap ?_
        rw [hA]
        refine wpAny_gsz hg9 ?_
        have per := pe.run _ s9 σ8 H9 _ I9 q9
        rw [hxe] at per
        refine thnF per fun z s10 ⟨yv, H10, I10, r10, cs⟩ hg10 => ?_
        obtain ⟨I10', st10, n10⟩ := back I10
        refine seg_at (seg_yield rfl rfl rfl ⟨al, yv, σ8, H10, Nx, r10, I10', hg10, hs0, cs, fun al' s' nx z => ?_⟩)
        obtain ⟨m', hm, w'⟩ := hNx al' H10 nx
        have I11 := forget (Rsm.inv I10' z (hxs al) (fun p hp => hpx al p (by rw [hpn, List.nil_append] at hp; exact hp)))
        refine seg_again rfl (ih m' hm n (i + 1) al' H10 s' s' (by omega) w' I11 (T.keep _ _ _ st10 fun b hb o e => z.keep b o (fun hm => ?_) e) n10 z.size z.here)
        obtain ⟨p, hp, e⟩ := List.mem_map.mp hm
        exact hxf al p hp (by rw [e]; exact hb)

theorem seg_gexStart {A : Around} {elt tg iter : Expr} {ifs : List Expr} {scope : Scope} {pos : Pos} {it : Addr} {R : GenEnd} {Y : Protocol} {n : Nat} {fp : List Addr} {tn : Nat → Heap → Prop} {J : It} (T : Turn X.prog X.w X.K tg J fp it tn) {s₀ s : Shared} (st : tn 0 s.heap)
    (loop : Seg (model X.prog X.w) A R Y n s₀ (.compLoop (.GeneratorExp elt [⟨tg, iter, ifs, 0⟩] scope pos) 0 (.ref it) .none X.env) ((model X.prog X.w).den (.compLoop (.GeneratorExp elt [⟨tg, iter, ifs, 0⟩] scope pos) 0 (.ref it) .none X.env)) [] s) :
    Seg (model X.prog X.w) A R Y n s₀ (.compStart (.GeneratorExp elt [⟨tg, iter, ifs, 0⟩] scope pos) 0 (.ref it) .none X.env) ((model X.prog X.w).den (.compStart (.GeneratorExp elt [⟨tg, iter, ifs, 0⟩] scope pos) 0 (.ref it) .none X.env)) [] s := by
  show Seg _ A _ _ _ s₀ _ ((compStart (.GeneratorExp elt [⟨tg, iter, ifs, 0⟩] scope pos) 0 (.ref it) .none X.env).onRaise (leaving X.env)) [] s
  unfold compStart
  rw [Sem.onRaise_eq_wrap]
  show Seg _ A _ _ _ s₀ _ ((ask >>= _).wrap _ _ _ _) [] s
  refine seg_bind_wrap (wpAny_askSetting ?_)
  split
  · exact seg_again rfl loop
  · first
      | exact seg_bind_wrap (wpAny_rule (seg_bind_wrap (wpAny_standAt (seg_bind_wrap (T.self _ 0 s _ _ st (seg_again rfl loop))))))
      | (refine seg_bind_wrap (wpAny_rule ?_); show Seg _ A _ _ _ s₀ _ ((standAt iter.pos >>= _).wrap _ _ _ _) [] s; exact seg_bind_wrap (wpAny_standAt (seg_bind_wrap (T.self _ 0 s _ _ st (seg_again rfl loop)))))
end
end Gx
set_option Elab.async false
set_option linter.all false
set_option maxRecDepth 100000
set_option maxHeartbeats 2000000
namespace Gx
open PySem PySem.Spec PyProof.Rows L2 GxR GenW

theorem allBare_set {s : Shared} {g : Nat} {x : GenState} (h : AllBare s.gens) (hx : x.bare = true) : AllBare (s.setGen g x).gens := by
  intro y hy
  obtain ⟨i, hi, rfl⟩ := Array.mem_iff_getElem.mp hy
  have e : (s.setGen g x).gens = s.gens.setIfInBounds g x := rfl
  simp only [e] at hi ⊢
  have hi2 : i < s.gens.size := by simpa using hi
  rw [Array.getElem_setIfInBounds hi2]
  split
  · exact hx
  · exact h _ (Array.getElem_mem hi2)

section
variable {prog : Program} {w : World} {α : Type}
/-- the generator at a, its table's number g, ready for its next wake: up to n yields; T: what is wanted at its end, Yp: at a yield -/
structure Rdy (prog : Program) (w : World) (A : Around) (a : Addr) (g : Nat) (T : Shared → Shared → Prop) (Y : Protocol) (n : Nat) (s : Shared) : Prop where
  gen : s.heap.IsGen a g
  lim : s.heap.NoLimit
  go : ∃ gs, s.gens[g]? = some gs ∧ ∀ t, gs.Goes (model prog w) A.in1 (fun _ s₀ r s₁ => r = .ok .next ∧ T s₀ s₁) Y n (.send .none) (({ s with toks := t } : Shared).setGen g .running)

theorem Rdy.next {A : Around} {E : Value → Shared → Prop} {a : Addr} {g : Nat} {T : Shared → Shared → Prop} {Y : Protocol} {n : Nat} {s : Shared} {Q : Option Value → Shared → Prop} (hh : A.handled = none) (hroom : A.depth < recursionLimit) (h : Rdy prog w A a g T Y n s)
    (hY : ∀ v s₁ gs', gs'.bare = true → Y (n - 1) (s.setGen g .running) v s₁ (fun r' s'' => match n with
        | 0 => False
        | m + 1 => gs'.Goes (model prog w) A.in1 (fun _ s₀ r s₁ => r = .ok .next ∧ T s₀ s₁) Y m r' s'') → Q (some v) (s₁.setGen g gs'))
    (hP : ∀ s₁, T (s.setGen g .running) s₁ → ∀ h', (∀ b o, s₁.heap.get? b = some o → h'.get? b = some o) → Q none { s₁.setGen g .finished with heap := h' }) :
    wpAny (model prog w) A (pyNext (.ref a)) Q E s := by
  obtain ⟨hg, hl, gs, hgs, hgo⟩ := h
  exact wpAny_pyNext_genexpQ (P := fun _ s₀ s₁ => T s₀ s₁) hh hl hroom hg hgs (hgo s.toks) hY hP

/-- all(gen): the generator's protocol tells bools -/
theorem codeAny_all_gen {A : Around} {R : Result → Shared → Prop} {a : Addr} {g : Nat} {T : Shared → Shared → Prop} {S : Shared → Prop} {Y : Protocol} (hh : A.handled = none) (hroom : A.depth < recursionLimit)
    (hY : ∀ n s₀ v s kap, Y n s₀ v s kap → ∃ b, v = .bool b ∧ g < s.gens.size ∧ s.heap.IsGen a g ∧ s.heap.NoLimit ∧ AllBare s.gens ∧ if b = true then ∀ s' : Shared, s'.heap = s.heap → s'.os = s.os → s.gens.size = s'.gens.size → AllBare s'.gens → kap (.send .none) s' else S s)
    (hS : ∀ s s' : Shared, S s → s'.heap = s.heap → s'.os = s.os → AllBare s'.gens → R (.ok (.ret (.bool false))) s')
    (hT : ∀ s₀ s s' : Shared, T s₀ s → (∀ b o, s.heap.get? b = some o → s'.heap.get? b = some o) → s'.os = s.os → AllBare s'.gens → R (.ok (.ret (.bool true))) s')
    (hTb : ∀ s₀ s, T s₀ s → AllBare s.gens) :
    ∀ (n : Nat) (s : Shared), Rdy prog w A.in1 a g T Y n s → codeAny (model prog w) A (.builtin "all.loop" ⟨[.ref a], []⟩) R s := by
  intro n
  induction n with
  | zero =>
    intro s h
    refine codeAny_builtin F.entry_all_loop ?_
    rw [Around.under_plainId F.plain_all_loop _]
    show wpAny _ A.in1 (pyNext (.ref a) >>= _) _ _ s
    refine wpAny_bind (h.next hh hroom (fun v s₁ gs' hb hy => ?_) fun s₁ ht h' hk => ?_)
    · obtain ⟨b, rfl, hgs, hig, hlm, hbare, hc⟩ := hY _ _ _ _ _ hy
      refine wpAny_bind (wpAny_holding (wpAny_truthy_bool ?_))
      refine wpAny_bind (wpAny_letGo ?_)
      cases b with
      | true =>
        rw [if_pos rfl] at hc
        exact (hc s₁ rfl rfl rfl hbare).elim
      | false =>
        rw [if_neg Bool.false_ne_true] at hc
        simp only [Bool.false_eq_true, if_false]
        refine wpAny_bind (wpAny_rule (wpAny_pure ?_))
        exact hS s₁ _ hc rfl rfl (allBare_set hbare hb)
    · refine wpAny_bind (wpAny_rule (wpAny_pure ?_))
      exact hT _ s₁ _ ht hk rfl (allBare_set (hTb _ _ ht) rfl)
  | succ n ih =>
    intro s h
    refine codeAny_builtin F.entry_all_loop ?_
    rw [Around.under_plainId F.plain_all_loop _]
    show wpAny _ A.in1 (pyNext (.ref a) >>= _) _ _ s
    refine wpAny_bind (h.next hh hroom (fun v s₁ gs' hb hy => ?_) fun s₁ ht h' hk => ?_)
    · obtain ⟨b, rfl, hgs, hig, hlm, hbare, hc⟩ := hY _ _ _ _ _ hy
      refine wpAny_bind (wpAny_holding (wpAny_truthy_bool ?_))
      refine wpAny_bind (wpAny_letGo ?_)
      cases b with
      | true =>
        rw [if_pos rfl] at hc
        simp only [if_true]
        refine wpAny_pure ⟨plainId_quiet F.plain_all_loop _, ih _ ⟨hig, hlm, gs', setGen_self (gs := s₁.gens[g]) (by exact Array.getElem?_eq_getElem hgs), fun t => ?_⟩⟩
        exact hc _ rfl rfl (by rw [setGen_size]; show _ = (s₁.setGen g gs').gens.size; rw [setGen_size]) (allBare_set (s := { s₁.setGen g gs' with toks := t }) (allBare_set hbare hb) rfl)
      | false =>
        rw [if_neg Bool.false_ne_true] at hc
        simp only [Bool.false_eq_true, if_false]
        refine wpAny_bind (wpAny_rule (wpAny_pure ?_))
        exact hS s₁ _ hc rfl rfl (allBare_set hbare hb)
    · refine wpAny_bind (wpAny_rule (wpAny_pure ?_))
      exact hT _ s₁ _ ht hk rfl (allBare_set (hTb _ _ ht) rfl)

theorem codeAny_any_gen {A : Around} {R : Result → Shared → Prop} {a : Addr} {g : Nat} {T : Shared → Shared → Prop} {S : Shared → Prop} {Y : Protocol} (hh : A.handled = none) (hroom : A.depth < recursionLimit)
    (hY : ∀ n s₀ v s kap, Y n s₀ v s kap → ∃ b, v = .bool b ∧ g < s.gens.size ∧ s.heap.IsGen a g ∧ s.heap.NoLimit ∧ AllBare s.gens ∧ if b = true then S s else ∀ s' : Shared, s'.heap = s.heap → s'.os = s.os → s.gens.size = s'.gens.size → AllBare s'.gens → kap (.send .none) s')
    (hS : ∀ s s' : Shared, S s → s'.heap = s.heap → s'.os = s.os → AllBare s'.gens → R (.ok (.ret (.bool true))) s')
    (hT : ∀ s₀ s s' : Shared, T s₀ s → (∀ b o, s.heap.get? b = some o → s'.heap.get? b = some o) → s'.os = s.os → AllBare s'.gens → R (.ok (.ret (.bool false))) s')
    (hTb : ∀ s₀ s, T s₀ s → AllBare s.gens) :
    ∀ (n : Nat) (s : Shared), Rdy prog w A.in1 a g T Y n s → codeAny (model prog w) A (.builtin "any.loop" ⟨[.ref a], []⟩) R s := by
  intro n
  induction n with
  | zero =>
    intro s h
    refine codeAny_builtin F.entry_any_loop ?_
    rw [Around.under_plainId F.plain_any_loop _]
    show wpAny _ A.in1 (pyNext (.ref a) >>= _) _ _ s
    refine wpAny_bind (h.next hh hroom (fun v s₁ gs' hb hy => ?_) fun s₁ ht h' hk => ?_)
    · obtain ⟨b, rfl, hgs, hig, hlm, hbare, hc⟩ := hY _ _ _ _ _ hy
      refine wpAny_bind (wpAny_holding (wpAny_truthy_bool ?_))
      refine wpAny_bind (wpAny_letGo ?_)
      cases b with
      | false =>
        rw [if_neg Bool.false_ne_true] at hc
        exact (hc s₁ rfl rfl rfl hbare).elim
      | true =>
        rw [if_pos rfl] at hc
        simp only [if_true]
        refine wpAny_bind (wpAny_rule (wpAny_pure ?_))
        exact hS s₁ _ hc rfl rfl (allBare_set hbare hb)
    · refine wpAny_bind (wpAny_rule (wpAny_pure ?_))
      exact hT _ s₁ _ ht hk rfl (allBare_set (hTb _ _ ht) rfl)
  | succ n ih =>
    intro s h
    refine codeAny_builtin F.entry_any_loop ?_
    rw [Around.under_plainId F.plain_any_loop _]
    show wpAny _ A.in1 (pyNext (.ref a) >>= _) _ _ s
    refine wpAny_bind (h.next hh hroom (fun v s₁ gs' hb hy => ?_) fun s₁ ht h' hk => ?_)
    · obtain ⟨b, rfl, hgs, hig, hlm, hbare, hc⟩ := hY _ _ _ _ _ hy
      refine wpAny_bind (wpAny_holding (wpAny_truthy_bool ?_))
      refine wpAny_bind (wpAny_letGo ?_)
      cases b with
      | false =>
        rw [if_neg Bool.false_ne_true] at hc
        simp only [Bool.false_eq_true, if_false]
        refine wpAny_pure ⟨plainId_quiet F.plain_any_loop _, ih _ ⟨hig, hlm, gs', setGen_self (gs := s₁.gens[g]) (by exact Array.getElem?_eq_getElem hgs), fun t => ?_⟩⟩
        exact hc _ rfl rfl (by rw [setGen_size]; show _ = (s₁.setGen g gs').gens.size; rw [setGen_size]) (allBare_set (s := { s₁.setGen g gs' with toks := t }) (allBare_set hbare hb) rfl)
      | true =>
        rw [if_pos rfl] at hc
        simp only [if_true]
        refine wpAny_bind (wpAny_rule (wpAny_pure ?_))
        exact hS s₁ _ hc rfl rfl (allBare_set hbare hb)
    · refine wpAny_bind (wpAny_rule (wpAny_pure ?_))
      exact hT _ s₁ _ ht hk rfl (allBare_set (hTb _ _ ht) rfl)

/-- sum(gen): its state stands in a list at S -/
abbrev sumObj (i : Int) (t : Tok) (c : Nat) : Obj := { cls := .type "list", dict := none, data := .seq #[.int i t] c, slots := #[] }
theorem codeAny_sum_gen {A : Around} {R : Result → Shared → Prop} {a S : Addr} {g : Nat} {T : Shared → Shared → Prop} {Y : Protocol} (hh : A.handled = none) (hroom : A.depth < recursionLimit)
    (hY : ∀ n s₀ v s kap, Y n s₀ v s kap → ∃ b t i tk c, v = .int b t ∧ s₀.heap.get? S = some (sumObj i tk c) ∧ s.heap.get? S = some (sumObj i tk c) ∧ g < s.gens.size ∧ (∀ h' : Heap, (∀ x o, x ≠ S → s.heap.get? x = some o → h'.get? x = some o) → h'.IsGen a g ∧ h'.NoLimit) ∧ AllBare s.gens ∧
      ∀ s' : Shared, (∀ x o, x ≠ S → s.heap.get? x = some o → s'.heap.get? x = some o) → (∃ tk c, s'.heap.get? S = some (sumObj (i + b) tk c)) → s'.os = s.os → s.gens.size = s'.gens.size → AllBare s'.gens → kap (.send .none) s')
    (hT : ∀ s₀ s s' i t, T s₀ s → (∃ tk c, s₀.heap.get? S = some (sumObj i tk c)) → (∀ b o, s.heap.get? b = some o → s'.heap.get? b = some o) → s'.os = s.os → AllBare s'.gens → R (.ok (.ret (.int i t))) s')
    (hTb : ∀ s₀ s, T s₀ s → AllBare s.gens) :
    ∀ (n : Nat) (s : Shared) (i : Int) (tA : Tok) (c : Nat) (st : Int), (st = 0 ∨ st = 2) → s.heap.get? S = some (sumObj i tA c) → Rdy prog w A.in1 a g T Y n s →
      codeAny (model prog w) A (.builtin "sum.loop" ⟨[.ref a, .ref S, rawInt st, rawInt 0], []⟩) R s := by
  intro n
  induction n with
  | zero =>
    intro s i tA c st hst2 hS h
    refine codeAny_builtin F.entry_sum_loop ?_
    rw [Around.under_plainId F.plain_sum_loop _]
    show wpAny _ A.in1 (seqItems? (.ref S) >>= _) _ _ s
    refine wpAny_bind (wpAny_seqItems hS rfl ?_)
    show wpAny _ A.in1 (tryCatch (pyNext (.ref a)) _ >>= _) _ _ s
    refine wpAny_bind (wpAny_tryCatch (h.next hh hroom (fun v s₁ gs' hb hy => ?_) fun s₁ ht h' hk => ?_))
    · obtain ⟨b, t, i', tk, c', rfl, h0, h1, hgs, hig, hbare, hc⟩ := hY _ _ _ _ _ hy
      refine (hc { s₁ with heap := s₁.heap.update S (Obj.mapSeq fun _ => #[.int (i' + b) 0]) } (fun x o hx e => (Heap.get?_update_other _ _ (Ne.symm hx)).trans e) ⟨0, _, Heap.get?_update_self _ h1 rfl⟩ rfl rfl hbare).elim
    · exact wpAny_pure (hT _ s₁ _ i tA ht ⟨tA, c, hS⟩ hk rfl (allBare_set (hTb _ _ ht) rfl))
  | succ n ih =>
    intro s i tA c st hst2 hS h
    refine codeAny_builtin F.entry_sum_loop ?_
    rw [Around.under_plainId F.plain_sum_loop _]
    show wpAny _ A.in1 (seqItems? (.ref S) >>= _) _ _ s
    refine wpAny_bind (wpAny_seqItems hS rfl ?_)
    show wpAny _ A.in1 (tryCatch (pyNext (.ref a)) _ >>= _) _ _ s
    refine wpAny_bind (wpAny_tryCatch (h.next hh hroom (fun v s₁ gs' hb hy => ?_) fun s₁ ht h' hk => ?_))
    · obtain ⟨b, t, i', tk, c', rfl, h0, h1, hgs, hig, hbare, hc⟩ := hY _ _ _ _ _ hy
      have h0' : s.heap.get? S = some (sumObj i' tk c') := h0
      rw [hS] at h0'
      have ei : i = i' := by
        have z := congrArg Obj.data (Option.some.inj h0')
        have z2 : (Data.seq #[Value.int i tA] c) = Data.seq #[Value.int i' tk] c' := z
        injection z2 with z3 _
        have z4 := congrArg Array.toList z3
        simp at z4
        exact z4.1
      subst ei
      have hS' : (s₁.setGen g gs').heap.get? S = some (sumObj i tk c') := h1
      -- the state behind the turn
      have fin : ∀ (st' : Int) (s' : Shared) (tk' : Tok) (c2 : Nat), (st' = 0 ∨ st' = 2) → (∀ x o, x ≠ S → s₁.heap.get? x = some o → s'.heap.get? x = some o) → s'.heap.get? S = some (sumObj (i + b) tk' c2) → s'.os = s₁.os → s'.gens = (s₁.setGen g gs').gens →
          codeAny (model prog w) A (.builtin "sum.loop" ⟨[.ref a, .ref S, rawInt st', rawInt 0], []⟩) R s' := fun st' s' tk' c2 hst' hk hS2 ho hg => by
        obtain ⟨q1, q2⟩ := hig s'.heap hk
        refine ih s' (i + b) tk' c2 st' hst' hS2 ⟨q1, q2, gs', ?_, fun t' => ?_⟩
        · rw [hg]
          exact setGen_self (gs := s₁.gens[g]) (by exact Array.getElem?_eq_getElem hgs)
        · refine hc _ hk ⟨tk', c2, hS2⟩ ho ?_ ?_
          · rw [setGen_size]
            show _ = s'.gens.size
            rw [hg, setGen_size]
          · refine allBare_set (s := { s' with toks := t' }) ?_ rfl
            show AllBare s'.gens
            rw [hg]
            exact allBare_set hbare hb
      rcases hst2 with rfl | rfl
      · show wpAny _ A.in1 (if (_ : Bool) = true then (mkInt (i + b) >>= _) else _) _ _ _
        split
        · refine wpAny_bind (wpAny_mkInt ?_)
          show wpAny _ A.in1 (updateSeq S (fun _ => #[.int (i + b) _]) >>= _) _ _ _
          refine wpAny_bind ?_
          refine wpAny_updateSeq hS' rfl (wpAny_pure ⟨plainId_quiet F.plain_sum_loop _, fin 0 _ _ _ (.inl rfl) (fun x o hx e => (Heap.get?_update_other _ _ (Ne.symm hx)).trans e) (Heap.get?_update_self _ hS' rfl) rfl rfl⟩)
        · refine wpAny_bind (wpAny_rule ?_)
          refine wpAny_bind (wpAny_attempt (wpAny_holding (wpAny_add_int ?_)))
          show wpAny _ A.in1 (updateSeq S (fun _ => #[.int (i + b) _]) >>= _) _ _ _
          refine wpAny_bind (wpAny_updateSeq hS' rfl ?_)
          have hS₂ := Heap.get?_update_self (Obj.mapSeq fun _ => #[Value.int (i + b) (s₁.setGen g gs').toks]) hS' rfl
          refine wpAny_bind (wpAny_letGo ?_)
          refine wpAny_bind (wpAny_updateSeq hS₂ rfl (wpAny_pure ⟨plainId_quiet F.plain_sum_loop _, fin 2 _ _ _ (.inr rfl) (fun x o hx e => (Heap.get?_update_other _ _ (Ne.symm hx)).trans ((Heap.get?_update_other _ _ (Ne.symm hx)).trans e)) (Heap.get?_update_self _ hS₂ rfl) rfl rfl⟩))
      · show wpAny _ A.in1 ((holding [Value.int b t] (binaryOp .Add (.int i tA) (.int b t))).attempt >>= _) _ _ _
        refine wpAny_bind (wpAny_attempt (wpAny_holding (wpAny_add_int ?_)))
        show wpAny _ A.in1 (updateSeq S (fun _ => #[.int (i + b) _]) >>= _) _ _ _
        refine wpAny_bind (wpAny_updateSeq hS' rfl ?_)
        have hS₂ := Heap.get?_update_self (Obj.mapSeq fun _ => #[Value.int (i + b) (s₁.setGen g gs').toks]) hS' rfl
        refine wpAny_bind (wpAny_letGo ?_)
        refine wpAny_bind (wpAny_updateSeq hS₂ rfl (wpAny_pure ⟨plainId_quiet F.plain_sum_loop _, fin 2 _ _ _ (.inr rfl) (fun x o hx e => (Heap.get?_update_other _ _ (Ne.symm hx)).trans ((Heap.get?_update_other _ _ (Ne.symm hx)).trans e)) (Heap.get?_update_self _ hS₂ rfl) rfl rfl⟩))
    · exact wpAny_pure (hT _ s₁ _ i tA ht ⟨tA, c, hS⟩ hk rfl (allBare_set (hTb _ _ ht) rfl))
end
end Gx
set_option Elab.async false
set_option linter.all false
set_option maxRecDepth 100000
set_option maxHeartbeats 2000000
namespace Gx
open PySem PySem.Spec PyProof.Rows L2 GxR GenW

section
variable {X : Cx} {pins : List (Addr × Obj)} {σ : L2.St} {H : Hp} {s : Shared}
theorem gex_start {scope : Scope} {own : List (Str × Nat)} {fp : List Addr} {code : Value} {h' : Heap} {m0 : Str → Option Value} {go : Obj} {A : Around} {G : Array GenState} {tk : Nat}
    (I : Inv X pins σ H s) (ok : BlkOk X.N X.env.scope scope own) (hN : X.N.Nodup) (hcell : ∀ y ∈ scope.names, y.2 ≠ .cell) (hfp : ∀ b ∈ fp, FpOk X pins H b ∧ b < s.heap.objs.size)
    (hA : A.frames = some (genEnv scope (cloFrom X.env.cells scope.names []) s.heap.objs.size code builtinsNs X.env :: X.stack)) (hAh : A.handled = none)
    (hn : h'.Ns s.heap.objs.size m0) (hs : Heap.SameBut s.heap.objs.size (s.heap.push { cls := .type "frame", data := .dict #[] }) h') (hgo : ∀ v, go.data ≠ .cell v) (hgof : go.isFreed = false) (hG : AllBare G) :
    Inv (gexCx X s H (genEnv scope (cloFrom X.env.cells scope.names []) s.heap.objs.size code builtinsNs X.env) fp A) [(h'.objs.size, go)] (wipe σ (own.map (·.2))) H { s with heap := h'.push go, gens := G, toks := tk } := by
  have hfree : ∀ y ∈ scope.names, y.2 = .free → ∃ c, X.env.cells.lookup y.1 = some c := fun y hy e => by
    rcases ok.free y hy e with k | k
    · exact I.ok.has _ (.inl k)
    · exact I.ok.has _ (.inr k)
  generalize hcenv : genEnv scope (cloFrom X.env.cells scope.names []) s.heap.objs.size code builtinsNs X.env = cenv at hA ⊢
  have kp0 : ∀ b o, s.heap.get? b = some o → h'.get? b = some o := fun b o e => hs.extBut b o (Nat.ne_of_lt (Heap.lt_size e)) (Heap.get?_push_of_some _ e)
  have kp : ∀ b o, s.heap.get? b = some o → (h'.push go).get? b = some o := fun b o e => Heap.get?_push_of_some _ (kp0 b o e)
  have hsz : h'.objs.size = s.heap.objs.size + 1 := by rw [hs.1, Heap.size_push]
  have hL : cenv.locals = s.heap.objs.size := by rw [← hcenv]; rfl
  have hcl : cenv.cells = cloFrom X.env.cells scope.names [] := by rw [← hcenv]; rfl
  have hsc : cenv.scope = scope := by rw [← hcenv]; rfl
  have cm : ∀ {y c}, cenv.cells.lookup y = some c → X.env.cells.lookup y = some c ∧ c < s.heap.objs.size := fun {y c} e => by
    rw [hcl] at e
    rcases cloFrom_mem (PySem.mem_of_lookup e) with hm | ⟨h1, rfl⟩
    · cases hm
    · obtain ⟨c, hc⟩ := hfree _ h1 rfl
      rw [hc]
      obtain ⟨w, z⟩ := I.cell _ _ hc
      exact ⟨rfl, z.lt⟩
  have look : ∀ {y}, scope.names.lookup y = some .free → ∃ c, cenv.cells.lookup y = some c ∧ X.env.cells.lookup y = some c := fun {y} hl => by
    have hy : (y, NameKind.free) ∈ scope.names := PySem.mem_of_lookup hl
    obtain ⟨c', e'⟩ := mem_lookup (cloFrom_has (cells := X.env.cells) (acc := []) hy)
    rw [← hcl] at e'
    exact ⟨c', e', (cm e').1⟩
  have okB : (gexCx X s H cenv fp A).Ok := by
    refine ⟨I.ok.mod, by show cenv.scope.kind = _; rw [hsc]; exact ok.kind, by show cenv.globals = _; rw [← hcenv]; exact I.ok.glob, by show cenv.builtins = _; rw [← hcenv]; rfl, by show s.heap.objs.size ≤ cenv.locals; rw [hL]; exact Nat.le_refl _,
      fun y z c e1 e2 => I.ok.inj y z c (cm e1).1 (cm e2).1, fun y hy => ?_, fun y c z e => (by cases z), fun _ => hAh, hA, .inr ⟨rfl, by show cenv.frame = some cenv.locals; rw [← hcenv]; rfl⟩, fun b hb => ⟨?_, fun y c e z => ?_⟩, I.bs, Nat.le_trans I.ok.bsz I.sz, fun b o e hb => ?_, fun b hb z => ?_, I.stack, I.stkFree⟩
    · show ∃ c, cenv.cells.lookup y = some c
      have key : ∀ k, cenv.kindOf y = some k → (k = .cell ∨ k = .free) → ∃ c, cenv.cells.lookup y = some c := fun k hk hk' => by
        unfold Env.kindOf at hk
        rw [hsc] at hk
        rcases hk' with rfl | rfl
        · exact absurd rfl (hcell _ (PySem.mem_of_lookup hk))
        · obtain ⟨c, h1, _⟩ := look hk
          exact ⟨c, h1⟩
      rcases hy with hy | hy
      · exact key _ hy (.inl rfl)
      · exact key _ hy (.inr rfl)
    · show b ≠ cenv.locals
      rw [hL]; exact Nat.ne_of_lt (hfp b hb).2
    · exact (hfp b hb).1.2.2.2.2.1 y c (cm e).1 z
    · rcases (hfp b hb).1.2.2.2.1 with z | z
      · exact I.ok.noex b o e z
      · exact absurd (Nat.lt_of_lt_of_le (Heap.lt_size e) (Nat.le_trans I.ok.bsz z)) (Nat.lt_irrefl _)
    · rcases List.mem_cons.mp (I.stkSub b z) with z | z
      · exact (hfp b hb).1.2.1 z
      · exact (hfp b hb).1.2.2.1 z
  refine ⟨okB, rfl, hG, Un.kept kp, ⟨m0, ?_, fun i y av e1 e2 e3 => ?_⟩, fun y c e => ?_, ?_, fun y c e => ?_, fun p hp => ?_, I.hok.kept kp, by rw [wipe_length]; exact I.len⟩
  · show Heap.Ns _ cenv.locals _
    rw [hL]
    exact hn.push _
  · obtain ⟨e2, hne⟩ := wipe_some e2
    have hfr : scope.names.lookup y = some .free := by
      have no : ∀ k', scope.names.lookup y = some k' → ¬ (k' = .local ∨ k' = .cell) := fun k' e hh => by
        rcases ok.own _ (PySem.mem_of_lookup e) hh with e' | e'
        · obtain ⟨p, hp, hpy⟩ := List.mem_map.mp e'
          have e3 := ok.ix p hp
          have : p.1 = y := hpy
          rw [this] at e3
          exact hne (List.mem_map.mpr ⟨p, hp, nodup_ix hN e3 e1⟩)
        · exact e' (List.mem_of_getElem? e1)
      have e3 : Vis cenv.scope y := e3
      rw [hsc] at e3
      rcases e3 with e3 | e3 | e3
      · exact absurd (.inl rfl) (no _ e3)
      · exact absurd (.inr rfl) (no _ e3)
      · exact e3
    obtain ⟨m, hn, hl⟩ := I.loc
    have hvis : Vis X.env.scope y := (ok.free _ (PySem.mem_of_lookup hfr) rfl).elim (fun k => .inr (.inl k)) (fun k => .inr (.inr k))
    obtain ⟨w, r, q⟩ := hl i y av e1 e2 hvis
    refine ⟨w, r, .inr ⟨.inr (by show cenv.kindOf y = _; unfold Env.kindOf; rw [hsc]; exact hfr), ?_⟩⟩
    obtain ⟨c, h1, h2⟩ := look hfr
    rcases q with ⟨k, _⟩ | ⟨_, c', e', z⟩
    · have k : X.env.scope.names.lookup y = some .local := k
      rcases ok.free _ (PySem.mem_of_lookup hfr) rfl with k' | k' <;> rw [show X.env.scope.names.lookup y = _ from k'] at k <;> cases k
    · rw [h2] at e'; cases e'
      exact ⟨c, h1, z.keeps kp⟩
  · obtain ⟨w, z⟩ := I.cell y c (cm (show cenv.cells.lookup y = some c from e)).1
    exact ⟨w, z.keeps kp⟩
  · show H cenv.locals = none
    rw [hL]; exact I.hok.fresh (Nat.le_refl _)
  · exact I.freeC y c (cm (show cenv.cells.lookup y = some c from e)).1
  · have hp : p ∈ ([] : List (Addr × Obj)) ++ [(h'.objs.size, go)] := hp
    rw [List.nil_append] at hp
    obtain rfl := List.mem_singleton.mp hp
    refine ⟨Heap.get?_push_size _ hgof, I.hok.fresh (by rw [hsz]; exact Nat.le_succ _), ?_, ?_, hgo⟩
    · show h'.objs.size ≠ cenv.locals
      rw [hL, hsz]; exact Nat.succ_ne_self _
    · intro z
      have z : h'.objs.size ∈ frs X.stack := z
      rcases List.mem_cons.mp (I.stkSub _ z) with z | z
      · have q := I.lt
        rw [← z, hsz] at q
        exact absurd q (Nat.not_lt.mpr (Nat.le_succ _))
      · exact I.nofs (by rw [hsz]; exact Nat.le_succ _) z
end
end Gx
set_option Elab.async false
set_option linter.all false
set_option maxRecDepth 100000
set_option maxHeartbeats 2000000
namespace Gx
open PySem PySem.Spec PyProof.Rows L2 GxR GenW

section
variable {X : Cx} {pins : List (Addr × Obj)} {σ : L2.St} {H : Hp} {s : Shared}
abbrev gexObj (s : Shared) (q : Str) : Obj := { cls := .type "generator", data := .fields #[.int s.gens.size 0, .str "<genexpr>" (s.toks + 1), .str (q ++ "<genexpr>") (s.toks + 1 + 1)] }
theorem tab_fp {P : Addr} {H1 H2 : Hp} {fp : List Addr} (hT : TabG H1 P) (h : Tabbed P H1 H2) (hf : ∀ b ∈ fp, FpOk X pins H1 b) : ∀ b ∈ fp, FpOk X pins H2 b := fun b hb => by
  obtain ⟨f0, f1⟩ := hf b hb
  obtain ⟨ps, hP, _⟩ := hT
  refine ⟨?_, f1⟩
  rw [h.2 b (fun e => by rw [e, hP] at f0; cases f0)]
  exact f0

theorem gen_make {c P : Addr} {elt tg iter : Expr} {ifs : List Expr} {scope : Scope} {own : List (Str × Nat)} {gpos : Pos} {wi : TI} {k : Nat} {Q : Value → Shared → Prop} {R : It → Hp → Prop}
    (hr : Room k X.A) (TB : TabB X.base X.mg c P) (hcode : X.env.code = .ref c) (hco : scope.isCoroutine = false) (hdot : scope.names.lookup (".0" : Str) = some NameKind.local) (ok : BlkOk X.N X.env.scope scope own) (hcell : ∀ y ∈ scope.names, y.2 ≠ .cell)
    (hi : PI X tg iter wi) (hs : ∀ x, genFold iter X.env x = pure x) (I : Inv X pins σ H s) (h : wi σ H fun J H1 => TabG H1 P ∧ R J H1)
    (hQ : ∀ (it : Addr) (fp : List Addr) (tn : Nat → Heap → Prop) (J : It) (H1 H2 : Hp) (s3 : Shared) (code : Value) (h' : Heap), R J H1 → TabG H1 P → Tabbed P H1 H2 → Inv X pins σ H2 s3 → Turn X.prog X.w X.K tg J fp it tn → tn 0 s3.heap →
      (∀ b ∈ fp, FpOk X pins H2 b ∧ b < s3.heap.objs.size) → h'.Ns s3.heap.objs.size (fun y => if y = ".0" then some (.ref it) else none) → Heap.SameBut s3.heap.objs.size (s3.heap.push { cls := .type "frame", data := .dict #[] }) h' →
      Q (.ref h'.objs.size) { s3 with gens := s3.gens.push (.fresh (.compStart (.GeneratorExp elt [⟨tg, iter, ifs, 0⟩] scope gpos) 0 (.ref it) .none (genEnv scope (cloFrom X.env.cells scope.names []) s3.heap.objs.size code builtinsNs X.env))), toks := s3.toks + 1 + 1 + 1, heap := h'.push (gexObj s3 X.env.qual) }) :
    wpAny (model X.prog X.w) X.A (eval (.GeneratorExp elt [⟨tg, iter, ifs, 0⟩] scope gpos) X.env) Q X.xe s := by
  have hfree : ∀ y ∈ scope.names, y.2 = .free → ∃ c, X.env.cells.lookup y.1 = some c := fun y hy e => by
    rcases ok.free y hy e with k | k
    · exact I.ok.has _ (.inl k)
    · exact I.ok.has _ (.inr k)
  refine wpAny_GeneratorExp_make hco (closure_ok hfree) hcell hdot ok.kind (by have := hr.dp; omega) (thn (hi.run pins s σ H _ I h) fun xv s1 hx => thn hx fun itv s2 h2 => ?_) hs
  obtain ⟨it, fp, tn, J, H2, e, I2, T, st2, f2, hT, q⟩ := h2
  subst e
  refine ⟨I2.nolimit, ?_⟩
  obtain ⟨ps, hP, ht⟩ := id hT
  have hPs : s2.heap.get? P = some { cls := .none, data := .fields ps } := I2.hok P _ hP
  have cd : PySem.W.CodeHd s2.heap c P := TB.code.keeps I2.bk
  have sz : ∀ b ∈ fp, b < s2.heap.objs.size := fun b hb => by
    obtain ⟨o, e, _⟩ := T.obj _ _ st2 b hb
    exact Heap.lt_size e
  have nP : ∀ b ∈ fp, b ≠ P := fun b hb e => by
    have f0 := (f2 b hb).1
    rw [e, hP] at f0
    cases f0
  have cont : ∀ (code : Value) (h3 : Heap) (tk : Nat) (ps' : Array Value), Heap.ExtBut P s2.heap h3 → s2.heap.objs.size ≤ h3.objs.size → h3.get? P = some { cls := .none, data := .fields ps' } → (∃ more, ps' = ps ++ more) → TriplesOk ps'.toList →
      wpAny (model X.prog X.w) X.A (builtinsFor X.env.globals X.env.builtins) (fun bi s₄ =>
        ∀ h', h'.Ns s₄.heap.objs.size (fun y => if y = ".0" then some (.ref it) else none) → Heap.SameBut s₄.heap.objs.size (s₄.heap.push { cls := .type "frame", data := .dict #[] }) h' →
          Q (.ref h'.objs.size) { s₄ with
            gens := s₄.gens.push (.fresh (.compStart (.GeneratorExp elt [⟨tg, iter, ifs, 0⟩] scope gpos) 0 (.ref it) .none (genEnv scope (cloFrom X.env.cells scope.names []) s₄.heap.objs.size code bi X.env))),
            toks := s₄.toks + 1 + 1 + 1,
            heap := h'.push (gexObj s₄ X.env.qual) }) X.xe { s2 with heap := h3, toks := tk } := by
    intro code h3 tk ps' hx hsz hP3 hmore ht3
    obtain ⟨bm, ob, e1, e2, e3, e4, e5, e6, e7, e8⟩ := TB.bm
    have keep3 : ∀ b u, b ≠ P → s2.heap.get? b = some u → h3.get? b = some u := fun b u hb e => hx b u hb e
    refine wpAny_builtinsFor (m := X.mg) (by rw [I2.ok.glob]; exact (I2.mod.glob.keeps I2.bk).extBut hx TB.gP) e1 e2 (keep3 _ _ e4 (I2.bk _ _ e5)) e6 e7 e8 ?_
    intro h' hn' hs'
    obtain ⟨more, em⟩ := hmore
    have I3 : Inv X pins σ (upd H2 P (.tbl (ps ++ more))) { s2 with heap := h3, toks := tk } :=
      inv_tab (more := more) (h' := h3) (g' := s2.gens) (d' := s2.drawn) (t' := tk) I2 hP (fun b u hb e => keep3 b u hb e) (by rw [← em]; exact hP3) I2.bare
    have hTb : Tabbed P H2 (upd H2 P (.tbl (ps ++ more))) := ⟨⟨ps ++ more, upd_same, by rw [← em]; exact ht3⟩, fun b hb => upd_ne hb⟩
    refine hQ it fp tn J H2 _ { s2 with heap := h3, toks := tk } code h' q hT hTb I3 T (T.keep _ _ _ st2 fun b hb o e => keep3 b o (nP b hb) e) (fun b hb => ⟨tab_fp hT hTb f2 b hb, Nat.lt_of_lt_of_le (sz b hb) hsz⟩) hn' hs'
  cases hf : codeAmong gpos ps.toList with
  | none =>
    refine wpAny_genexprCodeX hcode (cd.code hPs ht) (cd.tab hPs) hf fun c' h' tk hx hge hlt hco' _ htab' _ => ?_
    obtain ⟨o1, vs, f1, tf, fl, tg', inF, tx, tt, op, _, _, _, _, _, _, _, _, _, htr, _⟩ := hco'
    exact cont _ h' tk _ hx (Nat.le_trans hge (Nat.le_of_lt hlt)) htab'.2 ⟨_, rfl⟩ htr
  | some cv =>
    refine wpAny_genexprCode_hit hcode (cd.code hPs ht) hf ?_
    exact cont cv s2.heap s2.toks ps (Heap.ExtBut.refl _ _) (Nat.le_refl _) hPs ⟨#[], by simp⟩ ht

/-! ### the readings -/
def tGx (P : Addr) (wi : TI) (g : TG) (tt : TT) (te : TE) (vs : List Nat) {α : Type} (a0 : Tok → α) (Cs : α → V → Hp → (α → Hp → Prop) → Prop) (Fn : α → Hp → Prop) : L2.St → Hp → Prop := fun σ H => wi σ H fun J H1 => TabG H1 P ∧ ∀ H1', Tabbed P H1 H1' →
  ∃ W : Nat → Nat → α → Hp → Prop, (∃ m, ∀ tk, W 0 m (a0 tk) H1') ∧ ∀ i m al H, W i m al H → (J.stop i H ∧ Fn al H) ∨ (J.go i H ∧ ∃ Nx : α → Hp → Prop, (∀ al' H', Nx al' H' → ∃ m', m' < m ∧ W (i + 1) m' al' H') ∧
    ∀ x H', J.yld i H x H' → g x (wipe σ vs) H' fun σ2 H2 => wipe σ2 vs = wipe σ vs ∧ tt σ2 H2 fun b H3 => if b = true then te σ2 H3 fun y H4 => Cs al y H4 Nx else Nx al H3)
def tAllG (P : Addr) (wi : TI) (g : TG) (tt : TT) (te : TE) (vs : List Nat) : TE := fun σ H Q => tGx P wi g tt te vs (fun _ => ()) (fun _ y H4 Nx => ∃ k, y = .bl k ∧ if k = true then Nx () H4 else Q (.bl false) H4) (fun _ H' => Q (.bl true) H') σ H
def tAnyG (P : Addr) (wi : TI) (g : TG) (tt : TT) (te : TE) (vs : List Nat) : TE := fun σ H Q => tGx P wi g tt te vs (fun _ => ()) (fun _ y H4 Nx => ∃ k, y = .bl k ∧ if k = true then Q (.bl true) H4 else Nx () H4) (fun _ H' => Q (.bl false) H') σ H
def tSumG (P : Addr) (wi : TI) (g : TG) (tt : TT) (te : TE) (vs : List Nat) : TE := fun σ H Q => tGx P wi g tt te vs (fun tk => ((0, tk, 0) : Int × Tok × Nat)) (fun al y H4 Nx => ∃ j, y = .int j ∧ ∀ tk c, Nx (al.1 + j, tk, c) H4) (fun al H' => Q (.int al.1) H') σ H

theorem over_frames {A : Around} {elt tg iter : Expr} {ifs : List Expr} {scope : Scope} {gpos : Pos} {it : Value} {env : Env} {l : List Env} (h : A.frames = some l) :
    (A.in1.in1.over (.compLoop (.GeneratorExp elt [⟨tg, iter, ifs, 0⟩] scope gpos) 0 it .none env) []).frames = some (env :: l) := by
  unfold Around.over
  simp only [List.map_nil]
  rw [h]
  rfl
theorem over_room {A : Around} {elt tg iter : Expr} {ifs : List Expr} {scope : Scope} {gpos : Pos} {it : Value} {env : Env} {k : Nat} (r : Room (k + 1) A) :
    Room k (A.in1.in1.over (.compLoop (.GeneratorExp elt [⟨tg, iter, ifs, 0⟩] scope gpos) 0 it .none env) []) := by
  refine ⟨r.hd, ?_, ?_⟩
  · have e : (A.in1.in1.over (.compLoop (.GeneratorExp elt [⟨tg, iter, ifs, 0⟩] scope gpos) 0 it .none env) []).depth = A.depth + 1 := rfl
    have := r.dp
    rw [e]
    omega
  · have e : (A.in1.in1.over (.compLoop (.GeneratorExp elt [⟨tg, iter, ifs, 0⟩] scope gpos) 0 it .none env) []).units ≤ A.units + 5 := Nat.le_of_eq rfl
    have := r.un
    omega
theorem inv_calm {σ' : L2.St} {H' : Hp} {s1 s2 : Shared} (I : Inv X pins σ' H' s1) (k : ∀ b o, s1.heap.get? b = some o → s2.heap.get? b = some o) (ho : s2.os = s1.os) (hb : AllBare s2.gens) : Inv X pins σ' H' s2 := by
  obtain ⟨hh, g, d, t, o⟩ := s2
  have e : o = s1.os := ho
  subst e
  exact I.call (ch := []) (g' := g) (t' := t) (d' := d) (Un.kept k) (I.hok.kept k) hb (fun b hb => absurd hb (by simp))
end
end Gx
set_option Elab.async false
set_option linter.all false
set_option maxRecDepth 100000
set_option maxHeartbeats 2000000
namespace Gx
open PySem PySem.Spec PyProof.Rows L2 GxR GenW

theorem wipe_at (σ : L2.St) : ∀ (vs : List Nat) (i : Nat), (wipe σ vs)[i]? = if i ∈ vs ∧ i < σ.length then some none else σ[i]?
  | [], i => by simp [wipe]
  | v :: vs, i => by
    unfold wipe
    by_cases hv : v = i
    · subst hv
      by_cases hl : v < σ.length
      · rw [List.getElem?_set_self (by rw [wipe_length]; exact hl), if_pos ⟨List.mem_cons_self, hl⟩]
      · rw [if_neg (fun z => hl z.2), List.getElem?_eq_none (by rw [List.length_set, wipe_length]; exact Nat.not_lt.mp hl), List.getElem?_eq_none (Nat.not_lt.mp hl)]
    · rw [List.getElem?_set_ne hv, wipe_at σ vs i]
      have e : (i ∈ v :: vs ∧ i < σ.length) = (i ∈ vs ∧ i < σ.length) := by
        rw [List.mem_cons]
        simp [Ne.symm hv]
      simp only [e]
theorem wipe_wipe (σ : L2.St) (vs : List Nat) : wipe (wipe σ vs) vs = wipe σ vs := by
  apply List.ext_getElem?
  intro i
  rw [wipe_at, wipe_at, wipe_length]
  by_cases h : i ∈ vs ∧ i < σ.length
  · rw [if_pos h, if_pos h]
  · rw [if_neg h]
section
variable {X : Cx} {pins : List (Addr × Obj)} {σ : L2.St} {H : Hp} {s : Shared} {α : Type}
/-- back in the def's context -/
theorem gex_back {cenv : Env} {fp : List Addr} {A : Around} {pins' : List (Addr × Obj)} {σ' : L2.St} {H' : Hp} {s' : Shared} (I : Inv X pins σ H s) (hf : ∀ b ∈ fp, FpOk X pins H b) (I' : Inv (gexCx X s H cenv fp A) pins' σ' H' s') : Inv X pins σ H' s' :=
  I.call' (ch := fp) I'.os I'.base I'.hok I'.bare fun b hb => ⟨(hf b hb).2.2.2.1, (hf b hb).2.1, (hf b hb).2.2.2.2.1, (hf b hb).2.2.2.2.2⟩

theorem gex_ready {elt tg iter : Expr} {ifs : List Expr} {scope : Scope} {gpos : Pos} {it : Addr} {fp : List Addr} {tn : Nat → Heap → Prop} {J : It} {g : TG} {tt : TT} {te : TE} {vs : List Nat} {xp : α → List (Addr × Obj)} {a0 : α}
    {Cs : α → V → Hp → (α → Hp → Prop) → Prop} {Fn : α → Hp → Prop} {W : Nat → Nat → α → Hp → Prop} {s3 s6 : Shared} {H2 : Hp} {cenv : Env} {a : Addr} {gn : Nat} {go : Obj} {σ0 : L2.St}
    (hh : X.A.handled = none) (hsc : cenv.scope = scope) (hco : scope.isCoroutine = false) (T : Turn X.prog X.w X.K tg J fp it tn)
    (pg : PG (gexCx X s3 H2 cenv fp (X.A.in1.in1.over (.compLoop (.GeneratorExp elt [⟨tg, iter, ifs, 0⟩] scope gpos) 0 (.ref it) .none cenv) [])) tg g)
    (pt : PTs (gexCx X s3 H2 cenv fp (X.A.in1.in1.over (.compLoop (.GeneratorExp elt [⟨tg, iter, ifs, 0⟩] scope gpos) 0 (.ref it) .none cenv) [])) ifs tt)
    (pe : PE (gexCx X s3 H2 cenv fp (X.A.in1.in1.over (.compLoop (.GeneratorExp elt [⟨tg, iter, ifs, 0⟩] scope gpos) 0 (.ref it) .none cenv) [])) elt te)
    (hxs : ∀ al, ∀ p ∈ xp al, s3.heap.objs.size ≤ p.1) (hpx : ∀ al, ∀ p ∈ xp al, p.1 ≠ a) (hpf : a ∉ fp) (hxf : ∀ al, ∀ p ∈ xp al, p.1 ∉ fp) (hw0 : wipe σ0 vs = σ0)
    (I6 : Inv (gexCx X s3 H2 cenv fp (X.A.in1.in1.over (.compLoop (.GeneratorExp elt [⟨tg, iter, ifs, 0⟩] scope gpos) 0 (.ref it) .none cenv) [])) ([(a, go)] ++ xp a0) σ0 H2 s6) (st6 : tn 0 s6.heap) (n6 : ∀ b ∈ fp, H2 b = none)
    (hig : s6.heap.IsGen a gn) (hgs : s6.gens[gn]? = some (.fresh (.compStart (.GeneratorExp elt [⟨tg, iter, ifs, 0⟩] scope gpos) 0 (.ref it) .none cenv)))
    {m0 : Nat} (w0 : W 0 m0 a0 H2)
    (turn : ∀ i m al H, W i m al H → (J.stop i H ∧ Fn al H) ∨ (J.go i H ∧ ∃ Nx : α → Hp → Prop, (∀ al' H', Nx al' H' → ∃ m', m' < m ∧ W (i + 1) m' al' H') ∧
      ∀ x H', J.yld i H x H' → g x σ0 H' fun σ2 H2 => wipe σ2 vs = σ0 ∧ tt σ2 H2 fun b H3 => if b = true then te σ2 H3 fun y H4 => Cs al y H4 Nx else Nx al H3)) :
    Rdy X.prog X.w X.A.in1 a gn (fun s₀ s₁ => GxR (gexCx X s3 H2 cenv fp (X.A.in1.in1.over (.compLoop (.GeneratorExp elt [⟨tg, iter, ifs, 0⟩] scope gpos) 0 (.ref it) .none cenv) [])) [(a, go)] xp (gn + 1) Fn 0 s₀ s₁)
      (GxY (gexCx X s3 H2 cenv fp (X.A.in1.in1.over (.compLoop (.GeneratorExp elt [⟨tg, iter, ifs, 0⟩] scope gpos) 0 (.ref it) .none cenv) [])) [(a, go)] xp (gn + 1) Cs) (m0 + 1) s6 := by
  refine ⟨hig, I6.nolimit, _, hgs, fun t => ⟨rfl, ?_⟩⟩
  have hlt : gn < s6.gens.size := (Array.getElem?_eq_some_iff.mp hgs).1
  have I7 := inv_calm (s2 := ({ s6 with toks := t } : Shared).setGen gn .running) I6 (fun _ _ e => e) rfl (allBare_set (s := { s6 with toks := t }) I6.bare rfl)
  have q := seg_gexLoop (X := gexCx X s3 H2 cenv fp (X.A.in1.in1.over (.compLoop (.GeneratorExp elt [⟨tg, iter, ifs, 0⟩] scope gpos) 0 (.ref it) .none cenv) [])) (A := X.A.in1.in1) (elt := elt) (iter := iter) (pos := gpos) (scope := scope) (gsz := gn + 1) (pp := [(a, go)]) (xp := xp) (Cs := Cs) (Fn := Fn) (W := W)
    T rfl rfl (by show cenv.scope.isCoroutine = false; rw [hsc]; exact hco) rfl rfl rfl pg pt pe hxs
    (fun al p hp hm => by
      obtain rfl := List.mem_singleton.mp hp
      obtain ⟨p', hp', e⟩ := List.mem_map.mp hm
      exact hpx al p' hp' e)
    (fun p hp hm => by
      obtain rfl := List.mem_singleton.mp hp
      exact hpf hm) hxf hw0 turn m0 (m0 + 1) 0 a0 H2 (({ s6 with toks := t } : Shared).setGen gn .running) (({ s6 with toks := t } : Shared).setGen gn .running) (Nat.le_refl _) w0 I7 st6 n6
    (by rw [setGen_size]; exact hlt) (fun p hp => (I6.pin p (List.mem_append_right _ (List.mem_append_right _ hp))).1)
  exact seg_gexStart (X := gexCx X s3 H2 cenv fp (X.A.in1.in1.over (.compLoop (.GeneratorExp elt [⟨tg, iter, ifs, 0⟩] scope gpos) 0 (.ref it) .none cenv) [])) T st6 q

section
variable {c P : Addr} {elt tg iter : Expr} {ifs : List Expr} {scope : Scope} {own : List (Str × Nat)} {p pos gpos : Pos} {wi : TI} {g : TG} {tt : TT} {te : TE} {k : Nat}
theorem isGen_obj {s3 : Shared} {h' : Heap} {q : Str} : (h'.push (gexObj s3 q)).IsGen h'.objs.size s3.gens.size := ⟨_, _, _, Heap.get?_push_size _ rfl, rfl, rfl, rfl⟩
theorem pe_allG (hr : Room (k + 1) X.A) (hN : X.N.Nodup) (TB : TabB X.base X.mg c P) (hcode : X.env.code = .ref c) (ok : BlkOk X.N X.env.scope scope own) (hm : X.mg "all" = none) (hi : PI X tg iter wi)
    (pg : ∀ s H C code fp A, Room k A → PG (gexCx X s H (genEnv scope (cloFrom X.env.cells scope.names []) C code builtinsNs X.env) fp A) tg g)
    (pt : ∀ s H C code fp A, Room k A → PTs (gexCx X s H (genEnv scope (cloFrom X.env.cells scope.names []) C code builtinsNs X.env) fp A) ifs tt)
    (pe : ∀ s H C code fp A, Room k A → PE (gexCx X s H (genEnv scope (cloFrom X.env.cells scope.names []) C code builtinsNs X.env) fp A) elt te)
    (hcell : ∀ y ∈ scope.names, y.2 ≠ .cell := by decide +kernel) (hco : scope.isCoroutine = false := by rfl) (hdot : scope.names.lookup (".0" : Str) = some NameKind.local := by rfl)
    (hg : Gl X "all" := by rfl) (hs : ∀ x, genFold iter X.env x = pure x := by intro _; rfl)
    (he : starEach [.GeneratorExp elt [⟨tg, iter, ifs, 0⟩] scope gpos] X.env = (false, eval (.GeneratorExp elt [⟨tg, iter, ifs, 0⟩] scope gpos) X.env) :: starEach [] X.env := by rfl) :
    PE X (.Call (.Name "all" p) [.GeneratorExp elt [⟨tg, iter, ifs, 0⟩] scope gpos] [] pos) (tAllG P wi g tt te (own.map (·.2))) := by
  refine ⟨fun pins s σ H Q I h => ?_⟩
  refine wpAny_Call_Name_kw (ld_blt I hg hm PyProof.Rows.boot_all ?_)
  refine PyProof.Rows.callWith_builtin1 ?_ he (by rfl)
  rw [he]
  show wpAny _ _ (spliced ((false, eval (.GeneratorExp elt [⟨tg, iter, ifs, 0⟩] scope gpos) X.env) :: backTo pos (starEach [] X.env))) _ _ s
  refine Calls.spliced_cons (gen_make hr TB hcode hco hdot ok hcell hi hs I h fun it fp tn J H1 H2 s3 code h' q hT hTb I3 T st3 f3 hn' hs' => ?_)
  obtain ⟨W, ⟨m0, w0⟩, turn⟩ := q H2 hTb
  refine Calls.spliced_nil ?_
  refine call_function_tree F.kind_all F.plain_all F.entry_all (F.args_all1 _) ?_
  unfold Builtin.«all»
  refine wpAny_bind (m := oneArg "all" _) (wpAny_pure ?_)
  refine wpAny_bind (wpAny_pyIter_gen isGen_obj ?_)
  have kp0 : ∀ b o, s3.heap.get? b = some o → h'.get? b = some o := fun b o e => hs'.extBut b o (Nat.ne_of_lt (Heap.lt_size e)) (Heap.get?_push_of_some _ e)
  have I5 := gex_start (go := gexObj s3 X.env.qual) (tk := s3.toks + 1 + 1 + 1) (code := code) (own := own) I3 ok hN hcell f3 (over_frames (elt := elt) (tg := tg) (iter := iter) (ifs := ifs) (gpos := gpos) (it := .ref it) (scope := scope) (show X.A.frames = some X.stack from I3.ok.frames)) hr.hd hn' hs' (fun v z => by cases z) rfl
    (I3.bare.push (g := .fresh (.compStart (.GeneratorExp elt [⟨tg, iter, ifs, 0⟩] scope gpos) 0 (.ref it) .none (genEnv scope (cloFrom X.env.cells scope.names []) s3.heap.objs.size code builtinsNs X.env))) rfl)
  have room := over_room (elt := elt) (tg := tg) (iter := iter) (ifs := ifs) (gpos := gpos) (it := .ref it) (scope := scope) (env := genEnv scope (cloFrom X.env.cells scope.names []) s3.heap.objs.size code builtinsNs X.env) hr
  have hsz : h'.objs.size = s3.heap.objs.size + 1 := by rw [hs'.1, Heap.size_push]
  have rdy := gex_ready (xp := fun _ : Unit => []) (a0 := ()) (W := W) (go := gexObj s3 X.env.qual) (vs := own.map (·.2)) hr.hd rfl hco T (pg _ _ _ _ _ _ room) (pt _ _ _ _ _ _ room) (pe _ _ _ _ _ _ room) (fun _ p hp => by cases hp) (fun _ p hp => by cases hp)
    (fun hm => absurd (f3 _ hm).2 (by rw [hsz]; exact Nat.not_lt.mpr (Nat.le_succ _))) (fun _ p hp => by cases hp) (wipe_wipe _ _) I5 (T.keep _ _ _ st3 fun b _ o e => Heap.get?_push_of_some _ (kp0 b o e)) (fun b hb => (f3 b hb).1.1) isGen_obj (Array.getElem?_push_size ..) (w0 0) turn
  refine wpAny_pure ⟨plainId_quiet F.plain_all_loop _, codeAny_all_gen (S := fun s' => ∃ H', Inv X pins σ H' s' ∧ Q (.bl false) H') hr.hd (by have := hr.dp; omega) (fun n s₀ v s' kap hy => ?_) (fun s1 s2 hS eh eo eb => ?_) (fun s₀ s1 s2 hS k eo eb => ?_) (fun s₀ s1 ⟨_, _, _, J, _⟩ => J.bare) (m0 + 1) _ rdy⟩
  · obtain ⟨al, y, σ', H', Nx, r, J', hgz, _, ⟨b, ey, hb⟩, kk⟩ := hy
    subst ey
    obtain rfl : v = Value.bool b := r
    have hp := J'.pin (h'.objs.size, gexObj s3 X.env.qual) (List.mem_append_right _ (by simp))
    refine ⟨b, rfl, hgz, ⟨_, _, _, hp.1, rfl, rfl, rfl⟩, J'.nolimit, J'.bare, ?_⟩
    cases b with
    | true => exact fun s'' eh eo eg eb => kk () s'' hb ⟨eo, eb, by rw [← eg]; exact hgz, fun b o _ e => by rw [eh]; exact e, fun p hp => (by cases hp), rfl, fun p hp => (by cases hp)⟩
    | false => exact ⟨H', gex_back I3 (fun b hb => (f3 b hb).1) J', hb⟩
  · obtain ⟨H', J', q'⟩ := hS
    exact ⟨.bl false, H', inv_calm J' (fun b o e => by rw [eh]; exact e) eo eb, rfl, q'⟩
  · obtain ⟨al, σ', H', J', q', _⟩ := hS
    exact ⟨.bl true, H', inv_calm (gex_back I3 (fun b hb => (f3 b hb).1) J') k eo eb, rfl, q'⟩
theorem pe_anyG (hr : Room (k + 1) X.A) (hN : X.N.Nodup) (TB : TabB X.base X.mg c P) (hcode : X.env.code = .ref c) (ok : BlkOk X.N X.env.scope scope own) (hm : X.mg "any" = none) (hi : PI X tg iter wi)
    (pg : ∀ s H C code fp A, Room k A → PG (gexCx X s H (genEnv scope (cloFrom X.env.cells scope.names []) C code builtinsNs X.env) fp A) tg g)
    (pt : ∀ s H C code fp A, Room k A → PTs (gexCx X s H (genEnv scope (cloFrom X.env.cells scope.names []) C code builtinsNs X.env) fp A) ifs tt)
    (pe : ∀ s H C code fp A, Room k A → PE (gexCx X s H (genEnv scope (cloFrom X.env.cells scope.names []) C code builtinsNs X.env) fp A) elt te)
    (hcell : ∀ y ∈ scope.names, y.2 ≠ .cell := by decide +kernel) (hco : scope.isCoroutine = false := by rfl) (hdot : scope.names.lookup (".0" : Str) = some NameKind.local := by rfl)
    (hg : Gl X "any" := by rfl) (hs : ∀ x, genFold iter X.env x = pure x := by intro _; rfl)
    (he : starEach [.GeneratorExp elt [⟨tg, iter, ifs, 0⟩] scope gpos] X.env = (false, eval (.GeneratorExp elt [⟨tg, iter, ifs, 0⟩] scope gpos) X.env) :: starEach [] X.env := by rfl) :
    PE X (.Call (.Name "any" p) [.GeneratorExp elt [⟨tg, iter, ifs, 0⟩] scope gpos] [] pos) (tAnyG P wi g tt te (own.map (·.2))) := by
  refine ⟨fun pins s σ H Q I h => ?_⟩
  refine wpAny_Call_Name_kw (ld_blt I hg hm PyProof.Rows.boot_any ?_)
  refine PyProof.Rows.callWith_builtin1 ?_ he (by rfl)
  rw [he]
  show wpAny _ _ (spliced ((false, eval (.GeneratorExp elt [⟨tg, iter, ifs, 0⟩] scope gpos) X.env) :: backTo pos (starEach [] X.env))) _ _ s
  refine Calls.spliced_cons (gen_make hr TB hcode hco hdot ok hcell hi hs I h fun it fp tn J H1 H2 s3 code h' q hT hTb I3 T st3 f3 hn' hs' => ?_)
  obtain ⟨W, ⟨m0, w0⟩, turn⟩ := q H2 hTb
  refine Calls.spliced_nil ?_
  refine call_function_tree F.kind_any F.plain_any F.entry_any (F.args_any1 _) ?_
  unfold Builtin.«any»
  refine wpAny_bind (m := oneArg "any" _) (wpAny_pure ?_)
  refine wpAny_bind (wpAny_pyIter_gen isGen_obj ?_)
  have kp0 : ∀ b o, s3.heap.get? b = some o → h'.get? b = some o := fun b o e => hs'.extBut b o (Nat.ne_of_lt (Heap.lt_size e)) (Heap.get?_push_of_some _ e)
  have I5 := gex_start (go := gexObj s3 X.env.qual) (tk := s3.toks + 1 + 1 + 1) (code := code) (own := own) I3 ok hN hcell f3 (over_frames (elt := elt) (tg := tg) (iter := iter) (ifs := ifs) (gpos := gpos) (it := .ref it) (scope := scope) (show X.A.frames = some X.stack from I3.ok.frames)) hr.hd hn' hs' (fun v z => by cases z) rfl
    (I3.bare.push (g := .fresh (.compStart (.GeneratorExp elt [⟨tg, iter, ifs, 0⟩] scope gpos) 0 (.ref it) .none (genEnv scope (cloFrom X.env.cells scope.names []) s3.heap.objs.size code builtinsNs X.env))) rfl)
  have room := over_room (elt := elt) (tg := tg) (iter := iter) (ifs := ifs) (gpos := gpos) (it := .ref it) (scope := scope) (env := genEnv scope (cloFrom X.env.cells scope.names []) s3.heap.objs.size code builtinsNs X.env) hr
  have hsz : h'.objs.size = s3.heap.objs.size + 1 := by rw [hs'.1, Heap.size_push]
  have rdy := gex_ready (xp := fun _ : Unit => []) (a0 := ()) (W := W) (go := gexObj s3 X.env.qual) (vs := own.map (·.2)) hr.hd rfl hco T (pg _ _ _ _ _ _ room) (pt _ _ _ _ _ _ room) (pe _ _ _ _ _ _ room) (fun _ p hp => by cases hp) (fun _ p hp => by cases hp)
    (fun hm => absurd (f3 _ hm).2 (by rw [hsz]; exact Nat.not_lt.mpr (Nat.le_succ _))) (fun _ p hp => by cases hp) (wipe_wipe _ _) I5 (T.keep _ _ _ st3 fun b _ o e => Heap.get?_push_of_some _ (kp0 b o e)) (fun b hb => (f3 b hb).1.1) isGen_obj (Array.getElem?_push_size ..) (w0 0) turn
  refine wpAny_pure ⟨plainId_quiet F.plain_any_loop _, codeAny_any_gen (S := fun s' => ∃ H', Inv X pins σ H' s' ∧ Q (.bl true) H') hr.hd (by have := hr.dp; omega) (fun n s₀ v s' kap hy => ?_) (fun s1 s2 hS eh eo eb => ?_) (fun s₀ s1 s2 hS k eo eb => ?_) (fun s₀ s1 ⟨_, _, _, J, _⟩ => J.bare) (m0 + 1) _ rdy⟩
  · obtain ⟨al, y, σ', H', Nx, r, J', hgz, _, ⟨b, ey, hb⟩, kk⟩ := hy
    subst ey
    obtain rfl : v = Value.bool b := r
    have hp := J'.pin (h'.objs.size, gexObj s3 X.env.qual) (List.mem_append_right _ (by simp))
    refine ⟨b, rfl, hgz, ⟨_, _, _, hp.1, rfl, rfl, rfl⟩, J'.nolimit, J'.bare, ?_⟩
    cases b with
    | false => exact fun s'' eh eo eg eb => kk () s'' hb ⟨eo, eb, by rw [← eg]; exact hgz, fun b o _ e => by rw [eh]; exact e, fun p hp => (by cases hp), rfl, fun p hp => (by cases hp)⟩
    | true => exact ⟨H', gex_back I3 (fun b hb => (f3 b hb).1) J', hb⟩
  · obtain ⟨H', J', q'⟩ := hS
    exact ⟨.bl true, H', inv_calm J' (fun b o e => by rw [eh]; exact e) eo eb, rfl, q'⟩
  · obtain ⟨al, σ', H', J', q', _⟩ := hS
    exact ⟨.bl false, H', inv_calm (gex_back I3 (fun b hb => (f3 b hb).1) J') k eo eb, rfl, q'⟩
theorem pe_sumG (hr : Room (k + 1) X.A) (hN : X.N.Nodup) (TB : TabB X.base X.mg c P) (hcode : X.env.code = .ref c) (ok : BlkOk X.N X.env.scope scope own) (hm : X.mg "sum" = none) (hi : PI X tg iter wi)
    (pg : ∀ s H C code fp A, Room k A → PG (gexCx X s H (genEnv scope (cloFrom X.env.cells scope.names []) C code builtinsNs X.env) fp A) tg g)
    (pt : ∀ s H C code fp A, Room k A → PTs (gexCx X s H (genEnv scope (cloFrom X.env.cells scope.names []) C code builtinsNs X.env) fp A) ifs tt)
    (pe : ∀ s H C code fp A, Room k A → PE (gexCx X s H (genEnv scope (cloFrom X.env.cells scope.names []) C code builtinsNs X.env) fp A) elt te)
    (hcell : ∀ y ∈ scope.names, y.2 ≠ .cell := by decide +kernel) (hco : scope.isCoroutine = false := by rfl) (hdot : scope.names.lookup (".0" : Str) = some NameKind.local := by rfl)
    (hg : Gl X "sum" := by rfl) (hs : ∀ x, genFold iter X.env x = pure x := by intro _; rfl)
    (he : starEach [.GeneratorExp elt [⟨tg, iter, ifs, 0⟩] scope gpos] X.env = (false, eval (.GeneratorExp elt [⟨tg, iter, ifs, 0⟩] scope gpos) X.env) :: starEach [] X.env := by rfl) :
    PE X (.Call (.Name "sum" p) [.GeneratorExp elt [⟨tg, iter, ifs, 0⟩] scope gpos] [] pos) (tSumG P wi g tt te (own.map (·.2))) := by
  refine ⟨fun pins s σ H Q I h => ?_⟩
  refine wpAny_Call_Name_kw (ld_blt I hg hm PyProof.Rows.boot_sum ?_)
  refine PyProof.Rows.callWith_builtin1 ?_ he (by rfl)
  rw [he]
  show wpAny _ _ (spliced ((false, eval (.GeneratorExp elt [⟨tg, iter, ifs, 0⟩] scope gpos) X.env) :: backTo pos (starEach [] X.env))) _ _ s
  refine Calls.spliced_cons (gen_make hr TB hcode hco hdot ok hcell hi hs I h fun it fp tn J H1 H2 s3 code h' q hT hTb I3 T st3 f3 hn' hs' => ?_)
  obtain ⟨W, ⟨m0, w0⟩, turn⟩ := q H2 hTb
  refine Calls.spliced_nil ?_
  refine call_function_tree F.kind_sum F.plain_sum F.entry_sum (F.args_sum1 _) ?_
  unfold Builtin.«sum»
  simp only [List.length_cons, List.length_nil]
  rw [if_neg (by decide)]
  refine wpAny_bind (wpAny_of_eq (show Builtin.Builtins.bindParams "sum" ["start"] 0 { } = pure [none] from rfl) ?_)
  refine wpAny_bind (wpAny_pyIter_gen isGen_obj ?_)
  refine wpAny_bind (wpAny_mkInt ?_)
  refine wpAny_bind (wpAny_pure ?_)
  simp only [List.forIn_cons, List.forIn_nil]
  refine wpAny_bind (wpAny_bind (wpAny_bind (wpAny_isInstance (T := "int") (b := false) (typeIs_int _ _ _) PySem.sub_int_str ?_)))
  simp only [Bool.false_eq_true, if_false]
  refine wpAny_pure (wpAny_bind (wpAny_bind (wpAny_isInstance (T := "int") (b := false) (typeIs_int _ _ _) PySem.sub_int_bytes ?_)))
  simp only [Bool.false_eq_true, if_false]
  refine wpAny_pure (wpAny_bind (wpAny_bind (wpAny_isInstance (T := "int") (b := false) (typeIs_int _ _ _) PySem.sub_int_bytearray ?_)))
  simp only [Bool.false_eq_true, if_false]
  refine wpAny_pure (wpAny_pure ?_)
  refine wpAny_bind (wpAny_newObj_type ?_)
  have kp0 : ∀ b o, s3.heap.get? b = some o → h'.get? b = some o := fun b o e => hs'.extBut b o (Nat.ne_of_lt (Heap.lt_size e)) (Heap.get?_push_of_some _ e)
  have I5 := gex_start (go := gexObj s3 X.env.qual) (tk := s3.toks + 1 + 1 + 1) (code := code) (own := own) I3 ok hN hcell f3 (over_frames (elt := elt) (tg := tg) (iter := iter) (ifs := ifs) (gpos := gpos) (it := .ref it) (scope := scope) (show X.A.frames = some X.stack from I3.ok.frames)) hr.hd hn' hs' (fun v z => by cases z) rfl
    (I3.bare.push (g := .fresh (.compStart (.GeneratorExp elt [⟨tg, iter, ifs, 0⟩] scope gpos) 0 (.ref it) .none (genEnv scope (cloFrom X.env.cells scope.names []) s3.heap.objs.size code builtinsNs X.env))) rfl)
  have room := over_room (elt := elt) (tg := tg) (iter := iter) (ifs := ifs) (gpos := gpos) (it := .ref it) (scope := scope) (env := genEnv scope (cloFrom X.env.cells scope.names []) s3.heap.objs.size code builtinsNs X.env) hr
  have hsz : h'.objs.size = s3.heap.objs.size + 1 := by rw [hs'.1, Heap.size_push]
  generalize hhp : h'.push (gexObj s3 X.env.qual) = hp at I5 ⊢
  have hpsz : hp.objs.size = s3.heap.objs.size + 2 := by rw [← hhp, Heap.size_push, hsz]
  have kp1 : ∀ b o, s3.heap.get? b = some o → hp.get? b = some o := fun b o e => by rw [← hhp]; exact Heap.get?_push_of_some _ (kp0 b o e)
  have hig0 : hp.IsGen h'.objs.size s3.gens.size := by rw [← hhp]; exact isGen_obj
  -- the sum's own list
  have nS : hp.objs.size ≠ s3.heap.objs.size + 1 := by rw [hpsz]; exact Nat.succ_ne_self _
  have eS : (hp.push ({ cls := .type "list", data := .seq #[Value.int 0 (s3.toks + 1 + 1 + 1)] } : Obj)).get? hp.objs.size = some (sumObj 0 (s3.toks + 1 + 1 + 1) 0) := Heap.get?_push_size _ rfl
  have kp2 : ∀ b o, hp.get? b = some o → (hp.push ({ cls := .type "list", data := .seq #[Value.int 0 (s3.toks + 1 + 1 + 1)] } : Obj)).get? b = some o := fun b o e => Heap.get?_push_of_some _ e
  have I6 := inv_calm (s2 := { s3 with heap := hp.push ({ cls := .type "list", data := .seq #[Value.int 0 (s3.toks + 1 + 1 + 1)] } : Obj), gens := s3.gens.push (.fresh (.compStart (.GeneratorExp elt [⟨tg, iter, ifs, 0⟩] scope gpos) 0 (.ref it) .none (genEnv scope (cloFrom X.env.cells scope.names []) s3.heap.objs.size code builtinsNs X.env))), toks := s3.toks + 1 + 1 + 1 + 1 }) I5 kp2 rfl I5.bare
  have I7 := I6.pins_of (pins' := [(h'.objs.size, gexObj s3 X.env.qual)] ++ [(hp.objs.size, sumObj 0 (s3.toks + 1 + 1 + 1) 0)]) fun p hp' => by
    rcases List.mem_append.mp hp' with hp' | hp'
    · exact I6.pin p (List.mem_append_right _ hp')
    · obtain rfl := List.mem_singleton.mp hp'
      refine ⟨eS, I3.hok.fresh (by rw [hpsz]; exact Nat.le_add_right _ _), ?_, ?_, fun v z => by cases z⟩
      · show hp.objs.size ≠ s3.heap.objs.size
        rw [hpsz]
        exact Nat.ne_of_gt (Nat.lt_add_of_pos_right (by decide))
      · intro z
        have z : hp.objs.size ∈ frs X.stack := z
        rcases List.mem_cons.mp (I3.stkSub _ z) with z | z
        · have q := I3.lt
          rw [← z, hpsz] at q
          exact absurd q (Nat.not_lt.mpr (Nat.le_add_right _ _))
        · exact I3.nofs (by rw [hpsz]; exact Nat.le_add_right _ _) z
  have rdy := gex_ready (α := Int × Tok × Nat) (xp := fun al => [(hp.objs.size, sumObj al.1 al.2.1 al.2.2)]) (a0 := (0, s3.toks + 1 + 1 + 1, 0)) (W := W) (Fn := fun al H' => Q (.int al.1) H')
    (Cs := fun al y H4 Nx => ∃ j, y = .int j ∧ ∀ tk c, Nx (al.1 + j, tk, c) H4) (go := gexObj s3 X.env.qual) (vs := own.map (·.2)) hr.hd rfl hco T (pg _ _ _ _ _ _ room) (pt _ _ _ _ _ _ room) (pe _ _ _ _ _ _ room)
    (fun _ p hp' => by
      obtain rfl := List.mem_singleton.mp hp'
      show _ ≤ hp.objs.size
      rw [hpsz]
      exact Nat.le_add_right _ _)
    (fun _ p hp' => by
      obtain rfl := List.mem_singleton.mp hp'
      show hp.objs.size ≠ h'.objs.size
      rw [hsz]
      exact nS)
    (fun hm => absurd (f3 _ hm).2 (by rw [hsz]; exact Nat.not_lt.mpr (Nat.le_succ _)))
    (fun _ p hp' hm => by
      obtain rfl := List.mem_singleton.mp hp'
      have q := (f3 _ hm).2
      have q2 : hp.objs.size < s3.heap.objs.size := q
      rw [hpsz] at q2
      exact absurd q2 (Nat.not_lt.mpr (Nat.le_add_right _ _)))
    (wipe_wipe _ _) I7 (T.keep _ _ _ st3 fun b _ o e => kp2 b o (kp1 b o e)) (fun b hb => (f3 b hb).1.1) (let ⟨o, nm, qn, ho, r⟩ := hig0; ⟨o, nm, qn, kp2 _ o ho, r⟩) (Array.getElem?_push_size ..) (w0 _) turn
  refine wpAny_pure ⟨plainId_quiet F.plain_sum_loop _, codeAny_sum_gen (S := hp.objs.size) hr.hd (by have := hr.dp; omega) (fun n s₀ v s' kap hy => ?_) (fun s₀ s1 s2 i t hS h0 k eo eb => ?_) (fun s₀ s1 ⟨_, _, _, J, _⟩ => J.bare) (m0 + 1) _ 0 _ _ 0 (.inl rfl) eS rdy⟩
  · obtain ⟨al, y, σ', H', Nx, r, J', hgz, h0, ⟨j, ey, hb⟩, kk⟩ := hy
    subst ey
    obtain ⟨tj, rfl⟩ := r
    have hpA := (J'.pin (h'.objs.size, gexObj s3 X.env.qual) (List.mem_append_right _ (by simp))).1
    have hpS := (J'.pin (hp.objs.size, sumObj al.1 al.2.1 al.2.2) (List.mem_append_right _ (by simp))).1
    refine ⟨j, tj, al.1, al.2.1, al.2.2, rfl, h0 (hp.objs.size, sumObj al.1 al.2.1 al.2.2) (by simp), hpS, hgz, fun h2 hk => ⟨⟨_, _, _, hk _ _ (by rw [hsz]; exact Ne.symm nS) hpA, rfl, rfl, rfl⟩, ?_⟩, J'.bare, fun s'' hk ⟨tk, c', hS2⟩ eo eg eb => ?_⟩
    · refine J'.ok.mod.nolimit.keeps fun b o e => hk b o (fun z => ?_) (J'.bk b o e)
      have q := Nat.lt_of_lt_of_le (Heap.lt_size e) (Nat.le_trans I3.ok.bsz I3.sz)
      rw [z, hpsz] at q
      exact absurd q (Nat.not_lt.mpr (Nat.le_add_right _ _))
    · refine kk (al.1 + j, tk, c') s'' (hb tk c') ⟨eo, eb, by rw [← eg]; exact hgz, fun b o hb e => hk b o (fun z => hb (by rw [z]; simp)) e, fun p hp' => ?_, rfl, fun p hp' => ?_⟩
      · obtain rfl := List.mem_singleton.mp hp'
        exact hS2
      · obtain rfl := List.mem_singleton.mp hp'
        exact fun v z => by cases z
  · obtain ⟨al, σ', H', J', q', _, h1⟩ := hS
    obtain ⟨tk, c', h2⟩ := h0
    have h1' := h1 (hp.objs.size, sumObj al.1 al.2.1 al.2.2) (by simp)
    have h1'' : s₀.heap.get? hp.objs.size = some (sumObj al.1 al.2.1 al.2.2) := h1'
    rw [h2] at h1''
    have ei : i = al.1 := by
      have z := congrArg Obj.data (Option.some.inj h1'')
      have z2 : (Data.seq #[Value.int i tk] c') = Data.seq #[Value.int al.1 al.2.1] al.2.2 := z
      injection z2 with z3 _
      have z4 := congrArg Array.toList z3
      simp at z4
      exact z4.1
    rw [ei]
    exact ⟨.int al.1, H', inv_calm (gex_back I3 (fun b hb => (f3 b hb).1) J') k eo eb, ⟨t, rfl⟩, q'⟩
end
end
end Gx
set_option Elab.async false
set_option linter.all false
set_option maxRecDepth 100000
set_option maxHeartbeats 2000000
/-! {k: v for .. in .. for .. in ..} -/
namespace Gx
open PySem PySem.Spec PyProof.Rows L2

abbrev dc2 (kx vx t0 i0 t1 i1 : Expr) (ifs0 ifs1 : List Expr) (scope : Scope) (pos : Pos) : Expr := .DictComp kx vx [⟨t0, i0, ifs0, 0⟩, ⟨t1, i1, ifs1, 0⟩] scope pos
section
variable {kx vx t0 i0 t1 i1 : Expr} {ifs0 ifs1 : List Expr} {scope : Scope} {pos : Pos}
theorem inner_in {X : Cx} {pins : List (Addr × Obj)} {σ : L2.St} {H : Hp} {s : Shared} {D it : Addr} {fp : List Addr} {tn : Nat → Heap → Prop} {J : It} {g : TG} {tt : TT} {tk tv : TE} {vs1 : List Nat} {W : Nat → Nat → Hp → Prop} {m0 : Nat} {Z : L2.St → Hp → Prop}
    (hcalm : X.calm = true) (hxe : X.xe = fun _ _ => False) (T : Turn X.prog X.w X.K t1 J fp it tn) (pg : PG X t1 g) (pt : PTs X ifs1 tt) (pk : PE X kx tk) (pv : PE X vx tv)
    (I : Inv X pins σ H s) (st : tn 0 s.heap) (hf : ∀ b ∈ fp, FpOk X pins H b) (w0 : W 0 m0 H)
    (turn : ∀ i m H, W i m H → (J.stop i H ∧ Z (wipe σ vs1) H) ∨ (J.go i H ∧ ∃ Nx : Hp → Prop, (∀ H', Nx H' → ∃ m', m' < m ∧ W (i + 1) m' H') ∧ ∀ x H', J.yld i H x H' → g x (wipe σ vs1) H' fun σ3 H5 => wipe σ3 vs1 = wipe σ vs1 ∧ tt σ3 H5 fun b H6 =>
      if b = true then tk σ3 H6 fun y H7 => tv σ3 H7 fun z H8 => ∃ kvs k, y = kV k ∧ H8 D = some (.dK kvs) ∧ kvs.length < sizeLine ∧ Nx (upd H8 D (.dK (putK kvs k z))) else Nx H6)) :
    codeAny (model X.prog X.w) X.A (.compLoop (dc2 kx vx t0 i0 t1 i1 ifs0 ifs1 scope pos) 1 (.ref it) (.ref D) X.env)
      (fun r s' => match r with | .ok _ => ∃ σ' H', Inv X pins σ' H' s' ∧ Z σ' H' | .error _ => False) s := by
  refine codeAny_loop rfl (fun n s' => ∃ i H', Inv X pins (wipe σ vs1) H' s' ∧ tn i s'.heap ∧ (∀ b ∈ fp, H' b = none) ∧ W i n H') ?_ m0 ⟨0, H, I.weak (wipe_length _ _) (fun j v e => (wipe_some e).1), st, fun b hb => (hf b hb).1, w0⟩
  rintro n s5 ⟨i, H5, I5, st5, n5, w5⟩
  have stat : ∀ {H' : Hp}, (∀ b ∈ fp, H' b = none) → ∀ b ∈ fp, FpOk X pins H' b := fun hn b hb => ⟨hn b hb, (hf b hb).2⟩
  show wpAny _ X.A ((compTurn (dc2 kx vx t0 i0 t1 i1 ifs0 ifs1 scope pos) 1 (.ref it) (.ref D) X.env).onRaise (fun x => do noteFrame x X.env; theTreesLotGoes x)) _ _ s5
  refine wpAny_noted ?_
  dsimp only [compTurn, dc2]
  refine wpAny_bind (wpAny_standAt (wpAny_bind ?_))
  rcases turn i n H5 w5 with ⟨stop, qq⟩ | ⟨go, Nx, hNx, step⟩
  · refine thnF (T.done X rfl rfl rfl hcalm i _ s5 _ H5 (fun _ _ => False) I5 (stat n5) st5 stop) fun r s6 ⟨hr, I6⟩ => ?_
    subst hr
    exact wpAny_pure ⟨_, H5, I6, qq⟩
  · refine thnF (T.item X rfl rfl rfl hcalm i _ s5 _ H5 (fun _ _ => False) I5 (stat n5) st5 go) fun r s6 ⟨u, hr, h6⟩ => ?_
    subst hr
    refine wpAny_bind (thnF h6 fun _ s7 ⟨x, H7, I7, r7, y7, st7, n7⟩ => ?_)
    have I7' := I7.pinned (stat n7) (T.obj _ _ st7)
    have pgr := pg.run _ s7 _ H7 x u _ I7' r7 (step x H7 y7)
    rw [hxe] at pgr
    refine wpAny_bind (thnF pgr fun _ s8 ⟨σ8, H8, I8, hw8, q8⟩ => ?_)
    have ptr := pt.run _ s8 σ8 H8 _ I8 q8
    rw [hxe] at ptr
    refine wpAny_bind (thnF ptr fun b s9 ⟨H9, I9, q9⟩ => ?_)
    have fin : ∀ {s' : Shared} {H' : Hp}, Inv X (pins ++ pinsAt fp s7.heap) σ8 H' s' → Nx H' → ∃ m, m < n ∧ ∃ i H', Inv X pins (wipe σ vs1) H' s' ∧ tn i s'.heap ∧ (∀ b ∈ fp, H' b = none) ∧ W i m H' := fun {s' H'} I' nx => by
      obtain ⟨m', hm, w'⟩ := hNx H' nx
      have pin' : ∀ b ∈ fp, ∀ o, s7.heap.get? b = some o → s'.heap.get? b = some o ∧ H' b = none := fun b hb o e =>
        let z := I'.pin (b, o) (List.mem_append_right _ (List.mem_append_right _ (mem_pinsAt hb e)))
        ⟨z.1, z.2.1⟩
      have hl : (wipe σ vs1).length = σ8.length := by rw [← hw8, wipe_length]
      refine ⟨m', hm, i + 1, H', (I'.pins_of fun p hp => I'.pin p (List.mem_append_right _ (List.mem_append_left _ hp))).weak hl (fun j v e => ?_), T.keep _ _ _ st7 fun b hb o e => (pin' b hb o e).1, fun b hb => ?_, w'⟩
      · rw [← hw8] at e
        exact (wipe_some e).1
      · obtain ⟨o, e, _⟩ := T.obj _ _ st7 b hb
        exact (pin' b hb o e).2
    cases b with
    | false =>
      simp only [Bool.false_eq_true, if_false] at q9
      exact wpAny_pure ⟨rfl, fin I9 q9⟩
    | true =>
      simp only [if_true] at q9
      have pkr := pk.run _ s9 σ8 H9 _ I9 q9
      rw [hxe] at pkr
      refine wpAny_bind (wpAny_bind (thnF pkr fun kv s10 ⟨ky, H10, I10, r10, q10⟩ => ?_))
      have pvr := pv.run _ s10 σ8 H10 _ I10 q10
      rw [hxe] at pvr
      refine wpAny_bind (wpAny_holding (thnF pvr fun vv s11 ⟨vy, H11, I11, r11, kvs, k, ek, hD, hz, nx⟩ => ?_))
      subst ek
      refine wpAny_bind (wpAny_standAt ?_)
      refine wpAny_holding (d_dictSet I11 hD hz r10 r11 fun s12 I12 => ?_)
      exact wpAny_pure ⟨rfl, fin I12 nx⟩

/-- a clause's start -/
theorem startD {prog : Program} {w : World} {A : Around} {R : Result → Shared → Prop} {s : Shared} {it : Addr} {D : Addr} {env : Env} {d : Nat} (hd : d = 0 ∨ d = 1) (hself : ∀ (A : Around) (Q : Value → Shared → Prop) (E : Value → Shared → Prop), Q (.ref it) s → wpAny (model prog w) A (pyIter (.ref it)) Q E s)
    (h : codeAny (model prog w) A (.compLoop (dc2 kx vx t0 i0 t1 i1 ifs0 ifs1 scope pos) d (.ref it) (.ref D) env) R s) : codeAny (model prog w) A (.compStart (dc2 kx vx t0 i0 t1 i1 ifs0 ifs1 scope pos) d (.ref it) (.ref D) env) R s := by
  refine codeAny_of_tree ?_
  show wpAny _ _ ((compStart (dc2 kx vx t0 i0 t1 i1 ifs0 ifs1 scope pos) d (.ref it) (.ref D) env).onRaise (fun x => do noteFrame x env; standAt theWindowsPlace)) _ _ s
  refine wpAny_notedAt ?_
  unfold compStart
  rcases hd with rfl | rfl
  · show wpAny _ _ (ask >>= _) _ _ s
    refine wpAny_bind (wpAny_askSetting (wpAny_ite ?_))
    split
    · exact wpAny_bind (wpAny_pure (wpAny_pure (And.intro rfl h)))
    · refine wpAny_bind (wpAny_rule ?_)
      show wpAny _ _ (standAt i0.pos >>= _) _ _ s
      exact wpAny_bind (wpAny_standAt (wpAny_bind (hself _ _ _ (wpAny_pure (And.intro rfl h)))))
  · show wpAny _ _ (ask >>= _) _ _ s
    refine wpAny_bind (wpAny_askSetting (wpAny_ite ?_))
    split
    · exact wpAny_bind (wpAny_pure (wpAny_pure (And.intro rfl h)))
    · refine wpAny_bind (wpAny_rule ?_)
      show wpAny _ _ (standAt i1.pos >>= _) _ _ s
      exact wpAny_bind (wpAny_standAt (wpAny_bind (hself _ _ _ (wpAny_pure (And.intro rfl h)))))

/-- {k: v for t0 in i0 if .. for t1 in i1 if ..}, keys ints or texts -/
def tDc2 (wi : TI) (g : TG) (tt : TT) (wi1 : TI) (g1 : TG) (tt1 : TT) (tk tv : TE) (vs vs1 : List Nat) : TE := fun σ H Q => wi σ H fun J H1 => ∀ D, H1 D = none → ∃ W : Nat → Nat → Hp → Prop, (∃ m, W 0 m (upd H1 D (.dK []))) ∧ ∀ i m H, W i m H →
  (J.stop i H ∧ Q (.ref D) H) ∨ (J.go i H ∧ ∃ Nx : Hp → Prop, (∀ H', Nx H' → ∃ m', m' < m ∧ W (i + 1) m' H') ∧ ∀ x H', J.yld i H x H' → g x (wipe σ vs) H' fun σ2 H2 => wipe σ2 vs = wipe σ vs ∧ tt σ2 H2 fun b H3 =>
    if b = true then wi1 σ2 H3 fun J1 H4 => ∃ W1 : Nat → Nat → Hp → Prop, (∃ m, W1 0 m H4) ∧ ∀ j k H, W1 j k H →
      (J1.stop j H ∧ Nx H) ∨ (J1.go j H ∧ ∃ Nx1 : Hp → Prop, (∀ H', Nx1 H' → ∃ k', k' < k ∧ W1 (j + 1) k' H') ∧ ∀ x H', J1.yld j H x H' → g1 x (wipe σ2 vs1) H' fun σ3 H5 => wipe σ3 vs1 = wipe σ2 vs1 ∧ tt1 σ3 H5 fun b H6 =>
        if b = true then tk σ3 H6 fun y H7 => tv σ3 H7 fun z H8 => ∃ kvs k, y = kV k ∧ H8 D = some (.dK kvs) ∧ kvs.length < sizeLine ∧ Nx1 (upd H8 D (.dK (putK kvs k z))) else Nx1 H6)
    else Nx H3)

theorem outer_in {X : Cx} {σ0 : L2.St} {H : Hp} {s : Shared} {D it : Addr} {fp : List Addr} {tn : Nat → Heap → Prop} {J : It} {wi1 : TI} {g g1 : TG} {tt tt1 : TT} {tk tv : TE} {vs vs1 : List Nat} {W : Nat → Nat → Hp → Prop} {m0 : Nat} {Z : Hp → Prop}
    (hcalm : X.calm = true) (hxe : X.xe = fun _ _ => False) (hfx : X.ex = fp) (hpn : X.pn = []) (T : Turn X.prog X.w X.K t0 J fp it tn) (pg : PG X t0 g) (pt : PTs X ifs0 tt) (pi1 : PI X t1 i1 wi1) (pg1 : PG X t1 g1) (pt1 : PTs X ifs1 tt1) (pk : PE X kx tk) (pv : PE X vx tv)
    (hs1 : ∀ env x, foldedSetIterable i1 env x = pure x) (hv : ∀ i ∈ vs1, i ∈ vs) (hw0 : wipe σ0 vs = σ0)
    (I : Inv X [] σ0 H s) (st : tn 0 s.heap) (hn : ∀ b ∈ fp, H b = none) (w0 : W 0 m0 H)
    (turn : ∀ i m H, W i m H → (J.stop i H ∧ Z H) ∨ (J.go i H ∧ ∃ Nx : Hp → Prop, (∀ H', Nx H' → ∃ m', m' < m ∧ W (i + 1) m' H') ∧ ∀ x H', J.yld i H x H' → g x σ0 H' fun σ2 H2 => wipe σ2 vs = σ0 ∧ tt σ2 H2 fun b H3 =>
      if b = true then wi1 σ2 H3 fun J1 H4 => ∃ W1 : Nat → Nat → Hp → Prop, (∃ m, W1 0 m H4) ∧ ∀ j k H, W1 j k H →
        (J1.stop j H ∧ Nx H) ∨ (J1.go j H ∧ ∃ Nx1 : Hp → Prop, (∀ H', Nx1 H' → ∃ k', k' < k ∧ W1 (j + 1) k' H') ∧ ∀ x H', J1.yld j H x H' → g1 x (wipe σ2 vs1) H' fun σ3 H5 => wipe σ3 vs1 = wipe σ2 vs1 ∧ tt1 σ3 H5 fun b H6 =>
          if b = true then tk σ3 H6 fun y H7 => tv σ3 H7 fun z H8 => ∃ kvs k, y = kV k ∧ H8 D = some (.dK kvs) ∧ kvs.length < sizeLine ∧ Nx1 (upd H8 D (.dK (putK kvs k z))) else Nx1 H6)
      else Nx H3)) :
    codeAny (model X.prog X.w) X.A (.compLoop (dc2 kx vx t0 i0 t1 i1 ifs0 ifs1 scope pos) 0 (.ref it) (.ref D) X.env)
      (fun r s' => match r with | .ok f => f = .next ∧ ∃ H', Inv X [] σ0 H' s' ∧ Z H' | .error _ => False) s := by
  have stat : ∀ {σ' : L2.St} {H' : Hp} {s' : Shared}, Inv X [] σ' H' s' → (∀ b ∈ fp, H' b = none) → ∀ b ∈ fp, FpOk X [] H' b := fun {σ' H' s'} I' hn b hb => by
    have hb' : b ∈ X.ex := by rw [hfx]; exact hb
    refine ⟨hn b hb, (I'.ok.exf b hb').1, I'.ok.exfs b hb', .inl hb', fun x c e => (I'.ok.exf b hb').2 x c e, fun p hp => ?_⟩
    rw [hpn] at hp
    exact absurd hp (by simp)
  refine codeAny_loop rfl (fun n s' => ∃ i H', Inv X [] σ0 H' s' ∧ tn i s'.heap ∧ (∀ b ∈ fp, H' b = none) ∧ W i n H') ?_ m0 ⟨0, H, I, st, hn, w0⟩
  rintro n s5 ⟨i, H5, I5, st5, n5, w5⟩
  show wpAny _ X.A ((compTurn (dc2 kx vx t0 i0 t1 i1 ifs0 ifs1 scope pos) 0 (.ref it) (.ref D) X.env).onRaise (fun x => do noteFrame x X.env; theTreesLotGoes x)) _ _ s5
  refine wpAny_noted ?_
  dsimp only [compTurn, dc2]
  refine wpAny_bind (wpAny_standAt (wpAny_bind ?_))
  rcases turn i n H5 w5 with ⟨stop, qq⟩ | ⟨go, Nx, hNx, step⟩
  · refine thnF (T.done X rfl rfl rfl hcalm i _ s5 _ H5 (fun _ _ => False) I5 (stat I5 n5) st5 stop) fun r s6 ⟨hr, I6⟩ => ?_
    subst hr
    exact wpAny_pure ⟨rfl, H5, I6, qq⟩
  · refine thnF (T.item X rfl rfl rfl hcalm i _ s5 _ H5 (fun _ _ => False) I5 (stat I5 n5) st5 go) fun r s6 ⟨u, hr, h6⟩ => ?_
    subst hr
    refine wpAny_bind (thnF h6 fun _ s7 ⟨x, H7, I7, r7, y7, st7, n7⟩ => ?_)
    have I7' := I7.pinned (stat I7 n7) (T.obj _ _ st7)
    have pgr := pg.run _ s7 _ H7 x u _ I7' r7 (step x H7 y7)
    rw [hxe] at pgr
    refine wpAny_bind (thnF pgr fun _ s8 ⟨σ8, H8, I8, hw8, q8⟩ => ?_)
    have ptr := pt.run _ s8 σ8 H8 _ I8 q8
    rw [hxe] at ptr
    refine wpAny_bind (thnF ptr fun b s9 ⟨H9, I9, q9⟩ => ?_)
    have hl8 : σ0.length = σ8.length := by rw [← hw8, wipe_length]
    have fin : ∀ {σ9 : L2.St} {s' : Shared} {H' : Hp}, Inv X ([] ++ pinsAt fp s7.heap) σ9 H' s' → σ0.length = σ9.length → (∀ (j : Nat) v, σ0[j]? = some (some v) → σ9[j]? = some (some v)) → Nx H' →
        ∃ m, m < n ∧ ∃ i H', Inv X [] σ0 H' s' ∧ tn i s'.heap ∧ (∀ b ∈ fp, H' b = none) ∧ W i m H' := fun {σ9 s' H'} I' hl hk nx => by
      obtain ⟨m', hm, w'⟩ := hNx H' nx
      have pin' : ∀ b ∈ fp, ∀ o, s7.heap.get? b = some o → s'.heap.get? b = some o ∧ H' b = none := fun b hb o e =>
        let z := I'.pin (b, o) (List.mem_append_right _ (List.mem_append_right _ (mem_pinsAt hb e)))
        ⟨z.1, z.2.1⟩
      refine ⟨m', hm, i + 1, H', (I'.pins_of fun p hp => absurd hp (by simp)).weak hl hk, T.keep _ _ _ st7 fun b hb o e => (pin' b hb o e).1, fun b hb => ?_, w'⟩
      obtain ⟨o, e, _⟩ := T.obj _ _ st7 b hb
      exact (pin' b hb o e).2
    have hk8 : ∀ (j : Nat) v, σ0[j]? = some (some v) → σ8[j]? = some (some v) := fun j v e => by
      rw [← hw8] at e
      exact (wipe_some e).1
    cases b with
    | false =>
      simp only [Bool.false_eq_true, if_false] at q9
      exact wpAny_pure ⟨rfl, fin I9 hl8 hk8 q9⟩
    | true =>
      simp only [if_true] at q9
      have pir := pi1.run _ s9 σ8 H9 _ I9 q9
      rw [hxe] at pir
      refine wpAny_bind (thnF pir fun xv s10 hx => ?_)
      refine wpAny_bind (wpAny_standAt (wpAny_bind (wpAny_of_eq (hs1 X.env xv) (wpAny_bind (wpAny_holding (thnF hx fun itv s11 h11 => ?_))))))
      obtain ⟨it1, fp1, tn1, J1, H11, e1, I11, T1, st11, f11, W1, ⟨m1, w1⟩, turn1⟩ := h11
      subst e1
      refine wpAny_bind (wpAny_runOwn ?_)
      rw [Around.mark_none]
      have loop1 := inner_in (kx := kx) (vx := vx) (t0 := t0) (i0 := i0) (t1 := t1) (i1 := i1) (ifs0 := ifs0) (ifs1 := ifs1) (scope := scope) (pos := pos) (D := D) (Z := fun σ' H' => σ' = wipe σ8 vs1 ∧ Nx H') hcalm hxe T1 pg1 pt1 pk pv I11 st11 f11 w1 (fun j k H' w' => by
        rcases turn1 j k H' w' with ⟨a1, a2⟩ | a1
        · exact .inl ⟨a1, rfl, a2⟩
        · exact .inr a1)
      refine codeAny_mono (startD (.inr rfl) (fun A Q E hq => T1.self A 0 _ _ _ st11 hq) loop1) fun r s' hr => ?_
      cases r with
      | error e => exact hr.elim
      | ok f =>
        obtain ⟨σ', H', I', e', nx⟩ := hr
        refine wpAny_pure ⟨rfl, fin I' (by rw [e', wipe_length]; exact hl8) (fun j v e => ?_) nx⟩
        rw [e', wipe_at]
        have q := hk8 j v e
        rw [if_neg (fun z => ?_)]
        · exact q
        · rw [← hw0] at e
          exact (wipe_some e).2 (hv j z.1)

theorem pe_dc2 {X : Cx} {own : List (Str × Nat)} {vs1 : List Nat} {wi wi1 : TI} {g g1 : TG} {tt tt1 : TT} {tk tv : TE} (hc : X.calm = true) (hN : X.N.Nodup) (hi : PI X t0 i0 wi) (ok : BlkOk X.N X.env.scope scope own) (hv : ∀ i ∈ vs1, i ∈ own.map (·.2))
    (hg : ∀ s H C cl fp, PG (X.blk s H scope (compEnvC scope cl C X.env) fp) t0 g) (ht : ∀ s H C cl fp, PTs (X.blk s H scope (compEnvC scope cl C X.env) fp) ifs0 tt)
    (hi1 : ∀ s H C cl fp, PI (X.blk s H scope (compEnvC scope cl C X.env) fp) t1 i1 wi1)
    (hg1 : ∀ s H C cl fp, PG (X.blk s H scope (compEnvC scope cl C X.env) fp) t1 g1) (ht1 : ∀ s H C cl fp, PTs (X.blk s H scope (compEnvC scope cl C X.env) fp) ifs1 tt1)
    (hk : ∀ s H C cl fp, PE (X.blk s H scope (compEnvC scope cl C X.env) fp) kx tk) (hw : ∀ s H C cl fp, PE (X.blk s H scope (compEnvC scope cl C X.env) fp) vx tv)
    (hs : ∀ x, foldedSetIterable i0 X.env x = pure x := by intro _; rfl) (hs1 : ∀ env x, foldedSetIterable i1 env x = pure x := by intro _ _; rfl) :
    PE X (dc2 kx vx t0 i0 t1 i1 ifs0 ifs1 scope pos) (tDc2 wi g tt wi1 g1 tt1 tk tv (own.map (·.2)) vs1) := by
  refine ⟨fun pins s σ H Q I h => ?_⟩
  rw [arm_eval_DictComp]
  have hfree : ∀ y ∈ scope.names, y.2 = .free → ∃ c, X.env.cells.lookup y.1 = some c := fun y hy e => by
    rcases ok.free y hy e with k | k
    · exact I.ok.has _ (.inl k)
    · exact I.ok.has _ (.inr k)
  refine wpAny_comprehension_free (use := none) rfl hs (closure_ok hfree) ok.kind (fun y hy e => by rw [ok.uniq y hy, e])
    (thn (hi.run pins s σ H _ I h) fun xv s1 hx => thn hx fun itv s2 h2 => ?_)
  obtain ⟨it, fp, tn, J, H2, e, I2, T, st2, f2, q⟩ := h2
  subst e
  refine wpAny_newObj_type (newEnv_comp ?_)
  generalize hD : s2.heap.objs.size = D
  have hDn : H2 D = none := I2.hok.fresh (Nat.le_of_eq hD)
  obtain ⟨W, ⟨m0, w0⟩, turn⟩ := q D hDn
  generalize hs3 : ({ s2 with heap := s2.heap.push { cls := .type "dict", data := .dict #[] } } : Shared) = s3
  have I3 : Inv X pins σ (upd H2 D (.dK [])) s3 := by
    rw [← hs3]
    refine I2.laid (t' := s2.toks) (fun b o e => Heap.get?_push_of_some _ e) (Nat.le_of_eq hD) ?_
    rw [← hD]
    exact dk_empty s2.heap I2.big
  have h3 : s3.heap = s2.heap.push { cls := .type "dict", data := .dict #[] } := by rw [← hs3]
  have f3 : ∀ b ∈ fp, FpOk X pins (upd H2 D (.dK [])) b ∧ b < s3.heap.objs.size := fun b hb => by
    obtain ⟨o, e, _⟩ := T.obj _ _ st2 b hb
    have hlt : b < s2.heap.objs.size := Heap.lt_size e
    refine ⟨⟨?_, (f2 b hb).2⟩, by rw [h3, Heap.size_push]; exact Nat.lt_succ_of_lt hlt⟩
    rw [upd_ne (by rw [← hD]; exact Nat.ne_of_lt hlt)]
    exact (f2 b hb).1
  have st3 : tn 0 s3.heap := T.keep _ _ _ st2 fun b _ o e => by rw [h3]; exact Heap.get?_push_of_some _ e
  have I4 := block_start I3 ok hN f3
  have back : ∀ {σ' : L2.St} {H' : Hp} {s' : Shared} {ce : Env}, Inv (X.blk s3 (upd H2 D (.dK [])) scope ce fp) [] σ' H' s' → Inv X pins σ H' s' := fun I' =>
    I3.call' (ch := fp) I'.os I'.base I'.hok I'.bare fun b hb => ⟨(f3 b hb).1.2.2.2.1, (f3 b hb).1.2.1, (f3 b hb).1.2.2.2.2.1, (f3 b hb).1.2.2.2.2.2⟩
  have st4 : tn 0 (pushCells (s3.heap.push { cls := .type "dict", data := .dict #[] }) scope.names) := T.keep _ _ _ st3 fun b _ o e => pushCells_keeps _ _ _ _ (Heap.get?_push_of_some _ e)
  have loop := outer_in (X := X.blk s3 (upd H2 D (.dK [])) scope (compEnvC scope (cellsFrom (s3.heap.objs.size + 1) scope.names (cloFrom X.env.cells scope.names [])) s3.heap.objs.size X.env) fp) (kx := kx) (vx := vx) (i0 := i0) (scope := scope) (pos := pos)
    hc rfl rfl rfl T (hg _ _ _ _ _) (ht _ _ _ _ _) (hi1 _ _ _ _ _) (hg1 _ _ _ _ _) (ht1 _ _ _ _ _) (hk _ _ _ _ _) (hw _ _ _ _ _) hs1 hv (wipe_wipe _ _) I4 st4 (fun b hb => (f3 b hb).1.1) w0 turn
  refine codeAny_mono (startD (.inl rfl) (fun A Q E hq => T.self A 0 _ _ _ st4 hq) loop) fun r s' hr => ?_
  cases r with
  | error e => exact hr.elim
  | ok f =>
    obtain ⟨rfl, H', I', qq⟩ := hr
    have I7 := back I'
    have nC : H' s3.heap.objs.size = none := I'.free
    obtain ⟨m, hn, _⟩ := I'.loc
    have hn : s'.heap.Ns s3.heap.objs.size m := hn
    refine ⟨m, hn, fun h'' sb => ?_⟩
    obtain ⟨f0, f1, f2, f3, f4, f5⟩ := I3.fpOk (Nat.le_refl _) nC
    exact ⟨.ref D, H', I7.turned (t' := s'.toks) (fun b o hb e => (sb.2 b hb).trans e) f0 f1 f3 f4 f5, rfl, qq⟩
end
end Gx
set_option Elab.async false
set_option linter.all false
set_option maxRecDepth 100000
set_option maxHeartbeats 2000000
/-! data held by a heap; what a reading yields as data -/
namespace Dl
open PySem PySem.Spec PyProof.Rows L2 GxR Gx

/-- all stays but the tables at G, which stay tables -/
structure Ext (G : List Addr) (H H' : Hp) : Prop where
  keep : ∀ a, a ∉ G → ∀ o, H a = some o → H' a = some o
  tab : ∀ P ∈ G, TabG H P → TabG H' P
theorem Ext.refl (G : List Addr) (H : Hp) : Ext G H H := ⟨fun _ _ _ e => e, fun _ _ t => t⟩
theorem Ext.trans {G : List Addr} {H H1 H2 : Hp} (a : Ext G H H1) (b : Ext G H1 H2) : Ext G H H2 := ⟨fun c n o e => b.keep c n o (a.keep c n o e), fun P h t => b.tab P h (a.tab P h t)⟩
theorem Ext.new {G : List Addr} {H : Hp} {p : Addr} {o : HO} (h : H p = none) : Ext G H (upd H p o) :=
  ⟨fun a _ u e => by rw [upd_ne (ne_of_none e h)]; exact e, fun P _ ⟨ps, e, t⟩ => ⟨ps, by rw [upd_ne (ne_of_none e h)]; exact e, t⟩⟩
theorem Ext.tabbed {G : List Addr} {P : Addr} {H1 H2 : Hp} (hP : P ∈ G) (h : Tabbed P H1 H2) : Ext G H1 H2 := by
  refine ⟨fun a n o e => ?_, fun Q hQ t => ?_⟩
  · rw [h.2 a (fun z => n (by rw [z]; exact hP))]
    exact e
  · by_cases hq : Q = P
    · rw [hq]; exact h.1
    · obtain ⟨ps, e, t⟩ := t
      exact ⟨ps, by rw [h.2 Q hq]; exact e, t⟩
def TabsG (G : List Addr) (H : Hp) : Prop := ∀ P ∈ G, TabG H P
theorem TabsG.ext {G : List Addr} {H H' : Hp} (t : TabsG G H) (e : Ext G H H') : TabsG G H' := fun P h => e.tab P h (t P h)
theorem notTab {G : List Addr} {H : Hp} (t : TabsG G H) {a : Addr} {o : HO} (e : H a = some o) (n : ∀ ps, o ≠ .tbl ps) : a ∉ G := fun hm => by
  obtain ⟨ps, h, _⟩ := t a hm
  rw [e] at h
  cases h
  exact n ps rfl
theorem Ext.at {G : List Addr} {H H' : Hp} (x : Ext G H H') (t : TabsG G H) {a : Addr} {o : HO} (e : H a = some o) (n : ∀ ps, o ≠ .tbl ps) : H' a = some o := x.keep a (notTab t e n) o e
theorem Ext.fresh {G : List Addr} {H H' : Hp} (x : Ext G H H') (t : TabsG G H) {p : Addr} (h : H' p = none) : H p = none := by
  cases q : H p with
  | none => rfl
  | some o =>
    by_cases hp : p ∈ G
    · obtain ⟨ps, e, _⟩ := t.ext x p hp
      rw [h] at e
      cases e
    · rw [x.keep p hp o q] at h
      cases h
theorem Ext.rd {G : List Addr} {H H' : Hp} (x : Ext G H H') (t : TabsG G H) {a : Addr} {u : HO} (n : ∀ ps, u ≠ .tbl ps) (h : Rd H a u) : Rd H' a u := by
  rcases h with h | ⟨o, h⟩
  · exact .inl (x.at t h n)
  · exact .inr ⟨o, x.at t h (fun ps z => by cases z)⟩
theorem Ext.sqT {G : List Addr} {K : PySem.W.Frag} {H H' : Hp} (x : Ext G H H') (t : TabsG G H) {a : Addr} {xs : List V} (h : SqT K H a xs) : SqT K H' a xs := by
  rcases h with h | h
  · exact .inl (x.rd t (fun ps z => by cases z) h)
  · exact .inr h
theorem Ext.sqL {G : List Addr} {K : PySem.W.Frag} {H H' : Hp} (x : Ext G H H') (t : TabsG G H) {a : Addr} {xs : List V} (h : SqL K H a xs) : SqL K H' a xs := by
  rcases h with h | h
  · exact .inl (x.rd t (fun ps z => by cases z) h)
  · exact .inr h

section
variable {G : List Addr} {K : PySem.W.Frag} {H H' : Hp}
mutual
theorem dp_ext (x : Ext G H H') (t : TabsG G H) : ∀ {v : V} {d : PyData}, Dp K H v d → Dp K H' v d
  | _, _, .non => .non
  | _, _, .bl b => .bl b
  | _, _, .int i => .int i
  | _, _, .str z => .str z
  | _, _, .lst h r => .lst (x.sqL t h) (dpA_ext x t r)
  | _, _, .tup h r => .tup (x.sqT t h) (dpA_ext x t r)
theorem dpA_ext (x : Ext G H H') (t : TabsG G H) : ∀ {vs : List V} {ds : List PyData}, DpAll K H vs ds → DpAll K H' vs ds
  | _, _, .nil => .nil
  | _, _, .cons a r => .cons (dp_ext x t a) (dpA_ext x t r)
end
theorem dpA_len : ∀ {vs : List V} {ds : List PyData}, DpAll K H vs ds → vs.length = ds.length
  | _, _, .nil => rfl
  | _, _, .cons _ r => congrArg (· + 1) (dpA_len r)
theorem dpA_get : ∀ {vs : List V} {ds : List PyData} {i : Nat} {d : PyData}, DpAll K H vs ds → ds[i]? = some d → ∃ v, vs[i]? = some v ∧ Dp K H v d
  | _, _, _, _, .nil, e => by simp at e
  | _, _, 0, d, .cons a _, e => by
    have e' := Option.some.inj e
    subst e'
    exact ⟨_, rfl, a⟩
  | _, _, i + 1, d, .cons _ r, e => dpA_get (i := i) r e
theorem dpA_getV : ∀ {vs : List V} {ds : List PyData} {i : Nat} {v : V}, DpAll K H vs ds → vs[i]? = some v → ∃ d, ds[i]? = some d ∧ Dp K H v d
  | _, _, _, _, .nil, e => by simp at e
  | _, _, 0, d, .cons a _, e => by
    have e' := Option.some.inj e
    subst e'
    exact ⟨_, rfl, a⟩
  | _, _, i + 1, d, .cons _ r, e => dpA_getV (i := i) r e
theorem dpA_app : ∀ {vs ws : List V} {ds es : List PyData}, DpAll K H vs ds → DpAll K H ws es → DpAll K H (vs ++ ws) (ds ++ es)
  | _, _, _, _, .nil, b => b
  | _, _, _, _, .cons a r, b => .cons a (dpA_app r b)
theorem dpA_drop : ∀ {vs : List V} {ds : List PyData} (n : Nat), DpAll K H vs ds → DpAll K H (vs.drop n) (ds.drop n)
  | _, _, 0, r => r
  | _, _, _ + 1, .nil => .nil
  | _, _, n + 1, .cons _ r => dpA_drop n r
theorem dpA_take : ∀ {vs : List V} {ds : List PyData} (n : Nat), DpAll K H vs ds → DpAll K H (vs.take n) (ds.take n)
  | _, _, 0, _ => .nil
  | _, _, _ + 1, .nil => .nil
  | _, _, n + 1, .cons a r => .cons a (dpA_take n r)
theorem dp_tup {v : V} {ds : List PyData} (h : Dp K H v (.tuple ds)) : ∃ a vs, v = .ref a ∧ SqT K H a vs ∧ DpAll K H vs ds := by
  cases h with
  | tup h r => exact ⟨_, _, rfl, h, r⟩
theorem dp_lst {v : V} {ds : List PyData} (h : Dp K H v (.list ds)) : ∃ a vs, v = .ref a ∧ SqL K H a vs ∧ DpAll K H vs ds := by
  cases h with
  | lst h r => exact ⟨_, _, rfl, h, r⟩
theorem dp_int {v : V} {i : Int} (h : Dp K H v (.int i)) : v = .int i := by cases h; rfl
theorem dp_bl {v : V} {i : Bool} (h : Dp K H v (.bool i)) : v = .bl i := by cases h; rfl
theorem dp_str {v : V} {i : Str} (h : Dp K H v (.str i)) : v = .str i := by cases h; rfl
theorem dp_non {v : V} (h : Dp K H v .none) : v = .non := by cases h; rfl
theorem dp_new {p : Addr} {vs : List V} {ds : List PyData} (h : H p = none) (t : TabsG G H) (r : DpAll K H vs ds) : Dp K (upd H p (.tup vs)) (.ref p) (.tuple ds) :=
  .tup (.inl (.inl upd_same)) (dpA_ext (Ext.new (G := G) h) t r)
theorem dp_newL {p : Addr} {vs : List V} {ds : List PyData} (h : H p = none) (t : TabsG G H) (r : DpAll K H vs ds) : Dp K (upd H p (.lst vs)) (.ref p) (.list ds) :=
  .lst (.inl (.inl upd_same)) (dpA_ext (Ext.new (G := G) h) t r)
end

/-! ### what a reading yields -/
section
variable (G : List Addr) (K : PySem.W.Frag)
/-- te yields d: at every heap that goes on from H -/
def Ed (te : TE) (σ : L2.St) (H : Hp) (d : PyData) : Prop := ∀ H1, Ext G H H1 → ∀ Q : VK, (∀ v H2, Ext G H1 H2 → Dp K H2 v d → Q v H2) → te σ H1 Q
def EdA (ta : TA) (σ : L2.St) (H : Hp) (ds : List PyData) : Prop := ∀ H1, Ext G H H1 → ∀ Q : List V → Hp → Prop, (∀ vs H2, Ext G H1 H2 → DpAll K H2 vs ds → Q vs H2) → ta σ H1 Q
def EdT (tt : TT) (σ : L2.St) (H : Hp) (b : Bool) : Prop := ∀ H1, Ext G H H1 → ∀ Q : Bool → Hp → Prop, (∀ H2, Ext G H1 H2 → Q b H2) → tt σ H1 Q
/-- an operation on data -/
def Rd2 (r : V → V → Hp → VK → Prop) (d e f : PyData) (H : Hp) : Prop := ∀ H1, Ext G H H1 → ∀ v u, Dp K H1 v d → Dp K H1 u e → ∀ Q : VK, (∀ w H2, Ext G H1 H2 → Dp K H2 w f → Q w H2) → r v u H1 Q
def RdC (r : List V → Hp → VK → Prop) (ds : List PyData) (f : PyData) (H : Hp) : Prop := ∀ H1, Ext G H H1 → ∀ vs, DpAll K H1 vs ds → ∀ Q : VK, (∀ w H2, Ext G H1 H2 → Dp K H2 w f → Q w H2) → r vs H1 Q
end

section
variable {G : List Addr} {K : PySem.W.Frag} {σ : L2.St} {H H' : Hp} {ta tb te : TE} {tA : TA} {t u : TT} {d e f : PyData} {ds es : List PyData} {b c : Bool}
theorem Ed.mono (x : Ext G H H') (h : Ed G K te σ H d) : Ed G K te σ H' d := fun H1 a Q q => h H1 (x.trans a) Q q
theorem EdT.mono (x : Ext G H H') (h : EdT G t σ H b) : EdT G t σ H' b := fun H1 a Q q => h H1 (x.trans a) Q q
theorem ed_var {i : Nat} {v : V} (t : TabsG G H) (h : σ[i]? = some (some v)) (r : Dp K H v d) : Ed G K (tVar i) σ H d := fun H1 x _ q => ⟨v, h, q v H1 (Ext.refl G H1) (dp_ext x t r)⟩
theorem ed_int {i : Int} : Ed G K (tC (.int i)) σ H (.int i) := fun H1 _ _ q => q _ H1 (Ext.refl G H1) (.int i)
theorem ed_bl : Ed G K (tC (.bl b)) σ H (.bool b) := fun H1 _ _ q => q _ H1 (Ext.refl G H1) (.bl b)
theorem ed_str {i : Str} : Ed G K (tC (.str i)) σ H (.str i) := fun H1 _ _ q => q _ H1 (Ext.refl G H1) (.str i)
theorem ed_non : Ed G K (tC .non) σ H .none := fun H1 _ _ q => q _ H1 (Ext.refl G H1) .non
theorem ed_nil : EdA G K tNil σ H [] := fun H1 _ _ q => q _ H1 (Ext.refl G H1) .nil
theorem ed_cons (tG : TabsG G H) (h : Ed G K te σ H d) (r : EdA G K tA σ H ds) : EdA G K (tCons te tA) σ H (d :: ds) := fun H1 x Q q =>
  h H1 x _ fun v H2 x2 rv => r H2 (x.trans x2) _ fun vs H3 x3 rs => q _ H3 (x2.trans x3) (.cons (dp_ext x3 ((tG.ext x).ext x2) rv) rs)
theorem ed_one (h : Ed G K te σ H d) : EdA G K (tCons te tNil) σ H [d] := fun H1 x Q q => h H1 x _ fun v H2 x2 rv => q _ H2 x2 (.cons rv .nil)
theorem ed_tup (tG : TabsG G H) (h : EdA G K tA σ H ds) (hl : ds.length ≤ sizeLine) : Ed G K (tTup tA) σ H (.tuple ds) := fun H1 x Q q =>
  h H1 x _ fun vs H2 x2 rs => ⟨by rw [dpA_len rs]; exact hl, fun p hp => q _ _ (x2.trans (Ext.new hp)) (dp_new hp ((tG.ext x).ext x2) rs)⟩
theorem ed_lst (tG : TabsG G H) (h : EdA G K tA σ H ds) (hl : ds.length ≤ sizeLine) : Ed G K (tLst tA) σ H (.list ds) := fun H1 x Q q =>
  h H1 x _ fun vs H2 x2 rs => ⟨by rw [dpA_len rs]; exact hl, fun p hp => q _ _ (x2.trans (Ext.new hp)) (dp_newL hp ((tG.ext x).ext x2) rs)⟩
theorem ed_op {r : V → V → Hp → VK → Prop} (tG : TabsG G H) (ha : Ed G K ta σ H d) (hb : Ed G K tb σ H e) (hr : Rd2 G K r d e f H) : Ed G K (tOp r ta tb) σ H f := fun H1 x Q q =>
  ha H1 x _ fun v H2 x2 rv => hb H2 (x.trans x2) _ fun u H3 x3 ru => hr H3 ((x.trans x2).trans x3) v u (dp_ext x3 ((tG.ext x).ext x2) rv) ru Q fun w H4 x4 rw_ => q w H4 ((x2.trans x3).trans x4) rw_
theorem ed_cb {r : List V → Hp → VK → Prop} (h : EdA G K tA σ H ds) (hr : RdC G K r ds f H) : Ed G K (tCB r tA) σ H f := fun H1 x Q q =>
  h H1 x _ fun vs H2 x2 rs => hr H2 (x.trans x2) vs rs Q fun w H3 x3 rw_ => q w H3 (x2.trans x3) rw_
theorem ed_if (ht : EdT G t σ H b) (h1 : b = true → Ed G K ta σ H d) (h2 : b = false → Ed G K tb σ H d) : Ed G K (tIf t ta tb) σ H d := fun H1 x Q q => ht H1 x _ fun H2 x2 => by
  cases b with
  | true =>
    show ta σ H2 Q
    exact h1 rfl H2 (x.trans x2) Q fun w H3 x3 r => q w H3 (x2.trans x3) r
  | false =>
    show tb σ H2 Q
    exact h2 rfl H2 (x.trans x2) Q fun w H3 x3 r => q w H3 (x2.trans x3) r
theorem ed_is (h : Ed G K te σ H d) (e' : d = e) : Ed G K te σ H e := e' ▸ h
theorem edt_is (h : EdT G t σ H b) (e' : b = c) : EdT G t σ H c := e' ▸ h
theorem edt_val (h : Ed G K te σ H (.bool b)) : EdT G (tB te) σ H b := fun H1 x Q q => h H1 x _ fun v H2 x2 r => ⟨b, dp_bl r, q H2 x2⟩
theorem edt_test (h : Ed G K te σ H (.bool b)) : EdT G (tTest te) σ H b := fun H1 x Q q => h H1 x _ fun v H2 x2 r => ⟨b, dp_bl r, q H2 x2⟩
theorem edt_and (h1 : EdT G t σ H b) (h2 : b = true → EdT G u σ H c) : EdT G (tAnd t u) σ H (b && c) := fun H1 x Q q => h1 H1 x _ fun H2 x2 => by
  cases b with
  | true =>
    show u σ H2 Q
    exact h2 rfl H2 (x.trans x2) Q fun H3 x3 => q H3 (x2.trans x3)
  | false =>
    show Q false H2
    exact q H2 x2
theorem edt_or (h1 : EdT G t σ H b) (h2 : b = false → EdT G u σ H c) : EdT G (tOr t u) σ H (b || c) := fun H1 x Q q => h1 H1 x _ fun H2 x2 => by
  cases b with
  | true =>
    show Q true H2
    exact q H2 x2
  | false =>
    show u σ H2 Q
    exact h2 rfl H2 (x.trans x2) Q fun H3 x3 => q H3 (x2.trans x3)
theorem edt_not (h1 : EdT G t σ H b) : EdT G (tNot t) σ H (!b) := fun H1 x Q q => h1 H1 x _ fun H2 x2 => q H2 x2
theorem ed_andV (h1 : Ed G K ta σ H (.bool b)) (h2 : b = true → Ed G K tb σ H (.bool c)) : Ed G K (tAndV ta tb) σ H (.bool (b && c)) := fun H1 x Q q => h1 H1 x _ fun v H2 x2 r => ⟨b, dp_bl r, by
  cases b with
  | true =>
    show tb σ H2 Q
    exact h2 rfl H2 (x.trans x2) Q fun w H3 x3 r3 => q w H3 (x2.trans x3) r3
  | false =>
    show Q (.bl false) H2
    exact q _ H2 x2 (.bl false)⟩
theorem ed_orV (h1 : Ed G K ta σ H (.bool b)) (h2 : b = false → Ed G K tb σ H (.bool c)) : Ed G K (tOrV ta tb) σ H (.bool (b || c)) := fun H1 x Q q => h1 H1 x _ fun v H2 x2 r => ⟨b, dp_bl r, by
  cases b with
  | true =>
    show Q (.bl true) H2
    exact q _ H2 x2 (.bl true)
  | false =>
    show tb σ H2 Q
    exact h2 rfl H2 (x.trans x2) Q fun w H3 x3 r3 => q w H3 (x2.trans x3) r3⟩
theorem ed_notV (h1 : Ed G K ta σ H (.bool b)) : Ed G K (tNotV ta) σ H (.bool (!b)) := fun H1 x Q q => h1 H1 x _ fun v H2 x2 r => ⟨b, dp_bl r, q _ H2 x2 (.bl _)⟩

/-! operations -/
theorem rd_int2 {g : Int → Int → V} {i j : Int} (hg : ∀ H, Dp K H (g i j) f) : Rd2 G K (rI0 g) (.int i) (.int j) f H := fun H1 _ v u rv ru Q q => by
  rw [dp_int rv, dp_int ru]
  exact ⟨i, j, rfl, rfl, q _ H1 (Ext.refl G H1) (hg H1)⟩
theorem rd_add {i j : Int} : Rd2 G K (rI0 fun i j => .int (i + j)) (.int i) (.int j) (.int (i + j)) H := rd_int2 fun _ => .int _
theorem rd_sub {i j : Int} : Rd2 G K (rI0 fun i j => .int (i - j)) (.int i) (.int j) (.int (i - j)) H := rd_int2 fun _ => .int _
theorem rd_ltI {i j : Int} : Rd2 G K (rI0 fun i j => .bl (decide (i < j))) (.int i) (.int j) (.bool (decide (i < j))) H := rd_int2 fun _ => .bl _
theorem rd_leI {i j : Int} : Rd2 G K (rI0 fun i j => .bl (decide (i ≤ j))) (.int i) (.int j) (.bool (decide (i ≤ j))) H := rd_int2 fun _ => .bl _
theorem rd_gtI {i j : Int} : Rd2 G K (rI0 fun i j => .bl (decide (j < i))) (.int i) (.int j) (.bool (decide (j < i))) H := rd_int2 fun _ => .bl _
theorem rd_geI {i j : Int} : Rd2 G K (rI0 fun i j => .bl (decide (j ≤ i))) (.int i) (.int j) (.bool (decide (j ≤ i))) H := rd_int2 fun _ => .bl _
theorem rd_eqD (hd : SeqAt.shaped d = true) (he : SeqAt.shaped e = true) : Rd2 G K (rEqD K) d e (.bool (PyData.eqv d e)) H := fun H1 _ v u rv ru Q q => ⟨d, e, rv, ru, hd, he, q _ H1 (Ext.refl G H1) (.bl _)⟩
theorem rd_neD (hd : SeqAt.shaped d = true) (he : SeqAt.shaped e = true) : Rd2 G K (rNeD K) d e (.bool (!PyData.eqv d e)) H := fun H1 _ v u rv ru Q q => ⟨d, e, rv, ru, hd, he, q _ H1 (Ext.refl G H1) (.bl _)⟩
theorem atI_get {xs : List V} {i : Int} {v : V} (h0 : 0 ≤ i) (h : xs[i.toNat]? = some v) : atI xs i = some v := by
  have e : i = ((i.toNat : Nat) : Int) := (Int.toNat_of_nonneg h0).symm
  rw [e]
  exact atI_nat h
theorem rd_ixT {i : Int} (h0 : 0 ≤ i) (h : ds[i.toNat]? = some d) : Rd2 G K (rIxT K) (.tuple ds) (.int i) d H := fun H1 _ v u rv ru Q q => by
  obtain ⟨a, vs, rfl, hs, hr⟩ := dp_tup rv
  obtain ⟨w, hw, rw_⟩ := dpA_get hr h
  exact ⟨a, vs, i, w, rfl, dp_int ru, hs, atI_get h0 hw, q w H1 (Ext.refl G H1) rw_⟩
theorem rd_ixL {i : Int} (h0 : 0 ≤ i) (h : ds[i.toNat]? = some d) : Rd2 G K (rIxL K) (.list ds) (.int i) d H := fun H1 _ v u rv ru Q q => by
  obtain ⟨a, vs, rfl, hs, hr⟩ := dp_lst rv
  obtain ⟨w, hw, rw_⟩ := dpA_get hr h
  exact ⟨a, vs, i, w, rfl, dp_int ru, hs, atI_get h0 hw, q w H1 (Ext.refl G H1) rw_⟩
theorem rd_catA (t : TabsG G H) (hl : ds.length + es.length ≤ sizeLine) : Rd2 G K (rCatA K) (.tuple ds) (.tuple es) (.tuple (ds ++ es)) H := fun H1 x v u rv ru Q q => by
  obtain ⟨a, vs, rfl, hs, hr⟩ := dp_tup rv
  obtain ⟨b, us, rfl, hs2, hr2⟩ := dp_tup ru
  have l1 := dpA_len hr
  have l2 := dpA_len hr2
  refine ⟨a, b, vs, us, rfl, rfl, hs, hs2, by omega, fun e1 => ?_, fun e1 e2 => ?_, fun e1 e2 p hp => ?_⟩
  · have e3 : ds = [] := List.eq_nil_of_length_eq_zero (by rw [← l1, e1]; rfl)
    refine q _ H1 (Ext.refl G H1) ?_
    rw [e3]
    exact ru
  · have e3 : es = [] := List.eq_nil_of_length_eq_zero (by rw [← l2, e2]; rfl)
    refine q _ H1 (Ext.refl G H1) ?_
    rw [e3, List.append_nil]
    exact rv
  · exact q _ _ (Ext.new hp) (dp_new hp (t.ext x) (dpA_app hr hr2))
theorem rdc_len : RdC G K (fun xs H Q => ∃ p ys, xs = [.ref p] ∧ (SqL K H p ys ∨ SqT K H p ys) ∧ Q (.int ys.length) H) [.tuple ds] (.int ds.length) H := fun H1 _ vs rs Q q => by
  cases rs with
  | cons a r =>
    cases r
    obtain ⟨p, ws, rfl, hs, hr⟩ := dp_tup a
    exact ⟨p, ws, rfl, .inr hs, q _ H1 (Ext.refl G H1) (by rw [dpA_len hr]; exact .int _)⟩
theorem rdc_lenL : RdC G K (fun xs H Q => ∃ p ys, xs = [.ref p] ∧ (SqL K H p ys ∨ SqT K H p ys) ∧ Q (.int ys.length) H) [.list ds] (.int ds.length) H := fun H1 _ vs rs Q q => by
  cases rs with
  | cons a r =>
    cases r
    obtain ⟨p, ws, rfl, hs, hr⟩ := dp_lst a
    exact ⟨p, ws, rfl, .inl hs, q _ H1 (Ext.refl G H1) (by rw [dpA_len hr]; exact .int _)⟩
theorem rdc_tuple (t : TabsG G H) : RdC G K (fun xs H Q => ∃ p ys, xs = [.ref p] ∧ ((SqL K H p ys ∧ ∀ l, H l = none → Q (.ref l) (upd H l (.tup ys))) ∨ (SqT K H p ys ∧ Q (.ref p) H))) [.list ds] (.tuple ds) H := fun H1 x vs rs Q q => by
  cases rs with
  | cons a r =>
    cases r
    obtain ⟨p, ws, rfl, hs, hr⟩ := dp_lst a
    exact ⟨p, ws, rfl, .inl ⟨hs, fun l hl => q _ _ (Ext.new hl) (dp_new hl (t.ext x) hr)⟩⟩
theorem rdc_int {b : Bool} : RdC G K (fun xs H Q => (∃ i, xs = [.int i] ∧ Q (.int i) H) ∨ ∃ k, xs = [.bl k] ∧ Q (.int (if k then 1 else 0)) H) [.bool b] (.int (if b then 1 else 0)) H := fun H1 x vs rs Q q => by
  cases rs with
  | cons a r =>
    cases r
    exact .inr ⟨b, by rw [dp_bl a], q _ H1 (Ext.refl G H1) (.int _)⟩
end
end Dl
set_option Elab.async false
set_option linter.all false
set_option maxRecDepth 100000
set_option maxHeartbeats 2000000
namespace Dl
open PySem PySem.Spec PyProof.Rows L2 GxR Gx

mutual
/-- no list, no dict within -/
def Pu : PyData → Bool
  | .list _ => false
  | .dict _ => false
  | .tuple ds => PuA ds
  | _ => true
def PuA : List PyData → Bool
  | [] => true
  | d :: r => Pu d && PuA r
end
theorem puA_all : ∀ {ds : List PyData}, PuA ds = true ↔ ∀ d ∈ ds, Pu d = true
  | [] => by simp [PuA]
  | d :: r => by
    unfold PuA
    rw [Bool.and_eq_true, puA_all (ds := r)]
    simp
section
variable {K : PySem.W.Frag} {H H' : Hp}
mutual
theorem dp_tups (k : ∀ a xs, SqT K H a xs → SqT K H' a xs) : ∀ {v : V} {d : PyData}, Pu d = true → Dp K H v d → Dp K H' v d
  | _, _, _, .non => .non
  | _, _, _, .bl b => .bl b
  | _, _, _, .int i => .int i
  | _, _, _, .str z => .str z
  | _, _, p, .lst h r => by simp [Pu] at p
  | _, _, p, .tup h r => .tup (k _ _ h) (dpA_tups k (by simpa [Pu] using p) r)
theorem dpA_tups (k : ∀ a xs, SqT K H a xs → SqT K H' a xs) : ∀ {vs : List V} {ds : List PyData}, PuA ds = true → DpAll K H vs ds → DpAll K H' vs ds
  | _, _, _, .nil => .nil
  | _, _, p, .cons a r => by
    unfold PuA at p
    rw [Bool.and_eq_true] at p
    exact .cons (dp_tups k p.1 a) (dpA_tups k p.2 r)
end
/-- a list's place is no tuple's -/
theorem sqT_upd {D : Addr} {acc : List V} {o : HO} (h : H D = some (.lst acc)) {a : Addr} {xs : List V} (q : SqT K H a xs) : SqT K (upd H D o) a xs := by
  rcases q with q | q
  · rcases q with q | ⟨ob, q⟩
    · exact .inl (.inl (by rw [upd_ne (fun z => by rw [z, h] at q; cases q)]; exact q))
    · exact .inl (.inr ⟨ob, by rw [upd_ne (fun z => by rw [z, h] at q; cases q)]; exact q⟩)
  · exact .inr q
theorem sqT_updD {D : Addr} {acc : List (L2.Key × V)} {o : HO} (h : H D = some (.dK acc)) {a : Addr} {xs : List V} (q : SqT K H a xs) : SqT K (upd H D o) a xs := by
  rcases q with q | q
  · rcases q with q | ⟨ob, q⟩
    · exact .inl (.inl (by rw [upd_ne (fun z => by rw [z, h] at q; cases q)]; exact q))
    · exact .inl (.inr ⟨ob, by rw [upd_ne (fun z => by rw [z, h] at q; cases q)]; exact q⟩)
  · exact .inr q
end
/-- an object that was not there at H may change -/
theorem Ext.mut {G : List Addr} {H H' : Hp} {p : Addr} {o u : HO} (x : Ext G H H') (h : H p = none) (hu : H' p = some u) (n : ∀ ps, u ≠ .tbl ps) : Ext G H (upd H' p o) := by
  refine ⟨fun a ng w e => ?_, fun P hP t => ?_⟩
  · rw [upd_ne (ne_of_none e h)]
    exact x.keep a ng w e
  · obtain ⟨ps, e, t'⟩ := x.tab P hP t
    refine ⟨ps, ?_, t'⟩
    rw [upd_ne (fun z => by rw [z, hu] at e; cases e; exact n ps rfl)]
    exact e
theorem mut_tabs {G : List Addr} {H H' : Hp} {p : Addr} {o u : HO} (t : TabsG G H') (hu : H' p = some u) (n : ∀ ps, u ≠ .tbl ps) : TabsG G (upd H' p o) := fun P hP => by
  obtain ⟨ps, e, t'⟩ := t P hP
  refine ⟨ps, ?_, t'⟩
  rw [upd_ne (fun z => by rw [z, hu] at e; cases e; exact n ps rfl)]
  exact e

section
variable {G : List Addr} {K : PySem.W.Frag} {σ : L2.St} {H H' : Hp} {ta tb te : TE} {tA : TA} {t u : TT} {d e f : PyData} {ds es : List PyData} {b c : Bool}
theorem wipe_set (σ : L2.St) (vs : List Nat) (i : Nat) (x : Option V) (hi : i ∈ vs) : wipe ((wipe σ vs).set i x) vs = wipe σ vs := by
  apply List.ext_getElem?
  intro j
  rw [wipe_at, wipe_at, List.length_set, wipe_length]
  by_cases h : j ∈ vs ∧ j < σ.length
  · rw [if_pos h, if_pos h]
  · rw [if_neg h, if_neg h]
    by_cases hj : i = j
    · subst hj
      have hl : ¬ i < σ.length := fun z => h ⟨hi, z⟩
      rw [List.getElem?_eq_none (by rw [List.length_set, wipe_length]; exact Nat.not_lt.mp hl), List.getElem?_eq_none (Nat.not_lt.mp hl)]
    · rw [List.getElem?_set_ne hj, wipe_at, if_neg h]

theorem take_snoc {α : Type} {l : List α} {k : Nat} {x : α} (h : l[k]? = some x) : l.take (k + 1) = l.take k ++ [x] := by
  rw [List.take_add_one, h]
  rfl

/-- [.. for x in t], t a tuple -/
theorem ed_lcT {i : Nat} {vs : List Nat} {g : PyData → PyData} (tG : TabsG G H) (hl : ds.length ≤ sizeLine) (h : Ed G K te σ H (.tuple ds)) (hi : i ∈ vs) (hp : ∀ d ∈ ds, Pu (g d) = true)
    (hb : ∀ d v H1, d ∈ ds → Ext G H H1 → TabsG G H1 → Dp K H1 v d → Ed G K tb ((wipe σ vs).set i (some v)) H1 (g d)) : Ed G K (tLc (iTup K te) (gName i) tYes tb vs) σ H (.list (ds.map g)) := fun H1 x Q q =>
  h H1 x _ fun v H2 x2 rv => by
    obtain ⟨a, xs, rfl, hs, hr⟩ := dp_tup rv
    have len := dpA_len hr
    have t2 := (tG.ext x).ext x2
    refine ⟨a, rfl, ⟨xs, hs⟩, fun D hD => ?_⟩
    have at0 : ∀ {Hk : Hp}, Ext G H2 Hk → SqT K Hk a xs := fun y => y.sqT t2 hs
    refine lc_tup (a := a) (xs := xs) (fun k Hk => Ext G H2 Hk ∧ ∃ acc, Hk D = some (.lst acc) ∧ acc.length = k ∧ DpAll K Hk acc ((ds.take k).map g))
      ⟨Ext.new hD, [], upd_same, rfl, .nil⟩ (fun k Hk _ p => at0 p.1) (fun k y Hk hk p => ?_) (fun Hk p => ?_)
    · obtain ⟨y1, acc, e1, e2, e3⟩ := p
      obtain ⟨d, hd, rd⟩ := dpA_getV hr hk
      have td := t2.ext y1
      have rd' := dp_ext y1 t2 rd
      refine ⟨wipe_set σ vs i (some y) hi, ?_⟩
      show tb _ Hk _
      refine hb d y Hk (List.mem_of_getElem? hd) ((x.trans x2).trans y1) td rd' Hk (Ext.refl G Hk) _ fun w H4 y4 rw_ => ?_
      have e4 : H4 D = some (.lst acc) := y4.at td e1 (fun ps z => by cases z)
      have hk' := (List.getElem?_eq_some_iff.mp hk).1
      refine ⟨acc, e4, by omega, (y1.trans y4).mut hD e4 (fun ps z => by cases z), acc ++ [w], upd_same, by rw [List.length_append, e2]; rfl, ?_⟩
      rw [take_snoc hd, List.map_append]
      refine dpA_tups (fun a xs q => sqT_upd e4 q) (puA_all.mpr fun z hz => ?_) (dpA_app (dpA_ext y4 td e3) (.cons rw_ .nil))
      rcases List.mem_append.mp hz with hz | hz
      · obtain ⟨d', hd', rfl⟩ := List.mem_map.mp hz
        exact hp d' (List.mem_of_mem_take hd')
      · obtain ⟨d', hd', rfl⟩ := List.mem_map.mp hz
        rw [List.mem_singleton.mp hd']
        exact hp d (List.mem_of_getElem? hd)
    · obtain ⟨y1, acc, e1, e2, e3⟩ := p
      refine q _ Hk (x2.trans y1) (.lst (.inl (.inl e1)) ?_)
      rw [len, List.take_length] at e3
      exact e3

/-- [.. for x in l], l a list that stays -/
theorem ed_lcL {i : Nat} {vs : List Nat} {g : PyData → PyData} (tG : TabsG G H) (hl : ds.length ≤ sizeLine) (h : Ed G K te σ H (.list ds)) (hi : i ∈ vs) (hp : ∀ d ∈ ds, Pu (g d) = true)
    (hb : ∀ d v H1, d ∈ ds → Ext G H H1 → TabsG G H1 → Dp K H1 v d → Ed G K tb ((wipe σ vs).set i (some v)) H1 (g d)) : Ed G K (tLc (iList K te) (gName i) tYes tb vs) σ H (.list (ds.map g)) := fun H1 x Q q =>
  h H1 x _ fun v H2 x2 rv => by
    obtain ⟨a, xs, rfl, hs, hr⟩ := dp_lst rv
    have len := dpA_len hr
    have t2 := (tG.ext x).ext x2
    refine ⟨a, rfl, ⟨xs, hs⟩, fun D hD => ?_⟩
    have at0 : ∀ {Hk : Hp}, Ext G H2 Hk → SqL K Hk a xs := fun y => y.sqL t2 hs
    refine lc_list (a := a) (xs := xs) (fun k Hk => Ext G H2 Hk ∧ ∃ acc, Hk D = some (.lst acc) ∧ acc.length = k ∧ DpAll K Hk acc ((ds.take k).map g))
      ⟨Ext.new hD, [], upd_same, rfl, .nil⟩ (fun k Hk _ p => at0 p.1) (fun k y Hk hk p => ?_) (fun Hk p => ?_)
    · obtain ⟨y1, acc, e1, e2, e3⟩ := p
      obtain ⟨d, hd, rd⟩ := dpA_getV hr hk
      have td := t2.ext y1
      have rd' := dp_ext y1 t2 rd
      refine ⟨wipe_set σ vs i (some y) hi, ?_⟩
      show tb _ Hk _
      refine hb d y Hk (List.mem_of_getElem? hd) ((x.trans x2).trans y1) td rd' Hk (Ext.refl G Hk) _ fun w H4 y4 rw_ => ?_
      have e4 : H4 D = some (.lst acc) := y4.at td e1 (fun ps z => by cases z)
      have hk' := (List.getElem?_eq_some_iff.mp hk).1
      refine ⟨acc, e4, by omega, (y1.trans y4).mut hD e4 (fun ps z => by cases z), acc ++ [w], upd_same, by rw [List.length_append, e2]; rfl, ?_⟩
      rw [take_snoc hd, List.map_append]
      refine dpA_tups (fun a xs q => sqT_upd e4 q) (puA_all.mpr fun z hz => ?_) (dpA_app (dpA_ext y4 td e3) (.cons rw_ .nil))
      rcases List.mem_append.mp hz with hz | hz
      · obtain ⟨d', hd', rfl⟩ := List.mem_map.mp hz
        exact hp d' (List.mem_of_mem_take hd')
      · obtain ⟨d', hd', rfl⟩ := List.mem_map.mp hz
        rw [List.mem_singleton.mp hd']
        exact hp d (List.mem_of_getElem? hd)
    · obtain ⟨y1, acc, e1, e2, e3⟩ := p
      refine q _ Hk (x2.trans y1) (.lst (.inl (.inl e1)) ?_)
      rw [len, List.take_length] at e3
      exact e3

/-- a generator expression over a tuple: what its consumer keeps between turns: Pv -/
theorem gx_tup {P : Addr} {i : Nat} {vs : List Nat} {α : Type} {a0 : Tok → α} {Cs : α → V → Hp → (α → Hp → Prop) → Prop} {Fn : α → Hp → Prop} (hP : P ∈ G) (tG : TabsG G H) (h : Ed G K te σ H (.tuple ds)) (hi : i ∈ vs)
    (Pv : Nat → α → Prop) (h0 : ∀ tk, Pv 0 (a0 tk))
    (hb : ∀ k d v al H1, ds[k]? = some d → Pv k al → Ext G H H1 → TabsG G H1 → Dp K H1 v d → tb ((wipe σ vs).set i (some v)) H1 fun y H2 => Cs al y H2 fun al' H3 => Ext G H1 H3 ∧ Pv (k + 1) al')
    (hd : ∀ al H1, Pv ds.length al → Ext G H H1 → Fn al H1) : tGx P (iTup K te) (gName i) tYes tb vs a0 Cs Fn σ H := h H (Ext.refl G H) _ fun v H2 x2 rv => by
  obtain ⟨a, xs, rfl, hs, hr⟩ := dp_tup rv
  have len := dpA_len hr
  have t2 := tG.ext x2
  refine ⟨a, rfl, ⟨xs, hs⟩, t2 P hP, fun H3 hT => ?_⟩
  have x3 : Ext G H2 H3 := Ext.tabbed hP hT
  refine ⟨fun k m al Hk => m = xs.length - k ∧ k ≤ xs.length ∧ Ext G H2 Hk ∧ Pv k al, ⟨xs.length, fun tk => ⟨rfl, Nat.zero_le _, x3, h0 tk⟩⟩, ?_⟩
  rintro k m al Hk ⟨rfl, hk, y1, p⟩
  have q : SqT K Hk a xs := y1.sqT t2 hs
  by_cases hlt : k < xs.length
  · refine .inr ⟨⟨xs, xs[k], q, by simp [hlt]⟩, fun al' H' => Ext G Hk H' ∧ Pv (k + 1) al', fun al' H' z => ⟨xs.length - (k + 1), by omega, rfl, hlt, y1.trans z.1, z.2⟩, fun y H' hy => ?_⟩
    obtain ⟨e, hy⟩ := hy
    subst e
    have hk' := hy xs q
    obtain ⟨d, hd', rd⟩ := dpA_getV hr hk'
    exact ⟨wipe_set σ vs i (some y) hi, hb k d y al _ hd' p (x2.trans y1) (t2.ext y1) (dp_ext y1 t2 rd)⟩
  · have e : k = xs.length := by omega
    subst e
    exact .inl ⟨⟨xs, q, Nat.le_refl _⟩, hd al Hk (by rw [← len]; exact p) (x2.trans y1)⟩

theorem ed_allT {P : Addr} {i : Nat} {vs : List Nat} {p : PyData → Bool} (hP : P ∈ G) (tG : TabsG G H) (h : Ed G K te σ H (.tuple ds)) (hi : i ∈ vs)
    (hb : ∀ d v H1, d ∈ ds → Ext G H H1 → TabsG G H1 → Dp K H1 v d → Ed G K tb ((wipe σ vs).set i (some v)) H1 (.bool (p d))) : Ed G K (tAllG P (iTup K te) (gName i) tYes tb vs) σ H (.bool (ds.all p)) := fun H1 x Q q => by
  refine gx_tup hP (tG.ext x) (h.mono x) hi (fun k _ => ∀ d ∈ ds.take k, p d = true) (fun _ d hd => by simp at hd) (fun k d v al H2 hk hp x2 t2 rd => ?_) fun al H2 hp x2 => ?_
  · refine hb d v H2 (List.mem_of_getElem? hk) (x.trans x2) t2 rd H2 (Ext.refl G H2) _ fun w H3 x3 r => ⟨p d, dp_bl r, ?_⟩
    cases hpd : p d with
    | true =>
      rw [if_pos rfl]
      refine ⟨x3, fun d' hd' => ?_⟩
      rw [take_snoc hk] at hd'
      rcases List.mem_append.mp hd' with z | z
      · exact hp d' z
      · rw [List.mem_singleton.mp z]; exact hpd
    | false =>
      rw [if_neg Bool.false_ne_true]
      refine q _ H3 (x2.trans x3) ?_
      have e : ds.all p = false := by
        rw [List.all_eq_false]
        exact ⟨d, List.mem_of_getElem? hk, by rw [hpd]; exact Bool.false_ne_true⟩
      rw [e]
      exact .bl false
  · refine q _ H2 x2 ?_
    rw [List.take_length] at hp
    rw [List.all_eq_true.mpr hp]
    exact .bl true
theorem ed_anyT {P : Addr} {i : Nat} {vs : List Nat} {p : PyData → Bool} (hP : P ∈ G) (tG : TabsG G H) (h : Ed G K te σ H (.tuple ds)) (hi : i ∈ vs)
    (hb : ∀ d v H1, d ∈ ds → Ext G H H1 → TabsG G H1 → Dp K H1 v d → Ed G K tb ((wipe σ vs).set i (some v)) H1 (.bool (p d))) : Ed G K (tAnyG P (iTup K te) (gName i) tYes tb vs) σ H (.bool (ds.any p)) := fun H1 x Q q => by
  refine gx_tup hP (tG.ext x) (h.mono x) hi (fun k _ => ∀ d ∈ ds.take k, p d = false) (fun _ d hd => by simp at hd) (fun k d v al H2 hk hp x2 t2 rd => ?_) fun al H2 hp x2 => ?_
  · refine hb d v H2 (List.mem_of_getElem? hk) (x.trans x2) t2 rd H2 (Ext.refl G H2) _ fun w H3 x3 r => ⟨p d, dp_bl r, ?_⟩
    cases hpd : p d with
    | false =>
      rw [if_neg Bool.false_ne_true]
      refine ⟨x3, fun d' hd' => ?_⟩
      rw [take_snoc hk] at hd'
      rcases List.mem_append.mp hd' with z | z
      · exact hp d' z
      · rw [List.mem_singleton.mp z]; exact hpd
    | true =>
      rw [if_pos rfl]
      refine q _ H3 (x2.trans x3) ?_
      rw [List.any_eq_true.mpr ⟨d, List.mem_of_getElem? hk, hpd⟩]
      exact .bl true
  · refine q _ H2 x2 ?_
    rw [List.take_length] at hp
    have e : ds.any p = false := by
      rw [List.any_eq_false]
      exact fun d hd z => by rw [hp d hd] at z; cases z
    rw [e]
    exact .bl false
theorem ed_sumT {P : Addr} {i : Nat} {vs : List Nat} {p : PyData → Int} (hP : P ∈ G) (tG : TabsG G H) (h : Ed G K te σ H (.tuple ds)) (hi : i ∈ vs)
    (hb : ∀ d v H1, d ∈ ds → Ext G H H1 → TabsG G H1 → Dp K H1 v d → Ed G K tb ((wipe σ vs).set i (some v)) H1 (.int (p d))) : Ed G K (tSumG P (iTup K te) (gName i) tYes tb vs) σ H (.int (ds.map p).sum) := fun H1 x Q q => by
  refine gx_tup hP (tG.ext x) (h.mono x) hi (fun k al => al.1 = ((ds.take k).map p).sum) (fun _ => rfl) (fun k d v al H2 hk hp x2 t2 rd => ?_) fun al H2 hp x2 => ?_
  · refine hb d v H2 (List.mem_of_getElem? hk) (x.trans x2) t2 rd H2 (Ext.refl G H2) _ fun w H3 x3 r => ⟨p d, dp_int r, fun tk c => ⟨x3, ?_⟩⟩
    rw [take_snoc hk, List.map_append, List.sum_append, hp]
    simp
  · refine q _ H2 x2 ?_
    rw [hp, List.take_length]
    exact .int _
end
end Dl
set_option Elab.async false
set_option linter.all false
set_option maxRecDepth 100000
set_option maxHeartbeats 2000000
namespace Dl
open PySem PySem.Spec PyProof.Rows L2 GxR Gx

/-! ### defs by their code -/
structure FunC (K : PySem.W.Frag) (x qual : Str) (st : Stmt) (f : Addr) (fd : FuncData) (c : Addr) : Prop where
  ex : ∃ (oc : Value) (od : Option Addr) (kV doc pm : Value) (an : Option Addr) (ct : Value) (osl : Array (Option Value)),
    fd = PySem.W.fnOf x qual (defArgs st) (defBody st) (defScope st) .none kV doc pm an (.ref c) ct ∧ K.lookup f = some ⟨oc, od, .func fd, osl⟩ ∧ PySem.W.codeIn K (.ref c) qual = true
  kp : PySem.W.keepIn K (.ref f) = true

/-- a promise on data: R tells arguments and answer -/
def spR (G : List Addr) (K : PySem.W.Frag) (R : List PyData → PyData → Prop) : Sp := fun vs H Q _ => TabsG G H ∧ ∃ ds d, DpAll K H vs ds ∧ R ds d ∧ ∀ v H', Ext G H H' → Dp K H' v d → Q v H'

section
variable {P : Program} {w : World} {K : PySem.W.Frag} {mg : Str → Option Value} {base : Heap} {G : List Addr}
theorem FunC.okR {CX : CXT} {x qual : Str} {st : Stmt} {f c : Addr} {fd : FuncData} {N ps : List Str} {k : Nat} {R : List PyData → PyData → Prop} (F : FunC K x qual st f fd c) (S : FnScope N ps (defScope st)) (len : ∀ ds d, R ds d → ds.length = ps.length)
    (hbody : ∀ (A : Around) (outer : List Env) (s : Shared) (H : Hp) (vs : List V) (ds : List PyData) (d : PyData) (Q : VK) (E : XK), Room k (A.deeper (envOfC qual (defScope st) s.heap.objs.size f (.ref c))) →
      TabsG G H → DpAll K H vs ds → R ds d → (∀ v H', Ext G H H' → Dp K H' v d → Q v H') →
      ∃ t, PSs (cxOf CX P w K mg base N qual (defScope st) f (.ref c) A outer s H E).nox (defBody st) t ∧ t { nx := fun _ H' => Q .non H', rt := Q } (start N vs) H) : FnOk P w K mg base CX (k + 1) f fd ps (spR G K R) := by
  obtain ⟨oc, od, kV, doc, pm, an, ct, osl, rfl, lk, hcd⟩ := F.ex
  refine fn_of lk hcd S (fun vs H Q E ⟨_, ds, d, h1, h2, _⟩ => (dpA_len h1).trans (len ds d h2)) fun A outer s H vs Q E hr hsp => ?_
  obtain ⟨tG, ds, d, h1, h2, q⟩ := hsp
  obtain ⟨t, h, q⟩ := hbody A outer s H vs ds d Q E hr tG h1 h2 q
  exact ⟨t, h.nox, q⟩
theorem ed_call {R : List PyData → PyData → Prop} {σ : L2.St} {H : Hp} {ta : TA} {ds : List PyData} {d : PyData} {E : XK} (tG : TabsG G H) (h : EdA G K ta σ H ds) (r : R ds d) : Ed G K (tCall (spR G K R) [] E ta) σ H d := fun H1 x Q q =>
  h H1 x _ fun vs H2 x2 rs => by
    show spR G K R (vs ++ []) H2 Q E
    rw [List.append_nil]
    exact ⟨(tG.ext x).ext x2, ds, d, rs, r, fun v H3 x3 rv => q v H3 (x2.trans x3) rv⟩
end

/-! ### statements -/
section
variable {G : List Addr} {K : PySem.W.Frag} {σ : L2.St} {H H' : Hp} {ta tb te : TE} {tt : TT} {t u : TS} {d e f : PyData} {b c : Bool} {D : Ends}
theorem s_ret (h : Ed G K te σ H d) (q : ∀ v H', Ext G H H' → Dp K H' v d → D.rt v H') : tRet te D σ H := h H (Ext.refl G H) D.rt q
theorem s_if (h : EdT G tt σ H b) (h1 : b = true → ∀ H', Ext G H H' → t D σ H') (h2 : b = false → ∀ H', Ext G H H' → u D σ H') : tIfS tt t u D σ H := h H (Ext.refl G H) _ fun H2 x2 => by
  cases b with
  | true =>
    show t D σ H2
    exact h1 rfl H2 x2
  | false =>
    show u D σ H2
    exact h2 rfl H2 x2
/-- if ..: return ..; the rest -/
theorem s_ifR (h : EdT G tt σ H b) (h1 : b = true → ∀ H', Ext G H H' → t { D with nx := u D } σ H') (h2 : b = false → ∀ H', Ext G H H' → u D σ H') : tSeq (tIfS tt t tNext) u D σ H :=
  s_if (u := tNext) h h1 fun e H' x => h2 e H' x
theorem s_set {i : Nat} (h : Ed G K te σ H d) (q : ∀ v H', Ext G H H' → Dp K H' v d → D.nx (σ.set i (some v)) H') : tAsg te (gName i) D σ H := h H (Ext.refl G H) _ fun v H2 x2 r => q v H2 x2 r

/-- a generator expression over a text -/
theorem gx_str {P : Addr} {i : Nat} {vs : List Nat} {z : Str} {α : Type} {a0 : Tok → α} {Cs : α → V → Hp → (α → Hp → Prop) → Prop} {Fn : α → Hp → Prop} (hP : P ∈ G) (tG : TabsG G H) (h : Ed G K te σ H (.str z)) (hi : i ∈ vs)
    (Pv : Nat → α → Prop) (h0 : ∀ tk, Pv 0 (a0 tk))
    (hb : ∀ (k : Nat) (cc : Nat) al H1, z.cps.toList[k]? = some cc → Pv k al → Ext G H H1 → TabsG G H1 → tb ((wipe σ vs).set i (some (.str ⟨#[cc]⟩))) H1 fun y H2 => Cs al y H2 fun al' H3 => Ext G H1 H3 ∧ Pv (k + 1) al')
    (hd : ∀ al H1, Pv z.cps.toList.length al → Ext G H H1 → Fn al H1) : tGx P (iStr te) (gName i) tYes tb vs a0 Cs Fn σ H := h H (Ext.refl G H) _ fun v H2 x2 rv => by
  have t2 := tG.ext x2
  refine ⟨z, dp_str rv, t2 P hP, fun H3 hT => ?_⟩
  have x3 : Ext G H2 H3 := Ext.tabbed hP hT
  have esz : z.cps.toList.length = z.cps.size := Array.length_toList
  refine ⟨fun k m al Hk => m = z.cps.size - k ∧ k ≤ z.cps.size ∧ Ext G H2 Hk ∧ Pv k al, ⟨z.cps.size, fun tk => ⟨rfl, Nat.zero_le _, x3, h0 tk⟩⟩, ?_⟩
  rintro k m al Hk ⟨rfl, hk, y1, p⟩
  by_cases hlt : k < z.cps.size
  · refine .inr ⟨hlt, fun al' H' => Ext G Hk H' ∧ Pv (k + 1) al', fun al' H' w => ⟨z.cps.size - (k + 1), by omega, rfl, hlt, y1.trans w.1, w.2⟩, fun y H' hy => ?_⟩
    obtain ⟨e, cc, ec, ey⟩ := hy
    subst e ey
    exact ⟨wipe_set σ vs i _ hi, hb k cc al _ (by rw [Array.getElem?_toList]; exact ec) p (x2.trans y1) (t2.ext y1)⟩
  · have e : k = z.cps.size := by omega
    subst e
    exact .inl ⟨Nat.le_refl _, hd al Hk (by rw [esz]; exact p) (x2.trans y1)⟩
theorem ed_allS {P : Addr} {i : Nat} {vs : List Nat} {z : Str} {p : Nat → Bool} (hP : P ∈ G) (tG : TabsG G H) (h : Ed G K te σ H (.str z)) (hi : i ∈ vs)
    (hb : ∀ (cc : Nat) H1, Ext G H H1 → TabsG G H1 → Ed G K tb ((wipe σ vs).set i (some (.str ⟨#[cc]⟩))) H1 (.bool (p cc))) : Ed G K (tAllG P (iStr te) (gName i) tYes tb vs) σ H (.bool (z.cps.toList.all p)) := fun H1 x Q q => by
  refine gx_str hP (tG.ext x) (h.mono x) hi (fun k _ => ∀ d ∈ z.cps.toList.take k, p d = true) (fun _ d hd => by simp at hd) (fun k d al H2 hk hp x2 t2 => ?_) fun al H2 hp x2 => ?_
  · refine hb d H2 (x.trans x2) t2 H2 (Ext.refl G H2) _ fun w H3 x3 r => ⟨p d, dp_bl r, ?_⟩
    cases hpd : p d with
    | true =>
      rw [if_pos rfl]
      refine ⟨x3, fun d' hd' => ?_⟩
      rw [take_snoc hk] at hd'
      rcases List.mem_append.mp hd' with z | z
      · exact hp d' z
      · rw [List.mem_singleton.mp z]; exact hpd
    | false =>
      rw [if_neg Bool.false_ne_true]
      refine q _ H3 (x2.trans x3) ?_
      have e : z.cps.toList.all p = false := by
        rw [List.all_eq_false]
        exact ⟨d, List.mem_of_getElem? hk, by rw [hpd]; exact Bool.false_ne_true⟩
      rw [e]
      exact .bl false
  · refine q _ H2 x2 ?_
    rw [List.take_length] at hp
    rw [List.all_eq_true.mpr hp]
    exact .bl true

/-! texts -/
theorem rd_eqS {x y : Str} : Rd2 G K rEq (.str x) (.str y) (.bool (decide (x = y))) H := fun H1 _ v u rv ru Q q => by
  rw [dp_str rv, dp_str ru]
  refine ⟨rfl, q _ H1 (Ext.refl G H1) ?_⟩
  have e : decide ((V.str x) = V.str y) = decide (x = y) := by
    by_cases h : x = y
    · subst h; simp
    · rw [decide_eq_false h, decide_eq_false (fun z => h (by injection z))]
  rw [e]
  exact .bl _
theorem rd_neS {x y : Str} : Rd2 G K rNe (.str x) (.str y) (.bool (!decide (x = y))) H := fun H1 _ v u rv ru Q q => by
  rw [dp_str rv, dp_str ru]
  refine ⟨rfl, q _ H1 (Ext.refl G H1) ?_⟩
  have e : decide ((V.str x) = V.str y) = decide (x = y) := by
    by_cases h : x = y
    · subst h; simp
    · rw [decide_eq_false h, decide_eq_false (fun z => h (by injection z))]
  rw [e]
  exact .bl _
theorem rd_inSign {c : Nat} {z : Str} : Rd2 G K (fun x y H Q => ∃ (c : Nat) (z : Str), x = .str ⟨#[c]⟩ ∧ y = .str z ∧ Q (.bl (decide (c ∈ z.cps.toList))) H) (.str ⟨#[c]⟩) (.str z) (.bool (decide (c ∈ z.cps.toList))) H := fun H1 _ v u rv ru Q q =>
  ⟨c, z, dp_str rv, dp_str ru, q _ H1 (Ext.refl G H1) (.bl _)⟩
theorem rd_niSign {c : Nat} {z : Str} : Rd2 G K (fun x y H Q => ∃ (c : Nat) (z : Str), x = .str ⟨#[c]⟩ ∧ y = .str z ∧ Q (.bl (!decide (c ∈ z.cps.toList))) H) (.str ⟨#[c]⟩) (.str z) (.bool (!decide (c ∈ z.cps.toList))) H := fun H1 _ v u rv ru Q q =>
  ⟨c, z, dp_str rv, dp_str ru, q _ H1 (Ext.refl G H1) (.bl _)⟩
theorem rd_ixS {z : Str} {i : Int} {c : Nat} (hz : z.length ≤ sizeLine) (h0 : 0 ≤ i) (h : z.cps.toList[i.toNat]? = some c) : Rd2 G K rIxS (.str z) (.int i) (.str ⟨#[c]⟩) H := fun H1 _ v u rv ru Q q => by
  have e : i = ((i.toNat : Nat) : Int) := (Int.toNat_of_nonneg h0).symm
  refine ⟨z, i, c, dp_str rv, dp_int ru, hz, ?_, q _ H1 (Ext.refl G H1) (.str _)⟩
  rw [e]
  exact atI_nat h

theorem dpA_one {vs : List V} (h : DpAll K H vs [d]) : ∃ v, vs = [v] ∧ Dp K H v d := by
  cases h with
  | cons a r => cases r; exact ⟨_, rfl, a⟩
theorem dpA_two {vs : List V} (h : DpAll K H vs [d, e]) : ∃ v u, vs = [v, u] ∧ Dp K H v d ∧ Dp K H u e := by
  cases h with
  | cons a r =>
    obtain ⟨u, rfl, b⟩ := dpA_one r
    exact ⟨_, _, rfl, a, b⟩
theorem dpA_three {vs : List V} (h : DpAll K H vs [d, e, f]) : ∃ v u w, vs = [v, u, w] ∧ Dp K H v d ∧ Dp K H u e ∧ Dp K H w f := by
  cases h with
  | cons a r =>
    obtain ⟨u, w, rfl, b, c⟩ := dpA_two r
    exact ⟨_, _, _, rfl, a, b, c⟩
/-- a data's built-in class -/
def tyD : PyData → String
  | .none => "NoneType"
  | .bool _ => "bool"
  | .int _ => "int"
  | .str _ => "str"
  | .list _ => "list"
  | .tuple _ => "tuple"
  | .dict _ => "dict"
theorem tyX_of {v : V} (h : Dp K H v d) : TyX K H v (.type (tyD d)) := by
  cases h with
  | non => exact .base .non
  | bl b => exact .base (.bl b)
  | int i => exact .base (.int i)
  | str z => exact .base (.str z)
  | lst h r =>
    rcases h with h | ⟨o, its, n, hk, hc, _⟩
    · rcases h with h | ⟨o, h⟩
      · exact .base (.lst h)
      · exact .base (.frz h)
    · exact .kList hk hc
  | tup h r =>
    rcases h with h | ⟨o, its, n, hk, hc, _⟩
    · rcases h with h | ⟨o, h⟩
      · exact .base (.tup h)
      · exact .fTuple h
    · exact .kTuple hk hc
theorem ed_isi {T : String} {b : Bool} (h : Ed G K ta σ H d) (hk : PySem.W.kitOne K (.type (tyD d)) (.type T) = some b) : Ed G K (tCB (rIsi K) (tCons ta (tCons (tC (.ty T)) tNil))) σ H (.bool b) := fun H1 x Q q =>
  h H1 x _ fun v H2 x2 rv => ⟨v, .ty T, .type (tyD d), .type T, b, rfl, .ty T, tyX_of rv, hk, q _ H2 x2 (.bl b)⟩
theorem ed_slS {z : Str} {te : TE} {tl th : TO} {lo hi : Option Int} (hz : z.length ≤ sizeLine) (h : Ed G K te σ H (.str z)) (h1 : ∀ H1, Ext G H H1 → ∀ Q : Option Int → Hp → Prop, Q lo H1 → tl σ H1 Q) (h2 : ∀ H1, Ext G H H1 → ∀ Q : Option Int → Hp → Prop, Q hi H1 → th σ H1 Q) :
    Ed G K (tSl rSlS te tl th) σ H (.str (cutS z lo hi)) := fun H1 x Q q => h H1 x _ fun v H2 x2 rv => h1 H2 (x.trans x2) _ (h2 H2 (x.trans x2) _ ⟨z, dp_str rv, hz, q _ H2 x2 (.str _)⟩)
theorem cutS_tail (z : Str) : (cutS z (some 1) none).cps.toList = z.cps.toList.drop 1 := by
  unfold cutS
  rw [show HT.sIx z.length 0 (some 1) = min 1 z.length from HT.sIx_nat z.length 0 1, HT.sIx_none]
  have e : z.length = z.cps.toList.length := by simp [Str.length]
  rw [e]
  cases z.cps.toList with
  | nil => rfl
  | cons c r =>
    simp
end
end Dl
set_option Elab.async false
set_option linter.all false
set_option maxRecDepth 100000
set_option maxHeartbeats 2000000
/-! dicts as arguments; loops on data -/
namespace Dl
open PySem PySem.Spec PyProof.Rows L2 GxR Gx

inductive Ar where
  | d (x : PyData)
  | k (es : List (Key × PyData))
inductive DkR (K : PySem.W.Frag) (H : Hp) : List (Key × V) → List (Key × PyData) → Prop where
  | nil : DkR K H [] []
  | cons {k : Key} {v : V} {d : PyData} {ks : List (Key × V)} {es : List (Key × PyData)} : Dp K H v d → DkR K H ks es → DkR K H ((k, v) :: ks) ((k, d) :: es)
def ArR (K : PySem.W.Frag) (H : Hp) (v : V) : Ar → Prop
  | .d x => Dp K H v x
  | .k es => ∃ a kvs, v = .ref a ∧ H a = some (.dK kvs) ∧ DkR K H kvs es
inductive ArA (K : PySem.W.Frag) (H : Hp) : List V → List Ar → Prop where
  | nil : ArA K H [] []
  | cons {v : V} {a : Ar} {vs : List V} {as : List Ar} : ArR K H v a → ArA K H vs as → ArA K H (v :: vs) (a :: as)
def valD (es : List (Key × PyData)) (k : Key) : Option PyData := (es.find? fun kv => decide (kv.1 = k)).map (·.2)

section
variable {G : List Addr} {K : PySem.W.Frag} {H H' : Hp}
theorem dkR_ext (x : Ext G H H') (t : TabsG G H) : ∀ {ks : List (Key × V)} {es : List (Key × PyData)}, DkR K H ks es → DkR K H' ks es
  | _, _, .nil => .nil
  | _, _, .cons a r => .cons (dp_ext x t a) (dkR_ext x t r)
theorem ar_ext (x : Ext G H H') (t : TabsG G H) {v : V} : ∀ {a : Ar}, ArR K H v a → ArR K H' v a
  | .d _, h => dp_ext x t h
  | .k _, ⟨a, kvs, e, h, r⟩ => ⟨a, kvs, e, x.at t h (fun ps z => by cases z), dkR_ext x t r⟩
theorem arA_ext (x : Ext G H H') (t : TabsG G H) : ∀ {vs : List V} {as : List Ar}, ArA K H vs as → ArA K H' vs as
  | _, _, .nil => .nil
  | _, _, .cons a r => .cons (ar_ext x t a) (arA_ext x t r)
theorem arA_len : ∀ {vs : List V} {as : List Ar}, ArA K H vs as → vs.length = as.length
  | _, _, .nil => rfl
  | _, _, .cons _ r => congrArg (· + 1) (arA_len r)
theorem arA_one {vs : List V} {a : Ar} (h : ArA K H vs [a]) : ∃ v, vs = [v] ∧ ArR K H v a := by
  cases h with
  | cons a r => cases r; exact ⟨_, rfl, a⟩
theorem arA_two {vs : List V} {a b : Ar} (h : ArA K H vs [a, b]) : ∃ v u, vs = [v, u] ∧ ArR K H v a ∧ ArR K H u b := by
  cases h with
  | cons a r =>
    obtain ⟨u, rfl, b⟩ := arA_one r
    exact ⟨_, _, rfl, a, b⟩
theorem arA_three {vs : List V} {a b c : Ar} (h : ArA K H vs [a, b, c]) : ∃ v u w, vs = [v, u, w] ∧ ArR K H v a ∧ ArR K H u b ∧ ArR K H w c := by
  cases h with
  | cons a r =>
    obtain ⟨u, w, rfl, b, c⟩ := arA_two r
    exact ⟨_, _, _, rfl, a, b, c⟩
theorem arA_four {vs : List V} {a b c d : Ar} (h : ArA K H vs [a, b, c, d]) : ∃ v u w z, vs = [v, u, w, z] ∧ ArR K H v a ∧ ArR K H u b ∧ ArR K H w c ∧ ArR K H z d := by
  cases h with
  | cons a r =>
    obtain ⟨u, w, z, rfl, b, c, d⟩ := arA_three r
    exact ⟨_, _, _, _, rfl, a, b, c, d⟩
theorem arA_five {vs : List V} {a b c d e : Ar} (h : ArA K H vs [a, b, c, d, e]) : ∃ v u w z y, vs = [v, u, w, z, y] ∧ ArR K H v a ∧ ArR K H u b ∧ ArR K H w c ∧ ArR K H z d ∧ ArR K H y e := by
  cases h with
  | cons a r =>
    obtain ⟨u, w, z, y, rfl, b, c, d, e⟩ := arA_four r
    exact ⟨_, _, _, _, _, rfl, a, b, c, d, e⟩
theorem dkR_val (k : Key) : ∀ {ks : List (Key × V)} {es : List (Key × PyData)}, DkR K H ks es → (valD es k = none → valV ks k = none) ∧ ∀ d, valD es k = some d → ∃ v, valV ks k = some v ∧ Dp K H v d
  | _, _, .nil => ⟨fun _ => rfl, fun d e => by cases e⟩
  | _, _, .cons (k := j) (v := v) (d := d) a r => by
    have ih := dkR_val k r
    by_cases h : j = k
    · rw [valV_pos h]
      refine ⟨fun e => ?_, fun d' e => ?_⟩
      · rw [valD, List.find?_cons, show decide ((j, d).1 = k) = true from decide_eq_true h] at e
        cases e
      · rw [valD, List.find?_cons, show decide ((j, d).1 = k) = true from decide_eq_true h] at e
        have e' := Option.some.inj e
        subst e'
        exact ⟨v, rfl, a⟩
    · rw [valV_neg (p := (j, v)) h]
      have e0 : ∀ es', valD ((j, d) :: es') k = valD es' k := fun es' => by
        rw [valD, valD, List.find?_cons, show decide ((j, d).1 = k) = false from decide_eq_false h]
      rw [e0]
      exact ih
end

/-- a promise on arguments, dicts among them -/
def spA (G : List Addr) (K : PySem.W.Frag) (R : List Ar → PyData → Prop) : Sp := fun vs H Q _ => TabsG G H ∧ ∃ as d, ArA K H vs as ∧ R as d ∧ ∀ v H', Ext G H H' → Dp K H' v d → Q v H'
/-- a promise of an exception of the class at C -/
def spE (G : List Addr) (K : PySem.W.Frag) (R : List Ar → Prop) (C : Addr) : Sp := fun vs H _ E => TabsG G H ∧ ∃ as, ArA K H vs as ∧ R as ∧ ∀ H', Ext G H H' → E (.ref C) none H'

section
variable (G : List Addr) (K : PySem.W.Frag)
def EdX (te : TE) (σ : L2.St) (H : Hp) (a : Ar) : Prop := ∀ H1, Ext G H H1 → ∀ Q : VK, (∀ v H2, Ext G H1 H2 → ArR K H2 v a → Q v H2) → te σ H1 Q
def EdXA (ta : TA) (σ : L2.St) (H : Hp) (as : List Ar) : Prop := ∀ H1, Ext G H H1 → ∀ Q : List V → Hp → Prop, (∀ vs H2, Ext G H1 H2 → ArA K H2 vs as → Q vs H2) → ta σ H1 Q
end
section
variable {P : Program} {w : World} {K : PySem.W.Frag} {mg : Str → Option Value} {base : Heap} {G : List Addr}
theorem FunC.okA {CX : CXT} {x qual : Str} {st : Stmt} {f c : Addr} {fd : FuncData} {N ps : List Str} {k : Nat} {R : List Ar → PyData → Prop} (F : FunC K x qual st f fd c) (S : FnScope N ps (defScope st)) (len : ∀ ds d, R ds d → ds.length = ps.length)
    (hbody : ∀ (A : Around) (outer : List Env) (s : Shared) (H : Hp) (vs : List V) (ds : List Ar) (d : PyData) (Q : VK) (E : XK), Room k (A.deeper (envOfC qual (defScope st) s.heap.objs.size f (.ref c))) →
      TabsG G H → ArA K H vs ds → R ds d → (∀ v H', Ext G H H' → Dp K H' v d → Q v H') →
      ∃ t, PSs (cxOf CX P w K mg base N qual (defScope st) f (.ref c) A outer s H E).nox (defBody st) t ∧ t { nx := fun _ H' => Q .non H', rt := Q } (start N vs) H) : FnOk P w K mg base CX (k + 1) f fd ps (spA G K R) := by
  obtain ⟨oc, od, kV, doc, pm, an, ct, osl, rfl, lk, hcd⟩ := F.ex
  refine fn_of lk hcd S (fun vs H Q E ⟨_, ds, d, h1, h2, _⟩ => (arA_len h1).trans (len ds d h2)) fun A outer s H vs Q E hr hsp => ?_
  obtain ⟨tG, ds, d, h1, h2, q⟩ := hsp
  obtain ⟨t, h, q⟩ := hbody A outer s H vs ds d Q E hr tG h1 h2 q
  exact ⟨t, h.nox, q⟩
end
section
variable {G : List Addr} {K : PySem.W.Frag} {σ : L2.St} {H H' : Hp} {ta tb te : TE} {tA : TA} {d e f : PyData} {es : List (Key × PyData)}
theorem EdX.mono {a : Ar} (x : Ext G H H') (h : EdX G K te σ H a) : EdX G K te σ H' a := fun H1 a Q q => h H1 (x.trans a) Q q
theorem edx_of (h : Ed G K te σ H d) : EdX G K te σ H (.d d) := h
theorem edx_var {i : Nat} {v : V} {a : Ar} (t : TabsG G H) (h : σ[i]? = some (some v)) (r : ArR K H v a) : EdX G K (tVar i) σ H a := fun H1 x _ q => ⟨v, h, q v H1 (Ext.refl G H1) (ar_ext x t r)⟩
theorem ea_nil : EdXA G K tNil σ H [] := fun H1 _ _ q => q _ H1 (Ext.refl G H1) .nil
theorem ea_cons {a : Ar} {as : List Ar} (tG : TabsG G H) (h : EdX G K te σ H a) (r : EdXA G K tA σ H as) : EdXA G K (tCons te tA) σ H (a :: as) := fun H1 x Q q =>
  h H1 x _ fun v H2 x2 rv => r H2 (x.trans x2) _ fun vs H3 x3 rs => q _ H3 (x2.trans x3) (.cons (ar_ext x3 ((tG.ext x).ext x2) rv) rs)
theorem ea_one {a : Ar} (h : EdX G K te σ H a) : EdXA G K (tCons te tNil) σ H [a] := fun H1 x Q q => h H1 x _ fun v H2 x2 rv => q _ H2 x2 (.cons rv .nil)
theorem ea_call {R : List Ar → PyData → Prop} {as : List Ar} {E : XK} (tG : TabsG G H) (h : EdXA G K tA σ H as) (r : R as d) : Ed G K (tCall (spA G K R) [] E tA) σ H d := fun H1 x Q q =>
  h H1 x _ fun vs H2 x2 rs => by
    show spA G K R (vs ++ []) H2 Q E
    rw [List.append_nil]
    exact ⟨(tG.ext x).ext x2, as, d, rs, r, fun v H3 x3 rv => q v H3 (x2.trans x3) rv⟩
/-! dicts -/
theorem ed_dget {x : Str} (tG : TabsG G H) (h : EdX G K ta σ H (.k es)) (hk : Ed G K tb σ H (.str x)) (hv : valD es (.inr x) = some d) : Ed G K (tDGet ta tb) σ H d := fun H1 z Q q =>
  h H1 z _ fun v H2 x2 rv => hk H2 (z.trans x2) _ fun u H3 x3 ru => by
    obtain ⟨a, kvs, rfl, ha, r⟩ := ar_ext x3 ((tG.ext z).ext x2) rv
    obtain ⟨w, hw, rw_⟩ := (dkR_val (.inr x) r).2 d hv
    rw [dp_str ru]
    refine ⟨a, w, rfl, ?_, q w H3 (x2.trans x3) rw_⟩
    rw [← hw]
    exact DGet.k (k := .inr x) ha
theorem ed_dget2 {x : Str} {tc : TE} (tG : TabsG G H) (h : EdX G K ta σ H (.k es)) (hk : Ed G K tb σ H (.str x)) (hc : Ed G K tc σ H e) (hv : (valD es (.inr x)).getD e = d) : Ed G K (tDGet2 ta tb tc) σ H d := fun H1 z Q q =>
  h H1 z _ fun v H2 x2 rv => by
    obtain ⟨a, kvs, rfl, ha, r⟩ := rv
    have t2 := (tG.ext z).ext x2
    refine ⟨a, rfl, .inl ⟨kvs, .inl ha⟩, hk H2 (z.trans x2) _ fun u H3 x3 ru => hc H3 ((z.trans x2).trans x3) _ fun y H4 x4 ry => ?_⟩
    have x24 := x3.trans x4
    have ha4 := x24.at t2 ha (fun ps z => by cases z)
    have r4 := dkR_ext x24 t2 r
    rw [dp_str ru]
    refine ⟨valV kvs (.inr x), DGet.k (k := .inr x) ha4, ?_⟩
    have dv := dkR_val (.inr x) r4
    cases hx : valD es (.inr x) with
    | none =>
      rw [hx] at hv
      rw [dv.1 hx]
      have hv' : e = d := hv
      exact q y H4 (x2.trans x24) (hv' ▸ ry)
    | some d' =>
      rw [hx] at hv
      obtain ⟨w, hw, rw_⟩ := dv.2 d' hx
      rw [hw]
      have hv' : d' = d := hv
      exact q w H4 (x2.trans x24) (hv' ▸ rw_)
theorem ed_dnin {x : Str} (tG : TabsG G H) (hk : Ed G K tb σ H (.str x)) (h : EdX G K ta σ H (.k es)) : Ed G K (tDNotIn tb ta) σ H (.bool (!(valD es (.inr x)).isSome)) := fun H1 z Q q =>
  hk H1 z _ fun u H2 x2 ru => h H2 (z.trans x2) _ fun v H3 x3 rv => by
    obtain ⟨a, kvs, rfl, ha, r⟩ := rv
    rw [dp_str ru]
    refine ⟨a, valV kvs (.inr x), rfl, DGet.k (k := .inr x) ha, q _ H3 (x2.trans x3) ?_⟩
    have dv := dkR_val (.inr x) r
    cases hx : valD es (.inr x) with
    | none => rw [dv.1 hx]; exact .bl _
    | some d' =>
      obtain ⟨w, hw, _⟩ := dv.2 d' hx
      rw [hw]
      exact .bl _
/-- for x in t, t a tuple; each turn on data -/
theorem s_forT {ds : List PyData} {tb : TS} {D : Ends} {g : TG} (tG : TabsG G H) (h : Ed G K te σ H (.tuple ds)) (Pv : Nat → L2.St → Prop) (h0 : Pv 0 σ)
    (hs : ∀ i d v σ' H' (N : L2.St → Hp → Prop), ds[i]? = some d → Pv i σ' → Ext G H H' → Dp K H' v d → TabsG G H' → (∀ σ2 H2, Ext G H' H2 → Pv (i + 1) σ2 → N σ2 H2) → g v σ' H' fun σ2 H2 => tb { D with nx := N, ct := N, bk := D.nx } σ2 H2)
    (hd : ∀ σ' H', Ext G H H' → Pv ds.length σ' → D.nx σ' H') : tFor (iTup K te) g tb D σ H := h H (Ext.refl G H) _ fun v H2 x2 rv => by
  obtain ⟨a, xs, rfl, q, r⟩ := dp_tup rv
  have t2 := tG.ext x2
  have len := dpA_len r
  refine ⟨a, rfl, ⟨xs, q⟩, for_tup (a := a) (xs := xs) (fun i σ' H' => Pv i σ' ∧ Ext G H2 H') ⟨h0, Ext.refl G H2⟩ (fun i σ' H' _ p => p.2.sqT t2 q) (fun i x σ' H' hx p => ?_) (fun σ' H' p => hd σ' H' (x2.trans p.2) (by rw [← len]; exact p.1))⟩
  obtain ⟨d, hd', rd⟩ := dpA_getV r hx
  exact hs i d x σ' H' _ hd' p.1 (x2.trans p.2) (dp_ext p.2 t2 rd) (t2.ext p.2) fun σ2 H3 y w => ⟨w, p.2.trans y⟩
theorem s_forL {ds : List PyData} {tb : TS} {D : Ends} {g : TG} (tG : TabsG G H) (h : Ed G K te σ H (.list ds)) (Pv : Nat → L2.St → Prop) (h0 : Pv 0 σ)
    (hs : ∀ i d v σ' H' (N : L2.St → Hp → Prop), ds[i]? = some d → Pv i σ' → Ext G H H' → Dp K H' v d → TabsG G H' → (∀ σ2 H2, Ext G H' H2 → Pv (i + 1) σ2 → N σ2 H2) → g v σ' H' fun σ2 H2 => tb { D with nx := N, ct := N, bk := D.nx } σ2 H2)
    (hd : ∀ σ' H', Ext G H H' → Pv ds.length σ' → D.nx σ' H') : tFor (iList K te) g tb D σ H := h H (Ext.refl G H) _ fun v H2 x2 rv => by
  obtain ⟨a, xs, rfl, q, r⟩ := dp_lst rv
  have t2 := tG.ext x2
  have len := dpA_len r
  refine ⟨a, rfl, ⟨xs, q⟩, for_list (a := a) (xs := xs) (fun i σ' H' => Pv i σ' ∧ Ext G H2 H') ⟨h0, Ext.refl G H2⟩ (fun i σ' H' _ p => p.2.sqL t2 q) (fun i x σ' H' hx p => ?_) (fun σ' H' p => hd σ' H' (x2.trans p.2) (by rw [← len]; exact p.1))⟩
  obtain ⟨d, hd', rd⟩ := dpA_getV r hx
  exact hs i d x σ' H' _ hd' p.1 (x2.trans p.2) (dp_ext p.2 t2 rd) (t2.ext p.2) fun σ2 H3 y w => ⟨w, p.2.trans y⟩
/-- for a, b in zip(t, u), two tuples as long as each other -/
theorem s_forZ {ds ds2 : List PyData} {tb : TS} {D : Ends} {g : TG} (tG : TabsG G H) (h : EdA G K tA σ H [.tuple ds, .tuple ds2]) (hlen : ds.length = ds2.length) (Pv : Nat → L2.St → Prop) (h0 : Pv 0 σ)
    (hs : ∀ i d d2 v u T σ' H' (N : L2.St → Hp → Prop), ds[i]? = some d → ds2[i]? = some d2 → Pv i σ' → Ext G H H' → Dp K H' v d → Dp K H' u d2 → H' T = some (.tup [v, u]) → TabsG G H' → (∀ σ2 H2, Ext G H' H2 → Pv (i + 1) σ2 → N σ2 H2) → g (.ref T) σ' H' fun σ2 H2 => tb { D with nx := N, ct := N, bk := D.nx } σ2 H2)
    (hd : ∀ σ' H', Ext G H H' → Pv ds.length σ' → D.nx σ' H') : tFor (RZ.iZipA K tA) g tb D σ H := h H (Ext.refl G H) _ fun vs H2 x2 rs => by
  obtain ⟨v, u, rfl, rv, ru⟩ := dpA_two rs
  obtain ⟨a, xs, rfl, q, r⟩ := dp_tup rv
  obtain ⟨b, ys, rfl, q2, r2⟩ := dp_tup ru
  have t2 := tG.ext x2
  have len := dpA_len r
  have len2 := dpA_len r2
  refine ⟨a, b, xs, ys, rfl, .inr ⟨q, q2, RZ.for_zipT (a := a) (b := b) (xs := xs) (ys := ys) (by omega) (fun i σ' H' => Pv i σ' ∧ Ext G H2 H') ⟨h0, Ext.refl G H2⟩ (fun i σ' H' p => ⟨p.2.sqT t2 q, p.2.sqT t2 q2⟩) (fun i x y T σ' H' hx hy p hT => ?_) (fun σ' H' p => hd σ' H' (x2.trans p.2) (by rw [← len]; exact p.1))⟩⟩
  obtain ⟨d, hd', rd⟩ := dpA_getV r hx
  obtain ⟨d2, hd2, rd2⟩ := dpA_getV r2 hy
  have x3 : Ext G H' (upd H' T (.tup [x, y])) := Ext.new hT
  have x4 := p.2.trans x3
  exact hs i d d2 x y T σ' _ _ hd' hd2 p.1 (x2.trans x4) (dp_ext x4 t2 rd) (dp_ext x4 t2 rd2) upd_same (t2.ext x4) fun σ2 H3 y w => ⟨w, x4.trans y⟩
/-- while -/
theorem s_while {c : TT} {tb : TS} {D : Ends} (tG : TabsG G H) (Pv : L2.St → Hp → Prop) (μ : L2.St → Nat) (b : L2.St → Bool) (h0 : Pv σ H)
    (hc : ∀ σ' H', Pv σ' H' → Ext G H H' → EdT G c σ' H' (b σ'))
    (hs : ∀ σ' H' (N : L2.St → Hp → Prop), Pv σ' H' → Ext G H H' → b σ' = true → TabsG G H' → (∀ σ2 H2, Ext G H' H2 → Pv σ2 H2 → μ σ2 < μ σ' → N σ2 H2) → tb { D with nx := N, ct := N, bk := D.nx } σ' H')
    (hp : ∀ σ' H1 H2, Ext G H1 H2 → TabsG G H1 → Pv σ' H1 → Pv σ' H2)
    (hd : ∀ σ' H', Ext G H H' → Pv σ' H' → b σ' = false → D.nx σ' H') (mono : ∀ σ H Q Q', (∀ b H1, Q b H1 → Q' b H1) → c σ H Q → c σ H Q') : tWhile c tb D σ H := by
  refine while_by (fun σ' H' => Pv σ' H' ∧ Ext G H H') (fun σ' _ => μ σ') ⟨h0, Ext.refl G H⟩ (fun σ' H' p => ?_) mono
  refine hc σ' H' p.1 p.2 H' (Ext.refl G H') _ fun H2 x2 => ?_
  have t1 := tG.ext p.2
  cases hb : b σ' with
  | true =>
    rw [if_pos rfl]
    exact hs σ' H2 _ (hp _ _ _ x2 t1 p.1) (p.2.trans x2) hb (t1.ext x2) fun σ2 H3 y w l => ⟨⟨w, (p.2.trans x2).trans y⟩, l⟩
  | false =>
    rw [if_neg Bool.false_ne_true]
    exact hd σ' H2 (p.2.trans x2) (hp _ _ _ x2 t1 p.1) hb
end
end Dl
set_option Elab.async false
set_option linter.all false
set_option maxRecDepth 100000
set_option maxHeartbeats 2000000
/-! terms -/
namespace Rh
open PySem PySem.Spec PyProof.Rows L2 GxR Gx Dl

def isVarS (x : Str) : Bool := match x.cps.toList with
  | [] => false
  | c :: r => decide (c ∈ (Str.ofString "uvwxyz").cps.toList) && r.all fun d => decide (d ∈ (Str.ofString "0123456789").cps.toList)

/-- terms of signs with at most two parts -/
inductive T where
  | v (x : Str)
  | c (s : Str)
  | u (s : Str) (t : T)
  | b (s : Str) (t r : T)
  deriving DecidableEq
def T.sgn : T → Str
  | .v x => x
  | .c s => s
  | .u s _ => s
  | .b s _ _ => s
def T.parts : T → List T
  | .v _ => []
  | .c _ => []
  | .u _ t => [t]
  | .b _ t r => [t, r]
def T.isV : T → Bool
  | .v _ => true
  | _ => false
def enc : T → PyData
  | .v x => .str x
  | .c s => .tuple [.str s, .tuple []]
  | .u s t => .tuple [.str s, .tuple [enc t]]
  | .b s t r => .tuple [.str s, .tuple [enc t, enc r]]
theorem enc_v {t : T} (h : t.isV = true) : enc t = .str t.sgn := by cases t <;> first | rfl | cases h
theorem enc_n {t : T} (h : t.isV = false) : enc t = .tuple [.str t.sgn, .tuple (t.parts.map enc)] := by cases t <;> first | rfl | cases h
def T.dp : T → Nat
  | .v _ => 0
  | .c _ => 0
  | .u _ t => t.dp + 1
  | .b _ t r => max t.dp r.dp + 1
theorem T.dp_parts {t p : T} (h : p ∈ t.parts) : p.dp < t.dp := by
  cases t with
  | v x => cases h
  | c s => cases h
  | u s t =>
    rw [T.parts, List.mem_singleton] at h
    subst h
    exact Nat.lt_succ_self _
  | b s t r =>
    rw [T.parts, List.mem_cons, List.mem_singleton] at h
    show _ < max t.dp r.dp + 1
    rcases h with h | h <;> subst h <;> omega
def T.size : T → Nat
  | .v _ => 1
  | .c _ => 1
  | .u _ t => t.size + 1
  | .b _ t r => t.size + r.size + 1
theorem T.size_parts {t p : T} (h : p ∈ t.parts) : p.size < t.size := by
  cases t with
  | v x => cases h
  | c s => cases h
  | u s t =>
    rw [T.parts, List.mem_singleton] at h
    subst h
    exact Nat.lt_succ_self _
  | b s t r =>
    rw [T.parts, List.mem_cons, List.mem_singleton] at h
    show _ < t.size + r.size + 1
    rcases h with h | h <;> subst h <;> omega
/-- the variables are variables, not too long -/
def T.ok : T → Prop
  | .v x => isVarS x = true ∧ x.length ≤ 100000 ∧ PyData.strOk x = true
  | .c s => PyData.strOk s = true
  | .u s t => PyData.strOk s = true ∧ t.ok
  | .b s t r => PyData.strOk s = true ∧ t.ok ∧ r.ok
theorem T.ok_parts {t p : T} (o : t.ok) (h : p ∈ t.parts) : p.ok := by
  cases t with
  | v x => cases h
  | c s => cases h
  | u s t =>
    rw [T.parts, List.mem_singleton] at h
    subst h
    exact o.2
  | b s t r =>
    rw [T.parts, List.mem_cons, List.mem_singleton] at h
    rcases h with h | h <;> subst h
    · exact o.2.1
    · exact o.2.2
theorem T.parts_len (t : T) : t.parts.length ≤ 2 := by cases t <;> simp [T.parts]
theorem T.parts_v {t : T} (h : t.isV = true) : t.parts = [] := by cases t <;> first | rfl | cases h

theorem eqv_enc : ∀ t r : T, PyData.eqv (enc t) (enc r) = decide (t = r)
  | .v x, .v y => by
    simp only [enc, PyData.eqv, T.v.injEq]
    by_cases h : x = y <;> simp [h]
  | .v _, .c _ => rfl
  | .v _, .u _ _ => rfl
  | .v _, .b _ _ _ => rfl
  | .c _, .v _ => rfl
  | .u _ _, .v _ => rfl
  | .b _ _ _, .v _ => rfl
  | .c x, .c y => by
    simp only [enc, PyData.eqv, PyData.eqvAll, T.c.injEq, Bool.and_true]
    by_cases h : x = y <;> simp [h]
  | .c _, .u _ _ => by simp [enc, PyData.eqv, PyData.eqvAll]
  | .c _, .b _ _ _ => by simp [enc, PyData.eqv, PyData.eqvAll]
  | .u _ _, .c _ => by simp [enc, PyData.eqv, PyData.eqvAll]
  | .b _ _ _, .c _ => by simp [enc, PyData.eqv, PyData.eqvAll]
  | .u _ _, .b _ _ _ => by simp [enc, PyData.eqv, PyData.eqvAll]
  | .b _ _ _, .u _ _ => by simp [enc, PyData.eqv, PyData.eqvAll]
  | .u s t, .u s' t' => by
    simp only [enc, PyData.eqv, PyData.eqvAll, T.u.injEq, Bool.and_true, eqv_enc t t']
    by_cases h : s = s' <;> by_cases h2 : t = t' <;> simp [h, h2]
  | .b s t r, .b s' t' r' => by
    simp only [enc, PyData.eqv, PyData.eqvAll, T.b.injEq, Bool.and_true, eqv_enc t t', eqv_enc r r']
    by_cases h : s = s' <;> by_cases h2 : t = t' <;> by_cases h3 : r = r' <;> simp [h, h2, h3]
theorem pu_enc : ∀ t : T, Pu (enc t) = true
  | .v _ => rfl
  | .c _ => rfl
  | .u _ t => by simp [enc, Pu, PuA, pu_enc t]
  | .b _ t r => by simp [enc, Pu, PuA, pu_enc t, pu_enc r]
theorem enc_inj {t r : T} (h : enc t = enc r) : t = r := by
  have e := eqv_enc t r
  rw [h, eqv_enc r r] at e
  simpa using e.symm
open Classical in
noncomputable def dec (d : PyData) : T := if h : ∃ t, enc t = d then h.choose else .c (Str.ofString "")
theorem dec_enc (t : T) : dec (enc t) = t := by
  unfold dec
  rw [dif_pos ⟨t, rfl⟩]
  exact enc_inj (Exists.choose_spec (p := fun r => enc r = enc t) ⟨t, rfl⟩)
theorem shaped_enc {t : T} (o : t.ok) (h : t.dp ≤ 30) : SeqAt.shaped (enc t) = true := by
  have c : ∀ t : T, t.ok → PyData.canLay0 (enc t) = true := fun t => by
    induction t with
    | v x => intro o; simp [enc, PyData.canLay0, o.2.2]
    | c s => intro o; simp [enc, PyData.canLay0, PyData.canLayAll0, show PyData.strOk s = true from o]
    | u s t ih => intro o; simp [enc, PyData.canLay0, PyData.canLayAll0, ih o.2, o.1]
    | b s t r ih ih2 => intro o; simp [enc, PyData.canLay0, PyData.canLayAll0, ih o.2.1, ih2 o.2.2, o.1]
  have d : ∀ t : T, (enc t).depth ≤ 2 * t.dp + 2 := fun t => by
    induction t with
    | v x => simp [enc, PyData.depth]
    | c s => simp [enc, PyData.depth, PyData.depthAll]
    | u s t ih => simp [enc, PyData.depth, PyData.depthAll, T.dp]; omega
    | b s t r ih ih2 => simp [enc, PyData.depth, PyData.depthAll, T.dp]; omega
  unfold SeqAt.shaped
  rw [c t o, Bool.true_and]
  have := d t
  exact decide_eq_true (by omega)
end Rh
set_option Elab.async false
set_option linter.all false
set_option maxRecDepth 100000
set_option maxHeartbeats 2000000
/-! defs that can be called -/
namespace Dl
open PySem PySem.Spec PyProof.Rows L2 GxR Gx

structure DefF (K : PySem.W.Frag) (mg : Str → Option Value) (base : Heap) (G : List Addr) (x : Str) (st : Stmt) (ps : List Str) (f : Addr) (fd : FuncData) : Prop where
  cP : ∃ c Pt, FunC K x x st f fd c ∧ TabB base mg c Pt ∧ Pt ∈ G
  b : Binds K fd ps []
  m : mg x = some (.ref f)
structure Cl0 (P : Program) (w : World) (K : PySem.W.Frag) (mg : Str → Option Value) (base : Heap) (k : Nat) (x : Str) (sp : Sp) : Prop where
  ex : ∃ f fd ps, FnOk P w K mg base CX0 k f fd ps sp ∧ mg x = some (.ref f) ∧ PySem.W.keepIn K (.ref f) = true ∧ Binds K fd ps []
section
variable {X : Cx} {k : Nat} {x : Str} {sp sp' : Sp} {E : XK} {p pos : Pos} {e : Expr} {es : List Expr} {t : TA} {P : Program} {w : World} {K : PySem.W.Frag} {mg : Str → Option Value} {base : Heap} {G : List Addr}
theorem Cl0.mono (C : Cl0 P w K mg base k x sp) {j : Nat} (h : k ≤ j) : Cl0 P w K mg base j x sp := by
  obtain ⟨f, fd, ps, a, b⟩ := C.ex
  exact ⟨f, fd, ps, a.mono h, b⟩
theorem Cl0.imp (C : Cl0 P w K mg base k x sp) (h : ∀ vs H Q E, sp' vs H Q E → sp vs H Q E) : Cl0 P w K mg base k x sp' := by
  obtain ⟨f, fd, ps, a, b⟩ := C.ex
  exact ⟨f, fd, ps, a.imp h, b⟩
theorem pe_cl (C : Cl0 X.prog X.w X.K X.mg X.base k x sp) (hr : Room k X.A) (hg : Gl X x) (ha : PA X (e :: es) t) (hdb : (x == ("__debug__" : Str)) = false := by decide)
    (he : starEach (e :: es) X.env = (false, eval e X.env) :: starEach es X.env := by rfl) (hpl : (backTo pos (starEach es X.env)).any (·.1) = false := by rfl) :
    PE X (.Call (.Name x p) (e :: es) [] pos) (tCall sp [] (fun _ _ _ => False) t) := by
  obtain ⟨f, fd, ps, F, m, kp, b⟩ := C.ex
  exact pe_call F hr hg m kp b .nil pass0 ha hdb he hpl
theorem DefF.cl {st : Stmt} {f : Addr} {fd : FuncData} {N ps : List Str} {R : List Ar → PyData → Prop} (D : DefF K mg base G x st ps f fd) (S : FnScope N ps (defScope st)) (len : ∀ ds d, R ds d → ds.length = ps.length)
    (hbody : ∀ (c Pt : Addr) (A : Around) (outer : List Env) (s : Shared) (H : Hp) (vs : List V) (ds : List Ar) (d : PyData) (Q : VK) (E : XK), TabB base mg c Pt → Pt ∈ G → Room k (A.deeper (envOfC x (defScope st) s.heap.objs.size f (.ref c))) →
      TabsG G H → ArA K H vs ds → R ds d → (∀ v H', Ext G H H' → Dp K H' v d → Q v H') →
      ∃ t, PSs (cxOf CX0 P w K mg base N x (defScope st) f (.ref c) A outer s H E).nox (defBody st) t ∧ t { nx := fun _ H' => Q .non H', rt := Q } (start N vs) H) : Cl0 P w K mg base (k + 1) x (spA G K R) := by
  obtain ⟨c, Pt, F, TB, hP⟩ := D.cP
  exact ⟨f, fd, ps, F.okA S len fun A outer s H vs ds d Q E hr tG h1 h2 q => hbody c Pt A outer s H vs ds d Q E TB hP hr tG h1 h2 q, D.m, F.kp, D.b⟩
end
section
variable {G : List Addr} {K : PySem.W.Frag} {σ : L2.St} {H H' : Hp} {ta tb te : TE} {tA : TA} {d e f : PyData} {b : Bool}
/-- a term's own shape -/
theorem rd_eqT {t r : Rh.T} (o : t.ok) (o2 : r.ok) (h : t.dp ≤ 30) (h2 : r.dp ≤ 30) : Rd2 G K (rEqD K) (Rh.enc t) (Rh.enc r) (.bool (decide (t = r))) H := by
  rw [← Rh.eqv_enc t r]
  exact rd_eqD (Rh.shaped_enc o h) (Rh.shaped_enc o2 h2)
theorem rd_neT {t r : Rh.T} (o : t.ok) (o2 : r.ok) (h : t.dp ≤ 30) (h2 : r.dp ≤ 30) : Rd2 G K (rNeD K) (Rh.enc t) (Rh.enc r) (.bool (!decide (t = r))) H := by
  rw [← Rh.eqv_enc t r]
  exact rd_neD (Rh.shaped_enc o h) (Rh.shaped_enc o2 h2)
/-- part of a term -/
theorem ed_parts {t : Rh.T} (tG : TabsG G H) (hv : t.isV = false) (h : Ed G K te σ H (Rh.enc t)) : Ed G K (tOp (rIxT K) te (tC (.int 1))) σ H (.tuple (t.parts.map Rh.enc)) := by
  rw [Rh.enc_n hv] at h
  exact ed_op tG h ed_int (rd_ixT (by decide) rfl)
theorem ed_sgn {t : Rh.T} (tG : TabsG G H) (hv : t.isV = false) (h : Ed G K te σ H (Rh.enc t)) : Ed G K (tOp (rIxT K) te (tC (.int 0))) σ H (.str t.sgn) := by
  rw [Rh.enc_n hv] at h
  exact ed_op tG h ed_int (rd_ixT (by decide) rfl)
/-- walks over a term's parts -/
theorem ed_allP {P : Addr} {i : Nat} {vs : List Nat} {ts : List Rh.T} {p : Rh.T → Bool} (hP : P ∈ G) (tG : TabsG G H) (h : Ed G K te σ H (.tuple (ts.map Rh.enc))) (hi : i ∈ vs)
    (hb : ∀ t v H1, t ∈ ts → Ext G H H1 → TabsG G H1 → Dp K H1 v (Rh.enc t) → Ed G K tb ((wipe σ vs).set i (some v)) H1 (.bool (p t))) : Ed G K (tAllG P (iTup K te) (gName i) tYes tb vs) σ H (.bool (ts.all p)) := by
  have z := ed_allT (p := fun d => p (Rh.dec d)) hP tG h hi (fun d v H1 hd x t1 r => by
    obtain ⟨t, ht, rfl⟩ := List.mem_map.mp hd
    rw [Rh.dec_enc]
    exact hb t v H1 ht x t1 r)
  refine ed_is z ?_
  rw [List.all_map]
  simp [Function.comp_def, Rh.dec_enc]
theorem ed_anyP {P : Addr} {i : Nat} {vs : List Nat} {ts : List Rh.T} {p : Rh.T → Bool} (hP : P ∈ G) (tG : TabsG G H) (h : Ed G K te σ H (.tuple (ts.map Rh.enc))) (hi : i ∈ vs)
    (hb : ∀ t v H1, t ∈ ts → Ext G H H1 → TabsG G H1 → Dp K H1 v (Rh.enc t) → Ed G K tb ((wipe σ vs).set i (some v)) H1 (.bool (p t))) : Ed G K (tAnyG P (iTup K te) (gName i) tYes tb vs) σ H (.bool (ts.any p)) := by
  have z := ed_anyT (p := fun d => p (Rh.dec d)) hP tG h hi (fun d v H1 hd x t1 r => by
    obtain ⟨t, ht, rfl⟩ := List.mem_map.mp hd
    rw [Rh.dec_enc]
    exact hb t v H1 ht x t1 r)
  refine ed_is z ?_
  rw [List.any_map]
  simp [Function.comp_def, Rh.dec_enc]
theorem ed_sumP {P : Addr} {i : Nat} {vs : List Nat} {ts : List Rh.T} {p : Rh.T → Int} (hP : P ∈ G) (tG : TabsG G H) (h : Ed G K te σ H (.tuple (ts.map Rh.enc))) (hi : i ∈ vs)
    (hb : ∀ t v H1, t ∈ ts → Ext G H H1 → TabsG G H1 → Dp K H1 v (Rh.enc t) → Ed G K tb ((wipe σ vs).set i (some v)) H1 (.int (p t))) : Ed G K (tSumG P (iTup K te) (gName i) tYes tb vs) σ H (.int (ts.map p).sum) := by
  have z := ed_sumT (p := fun d => p (Rh.dec d)) hP tG h hi (fun d v H1 hd x t1 r => by
    obtain ⟨t, ht, rfl⟩ := List.mem_map.mp hd
    rw [Rh.dec_enc]
    exact hb t v H1 ht x t1 r)
  refine ed_is z ?_
  rw [List.map_map]
  simp [Function.comp_def, Rh.dec_enc]
theorem ed_lcP {i : Nat} {vs : List Nat} {ts : List Rh.T} {g : Rh.T → PyData} (tG : TabsG G H) (hl : ts.length ≤ 1000) (h : Ed G K te σ H (.tuple (ts.map Rh.enc))) (hi : i ∈ vs) (hp : ∀ t ∈ ts, Pu (g t) = true)
    (hb : ∀ t v H1, t ∈ ts → Ext G H H1 → TabsG G H1 → Dp K H1 v (Rh.enc t) → Ed G K tb ((wipe σ vs).set i (some v)) H1 (g t)) : Ed G K (tLc (iTup K te) (gName i) tYes tb vs) σ H (.list (ts.map g)) := by
  have z := ed_lcT (g := fun d => g (Rh.dec d)) tG (by rw [List.length_map]; exact Nat.le_trans hl (by decide)) h hi (fun d hd => by
    obtain ⟨t, ht, rfl⟩ := List.mem_map.mp hd
    rw [Rh.dec_enc]
    exact hp t ht) (fun d v H1 hd x t1 r => by
    obtain ⟨t, ht, rfl⟩ := List.mem_map.mp hd
    rw [Rh.dec_enc]
    exact hb t v H1 ht x t1 r)
  refine ed_is z ?_
  rw [List.map_map]
  simp [Function.comp_def, Rh.dec_enc]
end
end Dl
set_option Elab.async false
set_option linter.all false
set_option maxRecDepth 100000
set_option maxHeartbeats 2000000
namespace Dl
open PySem PySem.Spec PyProof.Rows L2 GxR Gx
section
variable {G : List Addr} {K : PySem.W.Frag} {σ : L2.St} {H H' : Hp} {ta tb tc te : TE} {tA : TA} {d e f : PyData} {ds es : List PyData} {b c : Bool}
/-- while, with a ghost -/
theorem s_whileG {α : Type} {tt : TT} {ts : TS} {D : Ends} (tG : TabsG G H) (Pv : α → L2.St → Hp → Prop) (μ : α → Nat) (b : α → Bool) (a0 : α) (h0 : Pv a0 σ H)
    (hc : ∀ a σ' H', Pv a σ' H' → TabsG G H' → EdT G tt σ' H' (b a))
    (hs : ∀ a σ' H' (N : L2.St → Hp → Prop), Pv a σ' H' → Ext G H H' → b a = true → TabsG G H' → (∀ a2 σ2 H2, Ext G H' H2 → Pv a2 σ2 H2 → μ a2 < μ a → N σ2 H2) → ts { D with nx := N, ct := N, bk := D.nx } σ' H')
    (hp : ∀ a σ' H1 H2, Ext G H1 H2 → TabsG G H1 → Pv a σ' H1 → Pv a σ' H2)
    (hd : ∀ a σ' H', Ext G H H' → Pv a σ' H' → b a = false → D.nx σ' H') : tWhile tt ts D σ H := by
  refine ⟨fun m σ' H' => ∃ a, m = μ a ∧ Pv a σ' H' ∧ Ext G H H', ⟨_, a0, rfl, h0, Ext.refl G H⟩, ?_⟩
  rintro m σ' H' ⟨a, rfl, p, x⟩
  have t1 := tG.ext x
  refine hc a σ' H' p t1 H' (Ext.refl G H') _ fun H2 x2 => ?_
  cases hb : b a with
  | true =>
    rw [if_pos rfl]
    exact ⟨fun σ2 H3 => ∃ a2, Pv a2 σ2 H3 ∧ Ext G H H3 ∧ μ a2 < μ a, fun σ2 H3 ⟨a2, w, y, l⟩ => ⟨_, l, a2, rfl, w, y⟩,
      hs a σ' H2 _ (hp _ _ _ _ x2 t1 p) (x.trans x2) hb (t1.ext x2) fun a2 σ2 H3 y w l => ⟨a2, w, (x.trans x2).trans y, l⟩⟩
  | false =>
    rw [if_neg Bool.false_ne_true]
    exact hd a σ' H2 (x.trans x2) (hp _ _ _ _ x2 t1 p) hb
/-- a < b < c -/
theorem ed_chain {r r' : R2} (tG : TabsG G H) (ha : Ed G K ta σ H d) (hb : Ed G K tb σ H e) (hr : Rd2 G K r d e (.bool b) H) (hc : Ed G K tc σ H f) (hr2 : Rd2 G K r' e f (.bool c) H) : Ed G K (tChain r r' ta tb tc) σ H (.bool (b && c)) := fun H1 x Q q =>
  ha H1 x _ fun v H2 x2 rv => hb H2 (x.trans x2) _ fun u H3 x3 ru => hr H3 ((x.trans x2).trans x3) v u (dp_ext x3 ((tG.ext x).ext x2) rv) ru _ fun w H4 x4 rw_ => ⟨b, dp_bl rw_, by
    have x14 := (x2.trans x3).trans x4
    cases b with
    | true =>
      show tc σ H4 _
      refine hc H4 (x.trans x14) _ fun z H5 x5 rz => hr2 H5 ((x.trans x14).trans x5) u z (dp_ext (x4.trans x5) (((tG.ext x).ext x2).ext x3) ru) rz Q fun y H6 x6 ry => q y H6 ((x14.trans x5).trans x6) ry
    | false => exact q _ H4 x14 (.bl false)⟩
/-- x in a tuple of texts -/
theorem inV_cons (x y : V) (vs : List V) : inV x (y :: vs) = (eqV y x || inV x vs) := List.any_cons
theorem inV_strs {x : Str} : ∀ {vs : List V} {xs : List Str}, DpAll K H vs (xs.map PyData.str) → vs.all flatV = true ∧ inV (.str x) vs = decide (x ∈ xs)
  | _, [], .nil => ⟨rfl, rfl⟩
  | _, y :: r, .cons a s => by
    have ih := inV_strs (x := x) s
    rw [dp_str a]
    refine ⟨by rw [List.all_cons, ih.1]; rfl, ?_⟩
    rw [inV_cons, ih.2]
    show ((y == x) || decide (x ∈ r)) = _
    by_cases h : x = y
    · subst h; simp
    · have h' : ¬ y = x := fun z => h z.symm
      simp [h, h']
theorem rd_inT {x : Str} {xs : List Str} : Rd2 G K (rIn K false) (.str x) (.tuple (xs.map PyData.str)) (.bool (decide (x ∈ xs))) H := fun H1 _ v u rv ru Q q => by
  obtain ⟨a, vs, rfl, hs, hr⟩ := dp_tup ru
  have z := inV_strs (x := x) hr
  rw [dp_str rv]
  refine ⟨a, vs, rfl, .inr hs, rfl, z.1, ?_⟩
  rw [z.2]
  exact q _ H1 (Ext.refl G H1) (.bl _)
theorem rd_gtI' {i j : Int} : Rd2 G K (rI0 fun i j => .bl (decide (j < i))) (.int i) (.int j) (.bool (decide (j < i))) H := rd_gtI
theorem rd_neI {i j : Int} : Rd2 G K rNe (.int i) (.int j) (.bool (!decide (i = j))) H := fun H1 _ v u rv ru Q q => by
  rw [dp_int rv, dp_int ru]
  refine ⟨rfl, q _ H1 (Ext.refl G H1) ?_⟩
  have e : decide ((V.int i) = V.int j) = decide (i = j) := by
    by_cases h : i = j
    · subst h; simp
    · rw [decide_eq_false h, decide_eq_false (fun z => h (by injection z))]
  rw [e]
  exact .bl _
theorem rd_eqI {i j : Int} : Rd2 G K rEq (.int i) (.int j) (.bool (decide (i = j))) H := fun H1 _ v u rv ru Q q => by
  rw [dp_int rv, dp_int ru]
  refine ⟨rfl, q _ H1 (Ext.refl G H1) ?_⟩
  have e : decide ((V.int i) = V.int j) = decide (i = j) := by
    by_cases h : i = j
    · subst h; simp
    · rw [decide_eq_false h, decide_eq_false (fun z => h (by injection z))]
  rw [e]
  exact .bl _
end
end Dl
set_option Elab.async false
set_option linter.all false
set_option maxRecDepth 100000
set_option maxHeartbeats 2000000
namespace Dl
open PySem PySem.Spec PyProof.Rows L2 GxR Gx
def addS (zs : List Str) (x : Str) : List Str := if x ∈ zs then zs else zs ++ [x]
def ddS (ns : List Str) : List Str := ns.foldl addS []
def mkT (zs : List Str) : List (Key × V) := zs.map fun x => ((Sum.inr x : Key), V.bl true)
theorem valV_mkT (zs : List Str) (x : Str) : valV (mkT zs) (.inr x) = if x ∈ zs then some (V.bl true) else none := by
  induction zs with
  | nil => rfl
  | cons y r ih =>
    show valV ((Sum.inr y, V.bl true) :: mkT r) (.inr x) = _
    by_cases h : y = x
    · subst h
      rw [valV_pos rfl]
      simp
    · rw [valV_neg (fun z => h (by injection z)), ih]
      have h' : ¬ x = y := fun z => h z.symm
      simp [h']
theorem putK_mkT (zs : List Str) (x : Str) : putK (mkT zs) (.inr x) (.bl true) = mkT (addS zs x) := by
  unfold addS
  by_cases h : x ∈ zs
  · rw [if_pos h]
    have e : (mkT zs).any (fun kv => decide (kv.1 = (Sum.inr x : Key))) = true := by
      rw [valV_any, valV_mkT, if_pos h]
      rfl
    unfold putK
    rw [if_pos e]
    unfold mkT
    rw [List.map_map]
    refine List.map_congr_left fun y _ => ?_
    show (if (Sum.inr y : Key) = Sum.inr x then (Sum.inr y, V.bl true) else (Sum.inr y, V.bl true)) = _
    split <;> rfl
  · rw [if_neg h, putK_new _ (by rw [valV_mkT, if_neg h])]
    unfold mkT
    rw [List.map_append]
    rfl
theorem addS_len (zs : List Str) (x : Str) : (addS zs x).length ≤ zs.length + 1 := by
  unfold addS
  split
  · omega
  · simp
theorem foldS_len : ∀ (ns zs : List Str), (ns.foldl addS zs).length ≤ zs.length + ns.length
  | [], zs => by simp
  | x :: r, zs => by
    have a := foldS_len r (addS zs x)
    have b := addS_len zs x
    simp only [List.foldl_cons, List.length_cons]
    omega
theorem addS_mem {zs : List Str} {x y : Str} : y ∈ addS zs x ↔ y ∈ zs ∨ y = x := by
  unfold addS
  split
  · refine ⟨.inl, fun h => ?_⟩
    rcases h with h | h
    · exact h
    · subst h; assumption
  · simp
theorem foldS_mem {y : Str} : ∀ (ns zs : List Str), y ∈ ns.foldl addS zs ↔ y ∈ zs ∨ y ∈ ns
  | [], zs => by simp
  | x :: r, zs => by
    rw [List.foldl_cons, foldS_mem r, addS_mem, List.mem_cons]
    constructor
    · rintro ((h | h) | h)
      · exact .inl h
      · exact .inr (.inl h)
      · exact .inr (.inr h)
    · rintro (h | h | h)
      · exact .inl (.inl h)
      · exact .inl (.inr h)
      · exact .inr h
theorem ddS_mem {ns : List Str} {y : Str} : y ∈ ddS ns ↔ y ∈ ns := by
  unfold ddS
  rw [foldS_mem]
  simp
theorem ddS_len (ns : List Str) : (ddS ns).length ≤ ns.length := by
  have h := foldS_len ns []
  unfold ddS
  simpa using h
theorem flat_take {ds : List PyData} {ks : PyData → List Str} {i : Nat} {d : PyData} (h : ds[i]? = some d) : (ds.take (i + 1)).flatMap ks = (ds.take i).flatMap ks ++ ks d := by
  rw [take_snoc h, List.flatMap_append]
  simp
section
variable {G : List Addr} {K : PySem.W.Frag} {σ : L2.St} {H H' : Hp} {ta tb tc te te1 : TE} {tA : TA} {d e f : PyData} {ds es : List PyData}
theorem dkR_mkT : ∀ zs : List Str, DkR K H (mkT zs) (zs.map fun x => ((Sum.inr x : Key), PyData.bool true))
  | [] => .nil
  | _ :: r => .cons (.bl true) (dkR_mkT r)
/-- {x: True for d in t for x in u} -/
theorem edx_dc2 {i j : Nat} {vs vs1 : List Nat} {ks : PyData → List Str} (tG : TabsG G H) (hl : (ds.flatMap ks).length < sizeLine) (h : Ed G K te σ H (.tuple ds)) (hi : i ∈ vs) (hj : j ∈ vs1) (hjl : j < σ.length)
    (hb : ∀ d v H1, d ∈ ds → Ext G H H1 → TabsG G H1 → Dp K H1 v d → Ed G K te1 ((wipe σ vs).set i (some v)) H1 (.tuple ((ks d).map PyData.str))) :
    EdX G K (tDc2 (iTup K te) (gName i) tYes (iTup K te1) (gName j) tYes (tVar j) (tC (.bl true)) vs vs1) σ H (.k ((ddS (ds.flatMap ks)).map fun x => ((Sum.inr x : Key), PyData.bool true))) := fun H1 x Q q =>
  h H1 x _ fun v H2 x2 rv => by
    obtain ⟨a, xs, rfl, hs, hr⟩ := dp_tup rv
    have len := dpA_len hr
    have t2 := (tG.ext x).ext x2
    refine ⟨a, rfl, ⟨xs, hs⟩, fun D hD => ?_⟩
    refine ⟨fun k m Hk => m = xs.length - k ∧ k ≤ xs.length ∧ Ext G H2 Hk ∧ Hk D = some (.dK (mkT (ddS ((ds.take k).flatMap ks)))), ⟨xs.length, rfl, Nat.zero_le _, Ext.new hD, by rw [List.take_zero]; exact upd_same⟩, ?_⟩
    rintro k m Hk ⟨rfl, hk, y1, e1⟩
    have qk : SqT K Hk a xs := y1.sqT t2 hs
    by_cases hlt : k < xs.length
    · refine .inr ⟨⟨xs, xs[k], qk, by simp [hlt]⟩, fun H' => Ext G H2 H' ∧ H' D = some (.dK (mkT (ddS ((ds.take (k + 1)).flatMap ks)))), fun H' z => ⟨xs.length - (k + 1), by omega, rfl, hlt, z.1, z.2⟩, fun y H' hy => ?_⟩
      obtain ⟨e, hy⟩ := hy
      subst e
      have hk' := hy xs qk
      obtain ⟨d, hd', rd⟩ := dpA_getV hr hk'
      have tk := t2.ext y1
      refine ⟨wipe_set σ vs i (some y) hi, ?_⟩
      dsimp only [tYes]
      refine iteT ?_
      refine hb d y _ (List.mem_of_getElem? hd') ((x.trans x2).trans y1) tk (dp_ext y1 t2 rd) _ (Ext.refl G _) _ fun w H4 y4 rw_ => ?_
      obtain ⟨b, ys, rfl, hsb, hrb⟩ := dp_tup rw_
      have e4 : H4 D = some (.dK (mkT (ddS ((ds.take k).flatMap ks)))) := y4.at tk e1 (fun ps z => by cases z)
      have lenb := dpA_len hrb
      rw [List.length_map] at lenb
      have lb : ((ds.take k).flatMap ks ++ ks d).length < sizeLine := by
        rw [← flat_take hd']
        refine Nat.lt_of_le_of_lt ?_ hl
        conv => rhs; rw [← List.take_append_drop (k + 1) ds, List.flatMap_append, List.length_append]
        exact Nat.le_add_right _ _
      refine ⟨b, rfl, ⟨ys, hsb⟩, ?_⟩
      refine ⟨fun l m Hl => m = ys.length - l ∧ l ≤ ys.length ∧ Ext G H2 Hl ∧ SqT K Hl b ys ∧ Hl D = some (.dK (mkT (ddS ((ds.take k).flatMap ks ++ (ks d).take l)))), ⟨ys.length, rfl, Nat.zero_le _, y1.trans y4, hsb, by rw [List.take_zero, List.append_nil]; exact e4⟩, ?_⟩
      rintro l m Hl ⟨rfl, hl', z1, z2, z3⟩
      by_cases hlt2 : l < ys.length
      · refine .inr ⟨⟨ys, ys[l], z2, by simp [hlt2]⟩, fun H' => Ext G H2 H' ∧ SqT K H' b ys ∧ H' D = some (.dK (mkT (ddS ((ds.take k).flatMap ks ++ (ks d).take (l + 1))))), fun H' z => ⟨ys.length - (l + 1), by omega, rfl, hlt2, z.1, z.2.1, z.2.2⟩, fun u H' hu => ?_⟩
        obtain ⟨e, hu⟩ := hu
        subst e
        have hu' := hu ys z2
        obtain ⟨d2, hd2, rd2⟩ := dpA_getV hrb hu'
        rw [List.getElem?_map] at hd2
        obtain ⟨c, hc, rfl⟩ := Option.map_eq_some_iff.mp hd2
        rw [dp_str rd2]
        refine ⟨wipe_set _ vs1 j (some (.str c)) hj, ?_⟩
        dsimp only [tYes]
        refine iteT ?_
        refine ⟨.str c, ?_, mkT (ddS ((ds.take k).flatMap ks ++ (ks d).take l)), .inr c, rfl, z3, ?_, ?_, ?_, ?_⟩
        · rw [List.getElem?_set]
          rw [if_pos rfl, if_pos]
          rw [wipe_length, List.length_set, wipe_length]
          exact hjl
        · unfold mkT
          rw [List.length_map]
          refine Nat.lt_of_le_of_lt (ddS_len _) (Nat.lt_of_le_of_lt ?_ lb)
          rw [List.length_append, List.length_append]
          have := List.length_take_le l (ks d)
          omega
        · exact z1.mut hD z3 (fun ps z => by cases z)
        · exact sqT_updD z3 z2
        · rw [upd_same, putK_mkT, take_snoc hc, ← List.append_assoc]
          unfold ddS
          rw [List.foldl_append (l' := [c])]
          rfl
      · have e : l = (ks d).length := by omega
        subst e
        refine .inl ⟨⟨ys, z2, by omega⟩, z1, ?_⟩
        rw [List.take_length] at z3
        rw [flat_take hd']
        exact z3
    · have e : k = ds.length := by omega
      subst e
      refine .inl ⟨⟨xs, qk, by omega⟩, q _ Hk (x2.trans y1) ⟨D, _, rfl, e1, ?_⟩⟩
      rw [List.take_length]
      exact dkR_mkT _
end
/-! sorted texts -/
theorem cps_ext {x y : Str} (h : x.cps.toList = y.cps.toList) : x = y := Str.ext' (Array.toList_inj.mp h)
def leS (a b : Str) : Bool := !ltCps b.cps.toList a.cps.toList
theorem leS_iff {a b : Str} : leS a b = true ↔ a.cps.toList ≤ b.cps.toList := by
  unfold leS
  rw [ltCps_eq, Bool.not_eq_true', decide_eq_false_iff_not]
  exact Iff.rfl
theorem leS_trans (a b c : Str) (h1 : leS a b = true) (h2 : leS b c = true) : leS a c = true := leS_iff.mpr (List.le_trans (leS_iff.mp h1) (leS_iff.mp h2))
theorem leS_total (a b : Str) : (leS a b || leS b a) = true := by
  rcases List.le_total a.cps.toList b.cps.toList with h | h
  · rw [leS_iff.mpr h]; rfl
  · rw [leS_iff.mpr h, Bool.or_true]
theorem leS_anti {a b : Str} (h1 : leS a b = true) (h2 : leS b a = true) : a = b := cps_ext (List.le_antisymm (leS_iff.mp h1) (leS_iff.mp h2))
def srtS (ks : List Str) : List Str := ks.mergeSort leS
theorem risingS_pw : ∀ (l : List Str) (p : Str), risingS p l = true → (p :: l).Pairwise (fun a b => leS a b = true)
  | [], p, _ => List.pairwise_singleton _ _
  | x :: r, p, h => by
    rw [risingS, Bool.and_eq_true] at h
    have ih := risingS_pw r x h.2
    have hx : leS p x = true := h.1
    refine List.pairwise_cons.mpr ⟨fun y hy => ?_, ih⟩
    rcases List.mem_cons.mp hy with e | hy
    · rw [e]; exact hx
    · exact leS_trans p x y hx ((List.pairwise_cons.mp ih).1 y hy)
theorem sortedS_pw : ∀ l : List Str, sortedS l = true → l.Pairwise (fun a b => leS a b = true)
  | [], _ => .nil
  | x :: r, h => risingS_pw r x h
theorem sorted_is {ys ks : List Str} (p : ys.Perm ks) (h : sortedS ys = true) : ys = srtS ks :=
  List.Perm.eq_of_pairwise (le := fun a b => leS a b = true) (fun a b _ _ h1 h2 => leS_anti h1 h2) (sortedS_pw ys h) (List.pairwise_mergeSort leS_trans leS_total ks) (p.trans (List.mergeSort_perm ks leS).symm)
theorem srtS_mem {ks : List Str} {x : Str} : x ∈ srtS ks ↔ x ∈ ks := (List.mergeSort_perm ks leS).mem_iff
theorem srtS_len {ks : List Str} : (srtS ks).length = ks.length := (List.mergeSort_perm ks leS).length_eq
theorem dpA_strs {K : PySem.W.Frag} {H : Hp} : ∀ ys : List Str, DpAll K H (ys.map V.str) (ys.map PyData.str)
  | [] => .nil
  | _ :: r => .cons (.str _) (dpA_strs r)
theorem dkR_keys {K : PySem.W.Frag} {H : Hp} : ∀ {kvs : List (Key × V)} {es : List (Key × PyData)}, DkR K H kvs es → kvs.map (·.1) = es.map (·.1)
  | _, _, .nil => rfl
  | _, _, .cons _ r => by rw [List.map_cons, List.map_cons, dkR_keys r]
/-- sorted(d), d a dict of texts -/
theorem ed_sortedD {G : List Addr} {K : PySem.W.Frag} {σ : L2.St} {H : Hp} {te : TE} {zs : List Str} {c : Str → PyData} (tG : TabsG G H) (h64 : zs.length < 64) (h : EdX G K te σ H (.k (zs.map fun x => ((Sum.inr x : Key), c x)))) :
    Ed G K (tCB (fun xs H Q => ∃ (a : Addr) (kvs : List (Key × V)) (ks : List Str), xs = [.ref a] ∧ Rd H a (.dK kvs) ∧ kvs.map (·.1) = ks.map Sum.inr ∧ ks.length < 64 ∧ ∀ ys p, ys.Perm ks → sortedS ys = true → H p = none → Q (.ref p) (upd H p (.lst (ys.map V.str)))) (tCons te tNil)) σ H (.list ((srtS zs).map PyData.str)) := fun H1 x Q q =>
  h H1 x _ fun v H2 x2 rv => by
    obtain ⟨a, kvs, rfl, ha, r⟩ := rv
    refine ⟨a, kvs, zs, rfl, .inl ha, by rw [dkR_keys r, List.map_map]; rfl, h64, fun ys p hp hs hn => ?_⟩
    rw [sorted_is hp hs]
    exact q _ _ (x2.trans (Ext.new hn)) (dp_newL hn ((tG.ext x).ext x2) (dpA_strs _))
end Dl
set_option Elab.async false
set_option linter.all false
set_option maxRecDepth 100000
set_option maxHeartbeats 2000000
/-! for i, x in enumerate(t), t a tuple -/
namespace Gx
open PySem PySem.Spec PyProof.Rows L2 GxR
set_option maxHeartbeats 1000000 in
theorem meets_enumerate_B1 {v : Value} {o : Obj} {H : Heap → Prop} (B : Begins v o H) :
    Meets (Builtin.«enumerate.__new__» ⟨[.type "enumerate", v], []⟩) (fun _ R s => H s.heap ∧
      R (.ok (.ret (.ref (s.heap.push o).objs.size))) { s with heap := (s.heap.push o).push { cls := .type "enumerate", data := .fields #[.none, .bool false, .ref s.heap.objs.size, rawInt 0, .none, .none] } }) :=
  .of_wp fun prog w A R s h => by
    obtain ⟨hp, g, d, tk, os⟩ := s; obtain ⟨h1, h⟩ := h
    have hsub := sub_enumerate
    have q1 : ∀ {A' : Around} {E : Value → Shared → Prop} {Q : Value → Shared → Prop}, Q (.ref hp.objs.size) ⟨hp.push o, g, d, tk, os⟩ → wpAny (model prog w) A' (pyIter v) Q E ⟨hp, g, d, tk, os⟩ :=
      fun q => B.iter prog w _ _ ⟨hp, g, d, tk, os⟩ _ h1 q
    wp_walk using q1
    refine wpAny_stack_any fun st => wpAny_pure ?_
    split
    · rename_i c _ _ _ _ _
      cases (c == Value.type "enumerate")
      · wp_walk using q1
        exact ⟨_, rfl, h⟩
      · wp_walk using q1
        exact ⟨_, rfl, h⟩
    · wp_walk using q1
      exact ⟨_, rfl, h⟩
theorem call_enumerate_tup {prog : Program} {w : World} {A : Around} {E : Value → Shared → Prop} {s : Shared} {t : Addr} {items : Array Value} {Q : Value → Shared → Prop} (hT : s.heap.IsTuple t items)
    (h : ∀ h', IsEnum h' (s.heap.objs.size + 1) s.heap.objs.size 0 .none → h'.IsTupleIter s.heap.objs.size t 0 → h'.objs.size = s.heap.objs.size + 2 →
      (∀ b o, s.heap.get? b = some o → h'.get? b = some o) → Q (.ref (s.heap.objs.size + 1)) { s with heap := h' }) :
    wpAny (model prog w) A (call (.type "enumerate") [.ref t]) Q E s := by
  refine callType_new F.called_enumerate (by decide) (F.typeCall_enumerate_1 _) (F.newCall_enumerate_1 _) (fun obj => F.args_object_init_2 obj _) F.entry_enumerate_new
    (meets_enumerate_B1 (begins_tuple t items)) ⟨hT, ?_⟩
  have hz : (s.heap.push { cls := .type "tuple_iterator", data := .fields #[.ref t, .int 0 0] }).objs.size = s.heap.objs.size + 1 := Heap.size_push ..
  show _ ∧ _
  rw [hz]
  have he : IsEnum ((s.heap.push { cls := .type "tuple_iterator", data := .fields #[.ref t, .int 0 0] }).push
      { cls := .type "enumerate", data := .fields #[.none, .bool false, .ref s.heap.objs.size, rawInt 0, .none, .none] }) (s.heap.objs.size + 1) s.heap.objs.size 0 .none := by
    have := Heap.get?_push_size (s.heap.push { cls := .type "tuple_iterator", data := .fields #[.ref t, .int 0 0] })
      (o := { cls := .type "enumerate", data := .fields #[.none, .bool false, .ref s.heap.objs.size, rawInt 0, .none, .none] }) rfl
    rw [hz] at this; exact this
  refine ⟨⟨_, he, rfl⟩, h _ he ⟨_, Heap.get?_push_of_some _ (Heap.get?_push_size _ rfl), rfl, rfl⟩ (by rw [Heap.size_push, hz]) fun b o x => Heap.get?_push_of_some _ (Heap.get?_push_of_some _ x)⟩
def IteT (K : PySem.W.Frag) (a : Addr) : It :=
  ⟨fun i H => ∃ (xs : List V) (x : V), SqT K H a xs ∧ xs[i]? = some x, fun i H v H' => ∃ T x, v = .ref T ∧ H T = none ∧ H' = upd H T (.tup [.int (i : Nat), x]) ∧ ∀ xs, SqT K H a xs → xs[i]? = some x, fun i H => ∃ xs : List V, SqT K H a xs ∧ xs.length = i⟩
theorem isTuple_of {h : Heap} {a : Addr} {its : Array Value} (t : IsTup h a its) : h.IsTuple a its := by
  obtain ⟨o, e, c, n, d⟩ := t
  exact ⟨o, e, c, n, d⟩
theorem turn_enumT {P : Program} {w : World} {K : PySem.W.Frag} {elts : List Expr} {kk : Nat} {tpos : Pos} (a e it : Addr) :
    Turn P w K (.Tuple elts kk tpos) (IteT K a) [e, it] e (fun i h => (∃ old, IsEnum h e it ((i : Nat) : Int) old) ∧ h.IsTupleIter it a i ∧ e ≠ it) where
  mem := by simp
  obj := fun i h st b hb => by
    obtain ⟨⟨old, he⟩, ⟨o, ho, hc, hd⟩, _⟩ := st
    have e' : b = e ∨ b = it := by simpa using hb
    rcases e' with z | z
    · rw [z]; exact ⟨_, he, fun v q => nomatch q⟩
    · rw [z]; exact ⟨o, ho, fun v q => by rw [hd] at q; cases q⟩
  keep := fun i h h' st k => let ⟨⟨old, he⟩, hi, hne⟩ := st; ⟨⟨old, k e (by simp) _ he⟩, hi.at fun o q => k it (by simp) o q, hne⟩
  item := by
    intro X hP hw hK hc i pins s σ H E I hf st hg
    subst hP hw hK
    obtain ⟨⟨old, he⟩, hit, hne⟩ := st
    obtain ⟨xs, x, hq, hx⟩ := hg
    obtain ⟨its, rv, p, hz⟩ := I.tuple hq
    obtain ⟨u, hu, ru⟩ := rv.get hx
    have hel : e < s.heap.objs.size := Heap.lt_size he
    have hil : it < s.heap.objs.size := by obtain ⟨_, q, _⟩ := hit; exact Heap.lt_size q
    have hT := isTuple_of p
    have hei : e ∉ [it, a] := by
      intro hm
      rcases List.mem_cons.mp hm with z | hm
      · exact hne z
      · have z := List.mem_singleton.mp hm
        obtain ⟨o, ho, hc2, _⟩ := hT
        rw [← z, he] at ho
        cases ho
        injection hc2 with hc2
        exact absurd hc2 (by decide)
    have hai : a ≠ it := by
      intro z
      obtain ⟨o, ho, hc2, _⟩ := hT
      obtain ⟨o', ho', hc3, _⟩ := hit
      rw [z, ho'] at ho
      cases ho
      rw [hc3] at hc2
      injection hc2 with hc2
      exact absurd hc2 (by decide)
    have lt : i < its.toArray.size := by
      have := (List.getElem?_eq_some_iff.mp hu).1
      simpa using this
    refine wpAny_pyNext_enum_itemD (Draws.tuple (show X.A.in1.handled = none from I.ok.hd hc) it a hai its.toArray) he ⟨hit, hT⟩ lt hne hei fun y h' tk hy ho hit' hT' hsz hk => ?_
    have ey : y = u := by
      have h1 : its.toArray[i]? = some y := hy
      rw [List.getElem?_toArray, hu] at h1
      exact (Option.some.inj h1).symm
    subst ey
    refine ⟨_, rfl, wpAny_letOwnedTupleGo_enum (s := { s with heap := h', toks := tk + 1 }) ho fun h'' he' sb => ?_⟩
    have hT2 : h''.get? s.heap.objs.size = some { cls := .type "tuple", data := .seq #[.int i tk, y] } := (sb.2 _ (Nat.ne_of_gt hel)).trans hT'
    have new : ObjOk X.prog X.w (upd H s.heap.objs.size (.tup [.int (i : Nat), x])) h'' s.heap.objs.size (.tup [.int (i : Nat), x]) :=
      ⟨by show 2 ≤ sizeLine; decide, [.int i tk, y], .cons ⟨_, rfl⟩ (.cons ru .nil), ⟨_, hT2, rfl, _, rfl⟩⟩
    have I1 : Inv X pins σ (upd H s.heap.objs.size (.tup [.int (i : Nat), x])) { s with heap := h'', toks := tk + 1 } :=
      I.turnedNew (ch := [e, it]) (fun b ob hb q => (sb.2 b (fun z => hb (by simp [z]))).trans (hk b ob (fun z => hb (by simp [z])) (fun z => hb (by simp [z])) q)) hf (Nat.le_refl _) new
    refine ⟨.ref s.heap.objs.size, _, I1, rfl, ⟨_, x, rfl, I.hok.fresh (Nat.le_refl _), rfl, fun ys hy => by rw [I.tuple_inj hy hq]; exact hx⟩, ⟨⟨y, ?_⟩, hit'.1.at fun o q => (sb.2 it (Ne.symm hne)).trans q, hne⟩, fun b hb => ?_⟩
    · have e1 : ((i + 1 : Nat) : Int) = (i : Int) + 1 := by omega
      rw [e1]; exact he'
    · have hb' : b < s.heap.objs.size := by
        have e' : b = e ∨ b = it := by simpa using hb
        rcases e' with z | z
        · rw [z]; exact hel
        · rw [z]; exact hil
      rw [upd_ne (Nat.ne_of_lt hb')]
      exact (hf b hb).1
  done := by
    intro X hP hw hK hc i pins s σ H E I hf st hg
    subst hP hw hK
    obtain ⟨⟨old, he⟩, hit, hne⟩ := st
    obtain ⟨xs, hq, hx⟩ := hg
    obtain ⟨its, rv, p, hz⟩ := I.tuple hq
    obtain ⟨f0, f1, f2, f3, f4, f5⟩ := hf it (by simp)
    have hl := rv.length
    have hT := isTuple_of p
    have hai : a ≠ it := by
      intro z
      obtain ⟨o, ho, hc2, _⟩ := hT
      obtain ⟨o', ho', hc3, _⟩ := hit
      rw [z, ho'] at ho
      cases ho
      rw [hc3] at hc2
      injection hc2 with hc2
      exact absurd hc2 (by decide)
    have e2 : its.toArray.size = i := by rw [List.size_toArray, ← hl]; exact hx
    exact wpAny_pyNext_enum_endD (Draws.tuple (show X.A.in1.handled = none from I.ok.hd hc) it a hai its.toArray) he ⟨by rw [e2]; exact hit, hT⟩ fun h' eb => ⟨rfl, I.turned (t' := s.toks) (fun b o hb q => eb b o hb q) f0 f1 f3 f4 f5⟩
  self := fun A i s Q E st h => let ⟨⟨_, he⟩, _⟩ := st; wpAny_pyIter_enum he h
def iEnumT (K : PySem.W.Frag) (ta : TA) : TI := fun σ H R => ta σ H fun vs H1 => ∃ a xs, vs = [.ref a] ∧ SqT K H1 a xs ∧ R (IteT K a) H1
theorem pi_enumT {X : Cx} {e : Expr} {ta : TA} {p pos tpos : Pos} {elts : List Expr} {kk : Nat} (hg : Gl X "enumerate") (hm : X.mg "enumerate" = none) (ha : PA X [e] ta) (hs : starEach [e] X.env = [(false, eval e X.env)] := by rfl) :
    PI X (.Tuple elts kk tpos) (.Call (.Name "enumerate" p) [e] [] pos) (iEnumT X.K ta) := by
  refine ⟨fun pins s σ H R I h => ?_⟩
  refine Call_ (ld_blt I hg hm boot_enumerate (PyProof.Rows.callWith_type1 (thn (ha.run pos pins s σ H _ I h) fun us s1 ⟨vs, H1, I1, r1, q1⟩ => ?_) hs rfl))
  obtain ⟨a, xs, ex, hq, q⟩ := q1
  subst ex
  cases r1 with
  | cons r rr =>
    cases rr
    cases r
    obtain ⟨its, rv, p', hz⟩ := I1.tuple hq
    refine call_enumerate_tup (isTuple_of p') fun h' he hit hsz hk => wpAny_pyIter_enum he ?_
    have I2 : Inv X pins σ H1 { s1 with heap := h' } := I1.kept (t' := s1.toks) hk
    refine ⟨s1.heap.objs.size + 1, [s1.heap.objs.size + 1, s1.heap.objs.size], _, _, H1, rfl, I2, turn_enumT a (s1.heap.objs.size + 1) s1.heap.objs.size, ⟨⟨.none, he⟩, hit, Nat.succ_ne_self _⟩, fun b hb => ?_, q⟩
    have e' : b = s1.heap.objs.size + 1 ∨ b = s1.heap.objs.size := by simpa using hb
    have hle : s1.heap.objs.size ≤ b := by
      rcases e' with z | z
      · rw [z]; exact Nat.le_add_right _ _
      · rw [z]; exact Nat.le_refl _
    exact I1.fpOk hle (I1.hok.fresh hle)
end Gx
set_option Elab.async false
set_option linter.all false
set_option maxRecDepth 100000
set_option maxHeartbeats 2000000
namespace Dl
open PySem PySem.Spec PyProof.Rows L2 GxR Gx
section
variable {G : List Addr} {K : PySem.W.Frag} {σ : L2.St} {H H' : Hp} {ta tb tc te te1 : TE} {tA : TA} {d e f : PyData} {ds es : List PyData}
/-- for x in t; the invariant sees the heap -/
theorem s_forTH {tb : TS} {D : Ends} {g : TG} (tG : TabsG G H) (h : Ed G K te σ H (.tuple ds)) (Pv : Nat → L2.St → Hp → Prop) (h0 : ∀ H1, Ext G H H1 → Pv 0 σ H1)
    (hs : ∀ i d v σ' H' (N : L2.St → Hp → Prop), ds[i]? = some d → Pv i σ' H' → Ext G H H' → Dp K H' v d → TabsG G H' → (∀ σ2 H2, Ext G H' H2 → Pv (i + 1) σ2 H2 → N σ2 H2) → g v σ' H' fun σ2 H2 => tb { D with nx := N, ct := N, bk := D.nx } σ2 H2)
    (hd : ∀ σ' H', Ext G H H' → Pv ds.length σ' H' → D.nx σ' H') : tFor (iTup K te) g tb D σ H := h H (Ext.refl G H) _ fun v H2 x2 rv => by
  obtain ⟨a, xs, rfl, q, r⟩ := dp_tup rv
  have t2 := tG.ext x2
  have len := dpA_len r
  refine ⟨a, rfl, ⟨xs, q⟩, for_tup (a := a) (xs := xs) (fun i σ' H' => Pv i σ' H' ∧ Ext G H2 H') ⟨h0 H2 x2, Ext.refl G H2⟩ (fun i σ' H' _ p => p.2.sqT t2 q) (fun i x σ' H' hx p => ?_) (fun σ' H' p => hd σ' H' (x2.trans p.2) (by rw [← len]; exact p.1))⟩
  obtain ⟨d, hd', rd⟩ := dpA_getV r hx
  exact hs i d x σ' H' _ hd' p.1 (x2.trans p.2) (dp_ext p.2 t2 rd) (t2.ext p.2) fun σ2 H3 y w => ⟨w, p.2.trans y⟩
end
def flatE (f : Nat → PyData → List PyData) : Nat → List PyData → List PyData
  | _, [] => []
  | i, d :: r => f i d ++ flatE f (i + 1) r
theorem flatE_take (f : Nat → PyData → List PyData) : ∀ (ds : List PyData) (o n : Nat) (d : PyData), ds[n]? = some d → flatE f o (ds.take (n + 1)) = flatE f o (ds.take n) ++ f (o + n) d
  | [], _, n, _, h => by simp at h
  | x :: r, o, 0, d, h => by
    have e := Option.some.inj h
    subst e
    simp [flatE]
  | x :: r, o, n + 1, d, h => by
    have ih := flatE_take f r (o + 1) n d h
    rw [List.take_succ_cons, List.take_succ_cons, flatE, flatE, ih, List.append_assoc, show o + 1 + n = o + (n + 1) by omega]
theorem flatE_le (f : Nat → PyData → List PyData) : ∀ (ds : List PyData) (o n : Nat), (flatE f o (ds.take n)).length ≤ (flatE f o ds).length
  | [], _, n => by simp
  | x :: r, o, 0 => by simp [flatE]
  | x :: r, o, n + 1 => by
    rw [List.take_succ_cons, flatE, flatE, List.length_append, List.length_append]
    exact Nat.add_le_add_left (flatE_le f r (o + 1) n) _
theorem flatE_mem (f : Nat → PyData → List PyData) : ∀ (ds : List PyData) (o : Nat) (z : PyData), z ∈ flatE f o ds → ∃ n d, ds[n]? = some d ∧ z ∈ f (o + n) d
  | [], _, z, h => by simp [flatE] at h
  | x :: r, o, z, h => by
    rw [flatE, List.mem_append] at h
    rcases h with h | h
    · exact ⟨0, x, rfl, h⟩
    · obtain ⟨n, d, h1, h2⟩ := flatE_mem f r (o + 1) z h
      exact ⟨n + 1, d, h1, by rw [show o + (n + 1) = o + 1 + n by omega]; exact h2⟩
theorem wipe_setG (σ : L2.St) (vs : List Nat) (i : Nat) (x : Option V) (hi : i ∈ vs) : wipe (σ.set i x) vs = wipe σ vs := by
  apply List.ext_getElem?
  intro k
  rw [wipe_at, wipe_at, List.length_set]
  by_cases hk : k ∈ vs ∧ k < σ.length
  · rw [if_pos hk, if_pos hk]
  · rw [if_neg hk, if_neg hk, List.getElem?_set]
    by_cases e : i = k
    · subst e
      have : ¬ i < σ.length := fun z => hk ⟨hi, z⟩
      simp [this]
    · rw [if_neg e]
section
variable {G : List Addr} {K : PySem.W.Frag} {σ : L2.St} {H H' : Hp} {ta tb tc te te1 : TE} {tA : TA} {d e f : PyData} {ds es : List PyData}
/-- [e for i, x in enumerate(t) for y in u] -/
theorem ed_lc2E {i j k : Nat} {vs vs1 : List Nat} {ks : Nat → PyData → List PyData} {g : Nat → PyData → PyData → PyData} (tG : TabsG G H) (hl : (flatE (fun n d => (ks n d).map (g n d)) 0 ds).length < sizeLine)
    (h : Ed G K te σ H (.tuple ds)) (hi : i ∈ vs) (hj : j ∈ vs) (hk : k ∈ vs1) (hp : ∀ n d e, ds[n]? = some d → e ∈ ks n d → Pu e = true ∧ Pu (g n d e) = true)
    (hb : ∀ (n : Nat) d v H1, ds[n]? = some d → Ext G H H1 → TabsG G H1 → Dp K H1 v d → Ed G K te1 (((wipe σ vs).set i (some (.int n))).set j (some v)) H1 (.tuple (ks n d)))
    (he : ∀ (n : Nat) d e v w H1, ds[n]? = some d → e ∈ ks n d → Ext G H H1 → TabsG G H1 → Dp K H1 v d → Dp K H1 w e → Ed G K tc ((wipe (((wipe σ vs).set i (some (.int n))).set j (some v)) vs1).set k (some w)) H1 (g n d e)) :
    Ed G K (tLc2 (iEnumT K (tCons te tNil)) (gTup K 2 (gCons (gName i) (gCons (gName j) gNil))) tYes (iTup K te1) (gName k) tYes tc vs vs1) σ H (.list (flatE (fun n d => (ks n d).map (g n d)) 0 ds)) := fun H1 x Q q =>
  h H1 x _ fun v H2 x2 rv => by
    obtain ⟨a, xs, rfl, hs, hr⟩ := dp_tup rv
    have len := dpA_len hr
    have t2 := (tG.ext x).ext x2
    refine ⟨a, xs, rfl, hs, fun D hD => ?_⟩
    refine ⟨fun n m Hk => m = xs.length - n ∧ n ≤ xs.length ∧ Ext G H2 Hk ∧ ∃ acc, Hk D = some (.lst acc) ∧ DpAll K Hk acc (flatE (fun n d => (ks n d).map (g n d)) 0 (ds.take n)), ⟨xs.length, rfl, Nat.zero_le _, Ext.new hD, [], upd_same, by rw [List.take_zero]; exact .nil⟩, ?_⟩
    rintro n m Hk ⟨rfl, hn, y1, acc, e1, r1⟩
    have qk : SqT K Hk a xs := y1.sqT t2 hs
    have tk := t2.ext y1
    by_cases hlt : n < xs.length
    · refine .inr ⟨⟨xs, xs[n], qk, by simp [hlt]⟩, fun H' => Ext G H2 H' ∧ ∃ acc, H' D = some (.lst acc) ∧ DpAll K H' acc (flatE (fun n d => (ks n d).map (g n d)) 0 (ds.take (n + 1))), fun H' z => ⟨xs.length - (n + 1), by omega, rfl, hlt, z.1, z.2⟩, fun y H' hy => ?_⟩
      obtain ⟨T, y, rfl, hT, rfl, hy⟩ := hy
      have hk' := hy xs qk
      obtain ⟨d, hd', rd⟩ := dpA_getV hr hk'
      have xT : Ext G Hk (upd Hk T (.tup [.int n, y])) := Ext.new hT
      refine ⟨T, [.int n, y], rfl, .inl (.inl upd_same), rfl, .int n, [y], rfl, y, [], rfl, rfl, ?_⟩
      refine ⟨by rw [wipe_setG _ _ _ _ hj, wipe_setG _ _ _ _ hi, wipe_wipe], ?_⟩
      dsimp only [tYes]
      refine iteT ?_
      have tT := tk.ext xT
      refine hb n d y _ hd' ((x.trans x2).trans (y1.trans xT)) tT (dp_ext (y1.trans xT) t2 rd) _ (Ext.refl G _) _ fun w H4 y4 rw_ => ?_
      obtain ⟨b, ys, rfl, hsb, hrb⟩ := dp_tup rw_
      have y5 := xT.trans y4
      have e4 : H4 D = some (.lst acc) := y5.at tk e1 (fun ps z => by cases z)
      have r4 := dpA_ext y5 tk r1
      have lenb := dpA_len hrb
      refine ⟨b, rfl, ⟨ys, hsb⟩, ?_⟩
      refine ⟨fun l m Hl => m = ys.length - l ∧ l ≤ ys.length ∧ Ext G H2 Hl ∧ SqT K Hl b ys ∧ DpAll K Hl ys (ks n d) ∧ ∃ acc, Hl D = some (.lst acc) ∧ DpAll K Hl acc (flatE (fun n d => (ks n d).map (g n d)) 0 (ds.take n) ++ ((ks n d).take l).map (g n d)), ⟨ys.length, rfl, Nat.zero_le _, y1.trans y5, hsb, hrb, acc, e4, by rw [List.take_zero, List.map_nil, List.append_nil]; exact r4⟩, ?_⟩
      rintro l m Hl ⟨rfl, hl', z1, z2, z3, acc2, z4, z5⟩
      by_cases hlt2 : l < ys.length
      · refine .inr ⟨⟨ys, ys[l], z2, by simp [hlt2]⟩, fun H' => Ext G H2 H' ∧ SqT K H' b ys ∧ DpAll K H' ys (ks n d) ∧ ∃ acc, H' D = some (.lst acc) ∧ DpAll K H' acc (flatE (fun n d => (ks n d).map (g n d)) 0 (ds.take n) ++ ((ks n d).take (l + 1)).map (g n d)), fun H' z => ⟨ys.length - (l + 1), by omega, rfl, hlt2, z.1, z.2.1, z.2.2.1, z.2.2.2⟩, fun u H' hu => ?_⟩
        obtain ⟨e, hu⟩ := hu
        subst e
        have hu' := hu ys z2
        obtain ⟨d2, hd2, rd2⟩ := dpA_getV z3 hu'
        have hm2 := List.mem_of_getElem? hd2
        refine ⟨wipe_set _ vs1 k (some u) hk, ?_⟩
        dsimp only [tYes]
        refine iteT ?_
        have tl := t2.ext z1
        refine he n d d2 y u _ hd' hm2 ((x.trans x2).trans z1) tl (dp_ext z1 t2 rd) rd2 _ (Ext.refl G _) _ fun w5 H6 y6 rw5 => ?_
        have e6 := y6.at tl z4 (fun ps z => by cases z)
        have hpu := hp n d d2 hd' hm2
        have snoc : (flatE (fun n d => (ks n d).map (g n d)) 0 (ds.take n) ++ ((ks n d).take (l + 1)).map (g n d)) = (flatE (fun n d => (ks n d).map (g n d)) 0 (ds.take n) ++ ((ks n d).take l).map (g n d)) ++ [g n d d2] := by
          rw [take_snoc hd2, List.map_append, ← List.append_assoc]
          rfl
        have hle : (flatE (fun n d => (ks n d).map (g n d)) 0 (ds.take n) ++ ((ks n d).take (l + 1)).map (g n d)).length < sizeLine := by
          refine Nat.lt_of_le_of_lt ?_ hl
          refine Nat.le_trans ?_ (flatE_le (fun n d => (ks n d).map (g n d)) ds 0 (n + 1))
          rw [flatE_take _ _ _ _ _ hd', List.length_append, List.length_append, List.length_map, Nat.zero_add, List.length_map]
          have := List.length_take_le (l + 1) (ks n d)
          have h2 : ((ks n d).take (l + 1)).length ≤ (ks n d).length := by rw [List.length_take]; omega
          omega
        refine ⟨acc2, e6, ?_, ?_, ?_, ?_, acc2 ++ [w5], upd_same, ?_⟩
        · have := dpA_len z5
          rw [snoc, List.length_append, List.length_singleton] at hle
          omega
        · exact (z1.trans y6).mut hD e6 (fun ps z => by cases z)
        · exact sqT_upd e6 (y6.sqT tl z2)
        · exact dpA_tups (fun a xs q => sqT_upd e6 q) (puA_all.mpr fun z hz => (hp n d z hd' hz).1) (dpA_ext y6 tl z3)
        · rw [snoc]
          refine dpA_tups (fun a xs q => sqT_upd e6 q) (puA_all.mpr fun z hz => ?_) (dpA_app (dpA_ext y6 tl z5) (.cons rw5 .nil))
          have hg : ∀ d0 n0, ds[n0]? = some d0 → ∀ z, z ∈ (ks n0 d0).map (g n0 d0) → Pu z = true := fun d0 n0 h0 z hz => by
            obtain ⟨e0, he0, rfl⟩ := List.mem_map.mp hz
            exact (hp n0 d0 e0 h0 he0).2
          rcases List.mem_append.mp hz with hz | hz
          · rcases List.mem_append.mp hz with hz | hz
            · obtain ⟨n0, d0, h0, hz⟩ := flatE_mem _ _ _ _ hz
              have h0' : ds[n0]? = some d0 := by
                rw [List.getElem?_take] at h0
                split at h0
                · exact h0
                · cases h0
              rw [Nat.zero_add] at hz
              exact hg d0 n0 h0' z hz
            · refine hg d n hd' z ?_
              obtain ⟨e0, he0, rfl⟩ := List.mem_map.mp hz
              exact List.mem_map.mpr ⟨e0, List.mem_of_mem_take he0, rfl⟩
          · rw [List.mem_singleton.mp hz]
            exact hpu.2
      · have e : l = (ks n d).length := by omega
        subst e
        refine .inl ⟨⟨ys, z2, by omega⟩, z1, acc2, z4, ?_⟩
        rw [List.take_length] at z5
        rw [flatE_take _ _ _ _ _ hd', Nat.zero_add]
        exact z5
    · have e : n = ds.length := by omega
      subst e
      rw [List.take_length] at r1
      exact .inl ⟨⟨xs, qk, len⟩, q _ Hk (x2.trans y1) (.lst (.inl (.inl e1)) r1)⟩
end
end Dl
set_option Elab.async false
set_option linter.all false
set_option maxRecDepth 100000
set_option maxHeartbeats 1000000
/-! more that is told as data: new lists, comprehensions with a test, slices -/
namespace Dl
open PySem PySem.Spec PyProof.Rows L2 GxR Gx
/-- a reading that yields a list that is tracked -/
def EdL (G : List Addr) (K : PySem.W.Frag) (te : TE) (σ : L2.St) (H : Hp) (ds : List PyData) : Prop := ∀ H1, Ext G H H1 → ∀ Q : VK, (∀ p vs H2, Ext G H1 H2 → H2 p = some (.lst vs) → DpAll K H2 vs ds → Q (.ref p) H2) → te σ H1 Q
section
variable {G : List Addr} {K : PySem.W.Frag} {σ : L2.St} {H H' : Hp} {ta tb te : TE} {tA : TA} {tt : TT} {d e f : PyData} {ds es : List PyData} {b c : Bool}
theorem EdL.ed (h : EdL G K te σ H ds) : Ed G K te σ H (.list ds) := fun H1 x Q q => h H1 x Q fun p vs H2 x2 e r => q _ H2 x2 (.lst (.inl (.inl e)) r)
theorem EdL.mono (x : Ext G H H') (h : EdL G K te σ H ds) : EdL G K te σ H' ds := fun H1 a Q q => h H1 (x.trans a) Q q
theorem edl_is (h : EdL G K te σ H ds) (e' : ds = es) : EdL G K te σ H es := e' ▸ h
theorem edl_lst (tG : TabsG G H) (h : EdA G K tA σ H ds) (hl : ds.length ≤ sizeLine) : EdL G K (tLst tA) σ H ds := fun H1 x Q q =>
  h H1 x _ fun vs H2 x2 rs => ⟨by rw [dpA_len rs]; exact hl, fun p hp => q p vs _ (x2.trans (Ext.new hp)) upd_same (dpA_ext (Ext.new (G := G) hp) ((tG.ext x).ext x2) rs)⟩
theorem edl_cat (tG : TabsG G H) (ha : EdL G K ta σ H ds) (hb : EdL G K tb σ H es) (hl : ds.length + es.length ≤ sizeLine) : EdL G K (tOp rCat ta tb) σ H (ds ++ es) := fun H1 x Q q =>
  ha H1 x _ fun p vs H2 x2 e2 r2 => hb H2 (x.trans x2) _ fun b zs H3 x3 e3 r3 => by
    have t2 := (tG.ext x).ext x2
    have r2' := dpA_ext x3 t2 r2
    refine ⟨p, b, vs, zs, rfl, rfl, x3.at t2 e2 (fun ps z => by cases z), e3, by rw [dpA_len r2', dpA_len r3]; exact hl, fun c hc => ?_⟩
    have x4 : Ext G H3 (upd H3 c (.lst (vs ++ zs))) := Ext.new hc
    exact q c _ _ ((x2.trans x3).trans x4) upd_same (dpA_ext x4 (t2.ext x3) (dpA_app r2' r3))
theorem filter_snoc {α : Type} {p : α → Bool} {l : List α} {k : Nat} {x : α} (h : l[k]? = some x) : (l.take (k + 1)).filter p = (l.take k).filter p ++ (if p x = true then [x] else []) := by
  rw [take_snoc h, List.filter_append]
  cases e : p x <;> simp [e]
/-- one turn of a comprehension -/
theorem lc_turn {H2 Hk : Hp} {D : Addr} {acc : List V} {g : PyData → PyData} {p : PyData → Bool} {k : Nat} {σ' : L2.St} {tt : TT} {tb : TE} (tG : TabsG G H2) (hD : H2 D = none) (y1 : Ext G H2 Hk) (e1 : Hk D = some (.lst acc)) (el : acc.length ≤ k) (hk : k < sizeLine) (e3 : DpAll K Hk acc (((ds.take k).filter p).map g)) (hd : ds[k]? = some d)
    (hp : ∀ d ∈ ds, Pu (g d) = true) (ht : EdT G tt σ' Hk (p d)) (hb : p d = true → Ed G K tb σ' Hk (g d)) :
    tt σ' Hk fun b H3 => if b = true then tb σ' H3 fun y H4 => ∃ acc, H4 D = some (.lst acc) ∧ acc.length < sizeLine ∧ (Ext G H2 (upd H4 D (.lst (acc ++ [y]))) ∧ ∃ acc', (upd H4 D (.lst (acc ++ [y]))) D = some (.lst acc') ∧ acc'.length ≤ k + 1 ∧ DpAll K (upd H4 D (.lst (acc ++ [y]))) acc' (((ds.take (k + 1)).filter p).map g))
      else Ext G H2 H3 ∧ ∃ acc', H3 D = some (.lst acc') ∧ acc'.length ≤ k + 1 ∧ DpAll K H3 acc' (((ds.take (k + 1)).filter p).map g) := by
  have td := tG.ext y1
  refine ht Hk (Ext.refl G Hk) _ fun H3 x3 => ?_
  have e3' : H3 D = some (.lst acc) := x3.at td e1 (fun ps z => by cases z)
  cases hpd : p d with
  | true =>
    rw [if_pos rfl]
    refine hb hpd H3 x3 _ fun w H4 y4 rw_ => ?_
    have e4 : H4 D = some (.lst acc) := y4.at (td.ext x3) e3' (fun ps z => by cases z)
    have xx := x3.trans y4
    refine ⟨acc, e4, by omega, (y1.trans xx).mut hD e4 (fun ps z => by cases z), acc ++ [w], upd_same, by rw [List.length_append]; simp; omega, ?_⟩
    rw [filter_snoc hd, if_pos hpd, List.map_append]
    refine dpA_tups (fun a xs q => sqT_upd e4 q) (puA_all.mpr fun z hz => ?_) (dpA_app (dpA_ext xx td e3) (.cons rw_ .nil))
    rcases List.mem_append.mp hz with hz | hz
    · obtain ⟨d', hd', rfl⟩ := List.mem_map.mp hz
      exact hp d' (List.mem_of_mem_take (List.mem_filter.mp hd').1)
    · obtain ⟨d', hd', rfl⟩ := List.mem_map.mp hz
      rw [List.mem_singleton.mp hd']
      exact hp d (List.mem_of_getElem? hd)
  | false =>
    rw [if_neg Bool.false_ne_true]
    refine ⟨y1.trans x3, acc, e3', by omega, ?_⟩
    rw [filter_snoc hd, if_neg (by rw [hpd]; decide), List.append_nil]
    exact dpA_ext x3 td e3
/-- [.. for x in t if ..], t a tuple -/
theorem edl_lcTF {i : Nat} {vs : List Nat} {g : PyData → PyData} {p : PyData → Bool} (tG : TabsG G H) (hl : ds.length ≤ sizeLine) (h : Ed G K te σ H (.tuple ds)) (hi : i ∈ vs) (hp : ∀ d ∈ ds, Pu (g d) = true)
    (ht : ∀ d v H1, d ∈ ds → Ext G H H1 → TabsG G H1 → Dp K H1 v d → EdT G tt ((wipe σ vs).set i (some v)) H1 (p d))
    (hb : ∀ d v H1, d ∈ ds → p d = true → Ext G H H1 → TabsG G H1 → Dp K H1 v d → Ed G K tb ((wipe σ vs).set i (some v)) H1 (g d)) : EdL G K (tLc (iTup K te) (gName i) tt tb vs) σ H ((ds.filter p).map g) := fun H1 x Q q =>
  h H1 x _ fun v H2 x2 rv => by
    obtain ⟨a, xs, rfl, hs, hr⟩ := dp_tup rv
    have len := dpA_len hr
    have t2 := (tG.ext x).ext x2
    refine ⟨a, rfl, ⟨xs, hs⟩, fun D hD => ?_⟩
    refine lc_tup (a := a) (xs := xs) (fun k Hk => Ext G H2 Hk ∧ ∃ acc, Hk D = some (.lst acc) ∧ acc.length ≤ k ∧ DpAll K Hk acc (((ds.take k).filter p).map g))
      ⟨Ext.new hD, [], upd_same, Nat.le_refl _, .nil⟩ (fun k Hk _ z => z.1.sqT t2 hs) (fun k y Hk hk z => ?_) (fun Hk z => ?_)
    · obtain ⟨y1, acc, e1, e2, e3⟩ := z
      obtain ⟨d, hd, rd⟩ := dpA_getV hr hk
      have td := t2.ext y1
      have rd' := dp_ext y1 t2 rd
      have md := List.mem_of_getElem? hd
      have hk' := (List.getElem?_eq_some_iff.mp hk).1
      exact ⟨wipe_set σ vs i (some y) hi, lc_turn t2 hD y1 e1 e2 (by omega) e3 hd hp (ht d y Hk md ((x.trans x2).trans y1) td rd') fun hpd => hb d y Hk md hpd ((x.trans x2).trans y1) td rd'⟩
    · obtain ⟨y1, acc, e1, e2, e3⟩ := z
      rw [len, List.take_length] at e3
      exact q D acc Hk (x2.trans y1) e1 e3
/-- the same over a list that stays -/
theorem edl_lcLF {i : Nat} {vs : List Nat} {g : PyData → PyData} {p : PyData → Bool} (tG : TabsG G H) (hl : ds.length ≤ sizeLine) (h : Ed G K te σ H (.list ds)) (hi : i ∈ vs) (hp : ∀ d ∈ ds, Pu (g d) = true)
    (ht : ∀ d v H1, d ∈ ds → Ext G H H1 → TabsG G H1 → Dp K H1 v d → EdT G tt ((wipe σ vs).set i (some v)) H1 (p d))
    (hb : ∀ d v H1, d ∈ ds → p d = true → Ext G H H1 → TabsG G H1 → Dp K H1 v d → Ed G K tb ((wipe σ vs).set i (some v)) H1 (g d)) : EdL G K (tLc (iList K te) (gName i) tt tb vs) σ H ((ds.filter p).map g) := fun H1 x Q q =>
  h H1 x _ fun v H2 x2 rv => by
    obtain ⟨a, xs, rfl, hs, hr⟩ := dp_lst rv
    have len := dpA_len hr
    have t2 := (tG.ext x).ext x2
    refine ⟨a, rfl, ⟨xs, hs⟩, fun D hD => ?_⟩
    refine lc_list (a := a) (xs := xs) (fun k Hk => Ext G H2 Hk ∧ ∃ acc, Hk D = some (.lst acc) ∧ acc.length ≤ k ∧ DpAll K Hk acc (((ds.take k).filter p).map g))
      ⟨Ext.new hD, [], upd_same, Nat.le_refl _, .nil⟩ (fun k Hk _ z => z.1.sqL t2 hs) (fun k y Hk hk z => ?_) (fun Hk z => ?_)
    · obtain ⟨y1, acc, e1, e2, e3⟩ := z
      obtain ⟨d, hd, rd⟩ := dpA_getV hr hk
      have td := t2.ext y1
      have rd' := dp_ext y1 t2 rd
      have md := List.mem_of_getElem? hd
      have hk' := (List.getElem?_eq_some_iff.mp hk).1
      exact ⟨wipe_set σ vs i (some y) hi, lc_turn t2 hD y1 e1 e2 (by omega) e3 hd hp (ht d y Hk md ((x.trans x2).trans y1) td rd') fun hpd => hb d y Hk md hpd ((x.trans x2).trans y1) td rd'⟩
    · obtain ⟨y1, acc, e1, e2, e3⟩ := z
      rw [len, List.take_length] at e3
      exact q D acc Hk (x2.trans y1) e1 e3
/-- .. over range(n) -/
theorem edl_lcRF {i n : Nat} {vs : List Nat} {g : PyData → PyData} {p : PyData → Bool} (tG : TabsG G H) (hn : n < 1000000) (h : EdA G K tA σ H [.int n]) (hi : i ∈ vs) (hp : ∀ k : Nat, Pu (g (.int k)) = true)
    (ht : ∀ (k : Nat) H1, k < n → Ext G H H1 → TabsG G H1 → EdT G tt ((wipe σ vs).set i (some (.int k))) H1 (p (.int k)))
    (hb : ∀ (k : Nat) H1, k < n → p (.int k) = true → Ext G H H1 → TabsG G H1 → Ed G K tb ((wipe σ vs).set i (some (.int k))) H1 (g (.int k))) : EdL G K (tLc (iRng1 tA) (gName i) tt tb vs) σ H ((((List.range n).map fun k : Nat => PyData.int k).filter p).map g) := fun H1 x Q q =>
  h H1 x _ fun ws H2 x2 rs => by
    obtain ⟨v, rfl, rv⟩ := dpA_one rs
    rw [dp_int rv]
    have t2 := (tG.ext x).ext x2
    refine ⟨n, rfl, by omega, by omega, fun D hD => ?_⟩
    have hlen : ((List.range n).map fun k : Nat => PyData.int k).length = n := by simp
    have e0 : ((n : Int)).toNat = n := Int.toNat_natCast n
    rw [e0]
    refine lc_range (lo := 0) (n := n) (fun k Hk => Ext G H2 Hk ∧ ∃ acc, Hk D = some (.lst acc) ∧ acc.length ≤ k ∧ DpAll K Hk acc (((((List.range n).map fun k : Nat => PyData.int k).take k).filter p).map g))
      ⟨Ext.new hD, [], upd_same, Nat.le_refl _, .nil⟩ (fun k Hk hk z => ?_) (fun Hk z => ?_)
    · obtain ⟨y1, acc, e1, e2, e3⟩ := z
      have td := t2.ext y1
      have hd : ((List.range n).map fun k : Nat => PyData.int k)[k]? = some (.int k) := by simp [hk]
      have ek : (0 : Int) + (k : Int) = k := by omega
      rw [ek]
      refine ⟨wipe_set σ vs i _ hi, lc_turn t2 hD y1 e1 e2 (Nat.lt_of_lt_of_le (show k < 1000000 by omega) (by decide)) e3 hd (fun d hd => ?_) (ht k Hk hk ((x.trans x2).trans y1) td) fun hpd => hb k Hk hk hpd ((x.trans x2).trans y1) td⟩
      obtain ⟨j, _, rfl⟩ := List.mem_map.mp hd
      exact hp j
    · obtain ⟨y1, acc, e1, e2, e3⟩ := z
      rw [List.take_of_length_le (by rw [hlen]; exact Nat.le_refl _)] at e3
      exact q D acc Hk (x2.trans y1) e1 e3
theorem edt_yes : EdT G tYes σ H true := fun H1 _ Q q => q H1 (Ext.refl G H1)

/-! slices -/
def cutD (ds : List PyData) (lo hi : Option Int) : List PyData := (ds.drop (HT.sIx ds.length 0 lo)).take (HT.sIx ds.length ds.length hi - HT.sIx ds.length 0 lo)
def EdO (G : List Addr) (tl : TO) (σ : L2.St) (H : Hp) (lo : Option Int) : Prop := ∀ H1, Ext G H H1 → ∀ Q : Option Int → Hp → Prop, (∀ H2, Ext G H1 H2 → Q lo H2) → tl σ H1 Q
theorem edo_none : EdO G tNoPart σ H none := fun H1 _ Q q => q H1 (Ext.refl G H1)
theorem edo_some {i : Int} (h : Ed G K te σ H (.int i)) : EdO G (tPart te) σ H (some i) := fun H1 x Q q => h H1 x _ fun v H2 x2 rv => ⟨i, dp_int rv, q H2 x2⟩
theorem ed_slT {tl th : TO} {lo hi : Option Int} (tG : TabsG G H) (h : Ed G K te σ H (.tuple ds)) (h1 : EdO G tl σ H lo) (h2 : EdO G th σ H hi) : Ed G K (tSl (rSlA K) te tl th) σ H (.tuple (cutD ds lo hi)) := fun H1 x Q q =>
  h H1 x _ fun v H2 x2 rv => h1 H2 (x.trans x2) _ fun H3 x3 => h2 H3 ((x.trans x2).trans x3) _ fun H4 x4 => by
    have t2 := (tG.ext x).ext x2
    have y := x3.trans x4
    have rv4 := dp_ext y t2 rv
    have t4 := t2.ext y
    obtain ⟨a, vs, rfl, hs, hr⟩ := dp_tup rv4
    have len := dpA_len hr
    have yy := x2.trans y
    refine ⟨a, vs, rfl, hs, fun e => ?_, fun e p hp => ?_⟩
    · have ec : cutD ds lo hi = ds := by
        unfold cutD
        rw [← len, e.1, e.2, List.drop_zero, Nat.sub_zero, len, List.take_length]
      rw [ec] at q
      exact q _ H4 yy rv4
    · refine q _ _ (yy.trans (Ext.new hp)) ?_
      have hc : DpAll K H4 (cutV vs lo hi) (cutD ds lo hi) := by
        unfold cutV cutD
        rw [len]
        exact dpA_take _ (dpA_drop _ hr)
      exact dp_new hp t4 hc
theorem cutD_to (ds : List PyData) (k : Nat) : cutD ds none (some (k : Int)) = ds.take k := by
  unfold cutD
  rw [HT.sIx_none, HT.sIx_nat, List.drop_zero, Nat.sub_zero]
  by_cases h : k ≤ ds.length
  · rw [Nat.min_eq_left h]
  · rw [Nat.min_eq_right (by omega), List.take_length, List.take_of_length_le (by omega)]
theorem cutD_from (ds : List PyData) (k : Nat) : cutD ds (some (k : Int)) none = ds.drop k := by
  unfold cutD
  rw [HT.sIx_none, HT.sIx_nat]
  by_cases h : k ≤ ds.length
  · rw [Nat.min_eq_left h, List.take_of_length_le (by rw [List.length_drop]; exact Nat.le_refl _)]
  · rw [Nat.min_eq_right (by omega), List.drop_length, List.drop_eq_nil_of_le (by omega), List.take_nil]
theorem sum_ints : ∀ {ws : List V} {ns : List Int} {H1 : Hp}, DpAll K H1 ws (ns.map PyData.int) → ws = ns.map V.int
  | [], [], _, _ => rfl
  | _ :: _, n :: r2, _, .cons a b => by rw [dp_int a, sum_ints b]; rfl
/-- max of a list of numbers -/
theorem rdc_max {ns : List Int} {m : Int} (h0 : 0 < ns.length) (hm : ∀ k, k ∈ ns → (∀ y, y ∈ ns → y ≤ k) → k = m) : RdC G K (rMax K) [.list (ns.map PyData.int)] (.int m) H := fun H1 x vs rs Q q => by
  obtain ⟨v, rfl, rv⟩ := dpA_one rs
  obtain ⟨a, ws, rfl, hs, hr⟩ := dp_lst rv
  refine ⟨a, ns, rfl, by rw [sum_ints hr] at hs; exact hs, h0, fun k hk hle => ?_⟩
  rw [hm k hk hle]
  exact q _ H1 (Ext.refl G H1) (.int m)
end
end Dl
set_option Elab.async false
set_option linter.all false
set_option maxRecDepth 100000
set_option maxHeartbeats 1000000
/-! dicts as answers; walks over dicts -/
namespace Dl
open PySem PySem.Spec PyProof.Rows L2 GxR Gx LiI
/-- a promise whose answer may be a dict -/
def spB (G : List Addr) (K : PySem.W.Frag) (R : List Ar → Ar → Prop) : Sp := fun vs H Q _ => TabsG G H ∧ ∃ as a, ArA K H vs as ∧ R as a ∧ ∀ v H', Ext G H H' → ArR K H' v a → Q v H'
def keyD : Key → PyData
  | .inl i => .int i
  | .inr s => .str s
def pairD (e : Key × PyData) : PyData := .tuple [keyD e.1, e.2]
section
variable {P : Program} {w : World} {K : PySem.W.Frag} {mg : Str → Option Value} {base : Heap} {G : List Addr}
theorem DefF.clB {x : Str} {k : Nat} {st : Stmt} {f : Addr} {fd : FuncData} {N ps : List Str} {R : List Ar → Ar → Prop} (D : DefF K mg base G x st ps f fd) (S : FnScope N ps (defScope st)) (len : ∀ ds d, R ds d → ds.length = ps.length)
    (hbody : ∀ (c Pt : Addr) (A : Around) (outer : List Env) (s : Shared) (H : Hp) (vs : List V) (ds : List Ar) (d : Ar) (Q : VK) (E : XK), TabB base mg c Pt → Pt ∈ G → Room k (A.deeper (envOfC x (defScope st) s.heap.objs.size f (.ref c))) →
      TabsG G H → ArA K H vs ds → R ds d → (∀ v H', Ext G H H' → ArR K H' v d → Q v H') →
      ∃ t, PSs (cxOf CX0 P w K mg base N x (defScope st) f (.ref c) A outer s H E).nox (defBody st) t ∧ t { nx := fun _ H' => Q .non H', rt := Q } (start N vs) H) : Cl0 P w K mg base (k + 1) x (spB G K R) := by
  obtain ⟨c, Pt, F, TB, hP⟩ := D.cP
  refine ⟨f, fd, ps, ?_, D.m, F.kp, D.b⟩
  obtain ⟨oc, od, kV, doc, pm, an, ct, osl, rfl, lk, hcd⟩ := F.ex
  refine fn_of lk hcd S (fun vs H Q E ⟨_, ds, d, h1, h2, _⟩ => (arA_len h1).trans (len ds d h2)) fun A outer s H vs Q E hr hsp => ?_
  obtain ⟨tG, ds, d, h1, h2, q⟩ := hsp
  obtain ⟨t, h, q⟩ := hbody c Pt A outer s H vs ds d Q E TB hP hr tG h1 h2 q
  exact ⟨t, h.nox, q⟩
theorem DefF.noneB {x : Str} {st : Stmt} {ps : List Str} {f : Addr} {fd : FuncData} {R : List Ar → Ar → Prop} (D : DefF K mg base G x st ps f fd) (h : ∀ as a, ¬ R as a) : Cl0 P w K mg base 0 x (spB G K R) := by
  obtain ⟨c, Pt, F, TB, hP⟩ := D.cP
  exact ⟨f, fd, ps, ⟨fun vs H Q E ⟨_, as, d, _, r, _⟩ => absurd r (h as d), fun A outer s H args us vs Q E _ _ _ _ ⟨_, as, d, _, r, _⟩ => absurd r (h as d)⟩, D.m, F.kp, D.b⟩
end
section
variable {G : List Addr} {K : PySem.W.Frag} {σ : L2.St} {H H' : Hp} {ta tb te : TE} {tA : TA} {t : TT} {d e f : PyData} {ds : List PyData} {es : List (Key × PyData)} {a : Ar} {b c : Bool}
theorem eb_call {R : List Ar → Ar → Prop} {as : List Ar} {E : XK} (tG : TabsG G H) (h : EdXA G K tA σ H as) (r : R as a) : EdX G K (tCall (spB G K R) [] E tA) σ H a := fun H1 x Q q =>
  h H1 x _ fun vs H2 x2 rs => by
    show spB G K R (vs ++ []) H2 Q E
    rw [List.append_nil]
    exact ⟨(tG.ext x).ext x2, as, a, rs, r, fun v H3 x3 rv => q v H3 (x2.trans x3) rv⟩
theorem edx_is {a' : Ar} (h : EdX G K te σ H a) (e' : a = a') : EdX G K te σ H a' := e' ▸ h
theorem edx_if (ht : EdT G t σ H b) (h1 : b = true → EdX G K ta σ H a) (h2 : b = false → EdX G K tb σ H a) : EdX G K (tIf t ta tb) σ H a := fun H1 x Q q => ht H1 x _ fun H2 x2 => by
  cases b with
  | true =>
    show ta σ H2 Q
    exact h1 rfl H2 (x.trans x2) Q fun w H3 x3 r => q w H3 (x2.trans x3) r
  | false =>
    show tb σ H2 Q
    exact h2 rfl H2 (x.trans x2) Q fun w H3 x3 r => q w H3 (x2.trans x3) r
theorem sx_ret {D : Ends} (h : EdX G K te σ H a) (q : ∀ v H', Ext G H H' → ArR K H' v a → D.rt v H') : tRet te D σ H := h H (Ext.refl G H) D.rt q
theorem sx_set {i : Nat} {D : Ends} (h : EdX G K te σ H a) (q : ∀ v H', Ext G H H' → ArR K H' v a → D.nx (σ.set i (some v)) H') : tAsg te (gName i) D σ H := h H (Ext.refl G H) _ fun v H2 x2 r => q v H2 x2 r
def isNoneA : Ar → Bool
  | .d .none => true
  | _ => false
theorem arR_none {v : V} (h : ArR K H v a) : decide (v = .non) = isNoneA a := by
  cases a with
  | k es =>
    obtain ⟨p, kvs, rfl, _⟩ := h
    rfl
  | d x =>
    have h' : Dp K H v x := h
    cases h' <;> rfl
theorem ed_isN (h : EdX G K te σ H a) : Ed G K (tIsN te) σ H (.bool (isNoneA a)) := fun H1 x Q q => h H1 x _ fun v H2 x2 r => by
  rw [arR_none r]
  exact q _ H2 x2 (.bl _)
theorem ed_notN (h : EdX G K te σ H a) : Ed G K (tNotN te) σ H (.bool (!isNoneA a)) := fun H1 x Q q => h H1 x _ fun v H2 x2 r => by
  rw [arR_none r]
  exact q _ H2 x2 (.bl _)
theorem ed_din {x : Str} (tG : TabsG G H) (hk : Ed G K tb σ H (.str x)) (h : EdX G K ta σ H (.k es)) : Ed G K (tDIn tb ta) σ H (.bool (valD es (.inr x)).isSome) := fun H1 z Q q =>
  hk H1 z _ fun u H2 x2 ru => h H2 (z.trans x2) _ fun v H3 x3 rv => by
    obtain ⟨a, kvs, rfl, ha, r⟩ := rv
    rw [dp_str ru]
    refine ⟨a, valV kvs (.inr x), rfl, DGet.k (k := .inr x) ha, q _ H3 (x2.trans x3) ?_⟩
    have dv := dkR_val (.inr x) r
    cases hx : valD es (.inr x) with
    | none => rw [dv.1 hx]; exact .bl _
    | some d' =>
      obtain ⟨w, hw, _⟩ := dv.2 d' hx
      rw [hw]
      exact .bl _
theorem dkR_len : ∀ {ks : List (Key × V)} {es : List (Key × PyData)}, DkR K H ks es → ks.length = es.length
  | _, _, .nil => rfl
  | _, _, .cons _ r => congrArg (· + 1) (dkR_len r)
theorem dp_key (k : Key) : Dp K H (kV k) (keyD k) := by
  cases k with
  | inl i => exact .int i
  | inr s => exact .str s
theorem items_dp {H' : Hp} {ts : List Addr} {kvs : List (Key × V)} {es : List (Key × PyData)} (pr : Paired (fun (t : Addr) (q : Key × V) => H' t = some (.tup [kV q.1, q.2])) ts kvs) (r : DkR K H' kvs es) : DpAll K H' (ts.map V.ref) (es.map pairD) := by
  induction pr generalizing es with
  | nil => cases r; exact .nil
  | cons h1 t ih =>
    cases r with
    | cons a b => exact .cons (.tup (.inl (.inl h1)) (.cons (dp_key _) (.cons a .nil))) (ih b)
/-- list(d.items()) -/
theorem edl_items (tG : TabsG G H) (h : EdX G K te σ H (.k es)) : EdL G K (tListItems te) σ H (es.map pairD) := fun H1 x Q q =>
  h H1 x _ fun v H2 x2 rv => by
    obtain ⟨a, kvs, rfl, ha, r⟩ := rv
    have t2 := (tG.ext x).ext x2
    refine ⟨a, kvs, rfl, ha, fun H' p ts keep newp newt pt ep pr => ?_⟩
    have x3 : Ext G H2 H' := ⟨fun a _ o e => keep a o e, fun P _ ⟨ps, e, z⟩ => ⟨ps, keep P _ e, z⟩⟩
    exact q p _ H' (x2.trans x3) ep (items_dp pr (dkR_ext x3 t2 r))
def putE (es : List (Key × PyData)) (k : Key) (d : PyData) : List (Key × PyData) := if (es.any fun kv => decide (kv.1 = k)) = true then es.map (fun kv => if kv.1 = k then (kv.1, d) else kv) else es ++ [(k, d)]
def mergeE (es more : List (Key × PyData)) : List (Key × PyData) := more.foldl (fun acc kv => putE acc kv.1 kv.2) es
theorem dkR_any (k : Key) : ∀ {ks : List (Key × V)} {es : List (Key × PyData)}, DkR K H ks es → (ks.any fun kv => decide (kv.1 = k)) = es.any fun kv => decide (kv.1 = k)
  | _, _, .nil => rfl
  | _, _, .cons _ r => by
    rw [List.any_cons, List.any_cons, dkR_any k r]
theorem dkR_app : ∀ {ks js : List (Key × V)} {es fs : List (Key × PyData)}, DkR K H ks es → DkR K H js fs → DkR K H (ks ++ js) (es ++ fs)
  | _, _, _, _, .nil, b => b
  | _, _, _, _, .cons a r, b => .cons a (dkR_app r b)
theorem dkR_repl {k : Key} {v : V} (h : Dp K H v d) : ∀ {ks : List (Key × V)} {es : List (Key × PyData)}, DkR K H ks es → DkR K H (ks.map fun kv => if kv.1 = k then (kv.1, v) else kv) (es.map fun kv => if kv.1 = k then (kv.1, d) else kv)
  | _, _, .nil => .nil
  | _, _, .cons (k := j) a r => by
    by_cases e : j = k
    · simp only [List.map_cons, if_pos e]
      exact .cons h (dkR_repl h r)
    · simp only [List.map_cons, if_neg e]
      exact .cons a (dkR_repl h r)
theorem dkR_put {k : Key} {v : V} {ks : List (Key × V)} {es : List (Key × PyData)} (r : DkR K H ks es) (h : Dp K H v d) : DkR K H (putK ks k v) (putE es k d) := by
  unfold putK putE
  rw [dkR_any k r]
  split
  · exact dkR_repl h r
  · exact dkR_app r (.cons h .nil)
theorem dkR_merge {js ks : List (Key × V)} {fs es : List (Key × PyData)} (r : DkR K H ks es) (h : DkR K H js fs) : DkR K H (mergeK ks js) (mergeE es fs) := by
  induction h generalizing ks es with
  | nil => exact r
  | cons a _ ih => exact ih (dkR_put r a)
theorem putE_new {es : List (Key × PyData)} {k : Key} (h : k ∉ es.map (·.1)) : putE es k d = es ++ [(k, d)] := by
  unfold putE
  rw [if_neg]
  intro z
  obtain ⟨kv, h1, h2⟩ := List.any_eq_true.mp z
  exact h (List.mem_map.mpr ⟨kv, h1, of_decide_eq_true h2⟩)
theorem mergeE_nodup : ∀ {fs es : List (Key × PyData)}, ((es ++ fs).map (·.1)).Nodup → mergeE es fs = es ++ fs
  | [], es, _ => by rw [List.append_nil]; rfl
  | f :: fs, es, h => by
    have h1 : f.1 ∉ es.map (·.1) := by
      rw [List.map_append, List.map_cons, List.nodup_append] at h
      exact fun z => h.2.2 _ z _ List.mem_cons_self rfl
    show mergeE (putE es f.1 f.2) fs = _
    rw [putE_new h1, mergeE_nodup (by rw [List.append_assoc]; exact h), List.append_assoc]
    rfl
theorem putE_len (es : List (Key × PyData)) (k : Key) (d : PyData) : (putE es k d).length ≤ es.length + 1 := by
  unfold putE
  split
  · rw [List.length_map]; omega
  · rw [List.length_append]; simp
/-- dict(pairs), a list of pairs -/
theorem edx_dictL (tG : TabsG G H) (h : EdL G K te σ H (es.map pairD)) : EdX G K (tCB (fun xs H Q => ∃ (a : Addr) (ps : List Addr) (kvs : List (Key × V)), xs = [.ref a] ∧ SqL K H a (ps.map V.ref) ∧ Paired (fun p kv => SqT K H p [kV kv.1, kv.2]) ps kvs ∧ ∀ p, H p = none → Q (.ref p) (upd H p (.dK (mergeK [] kvs)))) (tCons te tNil)) σ H (.k (mergeE [] es)) := fun H1 x Q q =>
  h H1 x _ fun p vs H2 x2 e2 r2 => by
    have t2 := (tG.ext x).ext x2
    have key : ∀ {vs : List V} {es : List (Key × PyData)}, DpAll K H2 vs (es.map pairD) → ∃ (ps : List Addr) (kvs : List (Key × V)), vs = ps.map V.ref ∧ Paired (fun p kv => SqT K H2 p [kV kv.1, kv.2]) ps kvs ∧ DkR K H2 kvs es := fun {vs} => by
      induction vs with
      | nil => intro es r; cases es with
        | nil => exact ⟨[], [], rfl, .nil, .nil⟩
        | cons e es => cases r
      | cons v vs ih => intro es r; cases es with
        | nil => cases r
        | cons e es =>
          cases r with
          | cons a b =>
            obtain ⟨ps, kvs, rfl, h1, h2⟩ := ih b
            obtain ⟨t, us, rfl, hs, hr⟩ := dp_tup a
            obtain ⟨u1, u2, rfl, r1, r2⟩ := dpA_two hr
            obtain ⟨k, d⟩ := e
            have ek : u1 = kV k := by
              cases k with
              | inl i => exact dp_int r1
              | inr s => exact dp_str r1
            subst ek
            exact ⟨t :: ps, (k, u2) :: kvs, rfl, .cons hs h1, .cons r2 h2⟩
    obtain ⟨ps, kvs, rfl, h1, h2⟩ := key r2
    refine ⟨p, ps, kvs, rfl, SqL.of e2, h1, fun c hc => ?_⟩
    have x4 : Ext G H2 (upd H2 c (.dK (mergeK [] kvs))) := Ext.new hc
    exact q _ _ (x2.trans x4) ⟨c, _, rfl, upd_same, dkR_ext x4 t2 (dkR_merge .nil h2)⟩
theorem ed_lenD (h : EdX G K te σ H (.k es)) : Ed G K (tCB (fun xs H Q => ∃ a kvs, xs = [V.ref a] ∧ H a = some (.dK kvs) ∧ Q (.int kvs.length) H) (tCons te tNil)) σ H (.int es.length) := fun H1 x Q q =>
  h H1 x _ fun v H2 x2 rv => by
    obtain ⟨a, kvs, rfl, ha, r⟩ := rv
    refine ⟨a, kvs, rfl, ha, q _ H2 x2 ?_⟩
    rw [dkR_len r]
    exact .int _
/-- for a, b in zip(t, u); the invariant sees the heap -/
theorem s_forZH {ds2 : List PyData} {tb : TS} {D : Ends} {g : TG} (tG : TabsG G H) (h : EdA G K tA σ H [.tuple ds, .tuple ds2]) (hlen : ds.length = ds2.length) (Pv : Nat → L2.St → Hp → Prop) (h0 : ∀ H1, Ext G H H1 → Pv 0 σ H1) (hPn : ∀ i σ' H1 H2, Ext G H1 H2 → TabsG G H1 → Pv i σ' H1 → Pv i σ' H2)
    (hs : ∀ i d d2 v u T σ' H' (N : L2.St → Hp → Prop), ds[i]? = some d → ds2[i]? = some d2 → Pv i σ' H' → Ext G H H' → Dp K H' v d → Dp K H' u d2 → H' T = some (.tup [v, u]) → TabsG G H' → (∀ σ2 H2, Ext G H' H2 → Pv (i + 1) σ2 H2 → N σ2 H2) → g (.ref T) σ' H' fun σ2 H2 => tb { D with nx := N, ct := N, bk := D.nx } σ2 H2)
    (hd : ∀ σ' H', Ext G H H' → Pv ds.length σ' H' → D.nx σ' H') : tFor (RZ.iZipA K tA) g tb D σ H := h H (Ext.refl G H) _ fun vs H2 x2 rs => by
  obtain ⟨v, u, rfl, rv, ru⟩ := dpA_two rs
  obtain ⟨a, xs, rfl, q, r⟩ := dp_tup rv
  obtain ⟨b, ys, rfl, q2, r2⟩ := dp_tup ru
  have t2 := tG.ext x2
  have len := dpA_len r
  have len2 := dpA_len r2
  refine ⟨a, b, xs, ys, rfl, .inr ⟨q, q2, RZ.for_zipT (a := a) (b := b) (xs := xs) (ys := ys) (by omega) (fun i σ' H' => Pv i σ' H' ∧ Ext G H2 H') ⟨h0 H2 x2, Ext.refl G H2⟩ (fun i σ' H' p => ⟨p.2.sqT t2 q, p.2.sqT t2 q2⟩) (fun i x y T σ' H' hx hy p hT => ?_) (fun σ' H' p => hd σ' H' (x2.trans p.2) (by rw [← len]; exact p.1))⟩⟩
  obtain ⟨d, hd', rd⟩ := dpA_getV r hx
  obtain ⟨d2, hd2, rd2⟩ := dpA_getV r2 hy
  have x3 : Ext G H' (upd H' T (.tup [x, y])) := Ext.new hT
  have x4 := p.2.trans x3
  exact hs i d d2 x y T σ' _ _ hd' hd2 (hPn _ _ _ _ x3 (t2.ext p.2) p.1) (x2.trans x4) (dp_ext x4 t2 rd) (dp_ext x4 t2 rd2) upd_same (t2.ext x4) fun σ2 H3 y w => ⟨w, x4.trans y⟩
end
end Dl
set_option Elab.async false
set_option linter.all false
set_option maxRecDepth 100000
set_option maxHeartbeats 1000000
/-! walks over a dict, which is locked meanwhile -/
namespace Dl
open PySem PySem.Spec PyProof.Rows L2 GxR Gx LiI
section
variable {X : Cx}
/-- name = {..}, a dict comprehension, on one line, the name a local -/
theorem ps_setDc {i : Nat} {y : Str} {py : Pos} {kx vx tg iter : Expr} {ifs : List Expr} {scope : Scope} {own : List (Str × Nat)} {pos spos : Pos} {wi : TI} {g : TG} {tt : TT} {tk tv : TE} (hc : X.calm = true) (hN : X.N.Nodup) (hy : X.N[i]? = some y) (hyl : X.env.scope.names.lookup y = some .local)
    (hsw : swapsWith (.DictComp kx vx [⟨tg, iter, ifs, 0⟩] scope pos) (some (.Name y py)) spos.line X.env = pure true) (hi : PI X tg iter wi) (ok : BlkOk X.N X.env.scope scope own)
    (hg : ∀ (s : Shared) (H : Hp) (C : Addr) (cl : List (Str × Addr)) (fp : List Addr), PG (X.blk s H scope (compEnvC scope cl C X.env) fp) tg g) (ht : ∀ (s : Shared) (H : Hp) (C : Addr) (cl : List (Str × Addr)) (fp : List Addr), PTs (X.blk s H scope (compEnvC scope cl C X.env) fp) ifs tt)
    (hk : ∀ (s : Shared) (H : Hp) (C : Addr) (cl : List (Str × Addr)) (fp : List Addr), PE (X.blk s H scope (compEnvC scope cl C X.env) fp) kx tk)
    (he : ∀ (s : Shared) (H : Hp) (C : Addr) (cl : List (Str × Addr)) (fp : List Addr), PE (X.blk s H scope (compEnvC scope cl C X.env) fp) vx tv) (hs : ∀ x, foldedSetIterable iter X.env x = pure x := by intro _; rfl) :
    PS X (.Assign [.Name y py] (.DictComp kx vx [⟨tg, iter, ifs, 0⟩] scope pos) spos) (tAsg (tDc wi g tt tk tv (own.map (·.2))) (gName i)) := by
  refine ⟨fun pins s σ H D I h => ?_⟩
  rw [exec_Assign_Name_used _ _ _ _ hsw]
  have h2 : tDc wi g tt tk tv (own.map (·.2)) σ H (fun x H1 => gName i x σ H1 D.nx) := h
  refine wpAny_bind (wpAny_standAt (wpAny_bind ?_))
  show wpAny _ X.A (do let _ ← comprehension (.DictComp kx vx [⟨tg, iter, ifs, 0⟩] scope pos) scope X.env (firstIterPos [⟨tg, iter, ifs, 0⟩] pos) newDict false (eval iter X.env) (some (assign (.Name y py) X.env))) _ _ s
  refine wpAny_bind (thn (dc_core (Qf := fun _ s' => SP X pins D .next s') hc hN I hi ok hg ht hk he hs h2 fun L C s' m H' I' q hn f => ?_) fun _ s' hq => wpAny_pure (wpAny_pure hq))
  show wpAny _ _ (assign (.Name y py) X.env (.ref L)) _ _ _
  refine wpAny_assign_Name (store_ok2 (v := V.ref L) I' hN hy (.inl hyl) rfl (fun s2 I2 ⟨a, sb, ha⟩ => ?_) (.inr hyl))
  obtain ⟨g0, g1, g2, g3, g4, g5⟩ := f
  have off : C ≠ a := by
    rcases ha with z | z
    · exact z ▸ g1
    · exact fun e => g4 y a z e.symm
  exact ⟨m, hn.sameBut sb off, fun h3 sb3 => ⟨_, H', I2.turned (t' := s2.toks) (fun b o hb e => (sb3.2 b hb).trans e) g0 g1 g3 g4 g5, q⟩⟩
theorem sw_trueD {kx vx : Expr} {gs : List Comprehension} {scope : Scope} {pos py : Pos} {y : Str} {l : Nat} {env : Env} (hk : env.scope.kind = .function) (hy : env.scope.names.lookup y = some .local) (hl : (py.line == pos.line) = true)
    (ha : (scope.names.any fun (n, k) => n == y && (k == .local || k == .cell)) = false) : swapsWith (.DictComp kx vx gs scope pos) (some (.Name y py)) l env = pure true := by
  have ky : env.kindOf y = some .local := hy
  have hb : env.blockKind = .function := by unfold Env.blockKind; rw [hk]; rfl
  unfold swapsWith
  simp only [hb, ky, ha, Expr.pos, hl]
  rfl
end
/-- from H on, with the dict at d locked -/
structure LockE (G : List Addr) (d : Addr) (H H1 : Hp) : Prop where
  ex : ∃ H0 od kvs, Ext G H H0 ∧ TabsG G H0 ∧ H0 d = some (.dK kvs) ∧ Ext G (upd H0 d (.frz od (.dK kvs))) H1
section
variable {G : List Addr} {K : PySem.W.Frag} {σ : L2.St} {H H' H0 H1 Hk : Hp} {ta tb te tk tv : TE} {tA : TA} {tt : TT} {d : Addr} {od : Obj} {kvs : List (Key × V)} {ds : List PyData} {es : List (Key × PyData)} {a : Ar} {b c : Bool}
theorem ext_unlock (t : TabsG G H0) (hd : H0 d = some (.dK kvs)) (x : Ext G (upd H0 d (.frz od (.dK kvs))) Hk) : Ext G H0 (upd Hk d (.dK kvs)) := by
  refine ⟨fun a n o e => ?_, fun P hP tb => ?_⟩
  · by_cases h : a = d
    · subst h
      rw [hd] at e
      cases e
      exact upd_same
    · rw [upd_ne h]
      exact x.keep a n o (by rw [upd_ne h]; exact e)
  · obtain ⟨ps, e, z⟩ := tb
    have ne : P ≠ d := fun y => by rw [y, hd] at e; cases e
    obtain ⟨ps', e', z'⟩ := x.tab P hP ⟨ps, by rw [upd_ne ne]; exact e, z⟩
    exact ⟨ps', by rw [upd_ne ne]; exact e', z'⟩
theorem tabs_lock (t : TabsG G H0) (hd : H0 d = some (.dK kvs)) {o : HO} : TabsG G (upd H0 d o) := mut_tabs (H := H0) t hd (fun ps z => by cases z)
theorem ext_lock {o : HO} (x : Ext G H0 H1) (t : TabsG G H0) (hd : H0 d = some (.dK kvs)) : Ext G (upd H0 d o) (upd H1 d o) := by
  have hd1 := x.at t hd (fun ps z => by cases z)
  refine ⟨fun a n o' e => ?_, fun P hP tb => ?_⟩
  · by_cases h : a = d
    · subst h; rw [upd_same] at e ⊢; exact e
    · rw [upd_ne h] at e ⊢; exact x.keep a n o' e
  · have ne : P ≠ d := fun y => by
      obtain ⟨ps, e, _⟩ := t P hP
      rw [y, hd] at e
      cases e
    obtain ⟨ps, e, z⟩ := tb
    rw [upd_ne ne] at e
    obtain ⟨ps', e', z'⟩ := x.tab P hP ⟨ps, e, z⟩
    exact ⟨ps', by rw [upd_ne ne]; exact e', z'⟩
theorem LockE.tabs (l : LockE G d H H1) : TabsG G H1 := by
  obtain ⟨H0, od, kvs, x, t, hd, y⟩ := l.ex
  exact (tabs_lock t hd).ext y
theorem LockE.dp (l : LockE G d H H1) (t : TabsG G H) {v : V} {e : PyData} (hp : Pu e = true) (h : Dp K H v e) : Dp K H1 v e := by
  obtain ⟨H0, od, kvs, x, t0, hd, y⟩ := l.ex
  exact dp_ext y (tabs_lock t0 hd) (dp_tups (fun _ _ q => sqT_updD hd q) hp (dp_ext x t h))
theorem dkR_tups (k : ∀ a xs, SqT K H a xs → SqT K H' a xs) : ∀ {ks : List (Key × V)} {es : List (Key × PyData)}, (∀ e ∈ es, Pu e.2 = true) → DkR K H ks es → DkR K H' ks es
  | _, _, _, .nil => .nil
  | _, _, hp, .cons a r => .cons (dp_tups k (hp _ List.mem_cons_self) a) (dkR_tups k (fun e he => hp e (List.mem_cons_of_mem _ he)) r)
/-- another dict than the locked one -/
theorem LockE.ar (l : LockE G d H H1) (t : TabsG G H) {a : Addr} (ne : a ≠ d) (hp : ∀ e ∈ es, Pu e.2 = true) (h : ArR K H (.ref a) (.k es)) : ArR K H1 (.ref a) (.k es) := by
  obtain ⟨H0, od, kvs, x, t0, hd, y⟩ := l.ex
  obtain ⟨a', ks, e, ha, r⟩ := ar_ext x t h
  cases e
  have tl := tabs_lock t0 hd (o := .frz od (.dK kvs))
  refine ⟨a, ks, rfl, y.at tl (by rw [upd_ne ne]; exact ha) (fun ps z => by cases z), dkR_ext y tl (dkR_tups (fun _ _ q => sqT_updD hd q) hp r)⟩
theorem dkR_getV : ∀ {ks : List (Key × V)} {es : List (Key × PyData)} {i : Nat} {p : Key × V}, DkR K H ks es → ks[i]? = some p → ∃ e, es[i]? = some e ∧ p.1 = e.1 ∧ Dp K H p.2 e.2
  | _, _, _, _, .nil, h => by cases h
  | _, _, 0, _, .cons a _, h => by cases h; exact ⟨_, rfl, rfl, a⟩
  | _, _, i + 1, _, .cons _ r, h => dkR_getV (i := i) r h
/-- all(.. for x in d.values()) -/
theorem ed_allVals {P : Addr} {i j : Nat} {vs : List Nat} {v : V} {p : Key × PyData → Bool} (hP : P ∈ G) (tG : TabsG G H) (hv : σ[j]? = some (some v)) (r : ArR K H v (.k es)) (hi : i ∈ vs) (hp : ∀ e ∈ es, Pu e.2 = true)
    (hb : ∀ e u H1, e ∈ es → (∀ d, v = .ref d → LockE G d H H1) → TabsG G H1 → Dp K H1 u e.2 → Ed G K tb ((wipe σ vs).set i (some u)) H1 (.bool (p e))) : Ed G K (tLockE (tAllG P (iVals (tVar j)) (gName i) tYes tb vs)) σ H (.bool (es.all p)) := fun H0 x Q q => by
  obtain ⟨d, kvs, rfl, hd, dk⟩ := ar_ext x tG r
  have t0 := tG.ext x
  refine ⟨d, .dK kvs, hd, trivial, fun od => ?_⟩
  have tl := tabs_lock t0 hd (o := .frz od (.dK kvs))
  have hl : (upd H0 d (.frz od (.dK kvs))) d = some (.frz od (.dK kvs)) := upd_same
  have dl := dkR_tups (fun _ _ q => sqT_updD hd q) hp dk (H' := upd H0 d (.frz od (.dK kvs)))
  have fin : ∀ (b : Bool) Hk, Ext G (upd H0 d (.frz od (.dK kvs))) Hk → Hk d = some (.frz od (.dK kvs)) ∧ Q (.bl b) (upd Hk d (.dK kvs)) ∨ b ≠ es.all p := fun b Hk y => by
    by_cases hb : b = es.all p
    · refine .inl ⟨y.at tl hl (fun ps z => by cases z), q _ _ (ext_unlock t0 hd y) ?_⟩
      rw [hb]
      exact .bl _
    · exact .inr hb
  have len := dkR_len dl
  refine ⟨.ref d, hv, d, od, kvs, rfl, hl, tl P hP, fun H3 hT => ?_⟩
  have x3 : Ext G (upd H0 d (.frz od (.dK kvs))) H3 := Ext.tabbed hP hT
  refine ⟨fun k m al Hk => m = kvs.length - k ∧ k ≤ kvs.length ∧ Ext G (upd H0 d (.frz od (.dK kvs))) Hk ∧ ∀ e ∈ es.take k, p e = true, ⟨kvs.length, fun tk => ⟨rfl, Nat.zero_le _, x3, fun e he => by simp at he⟩⟩, ?_⟩
  rintro k m al Hk ⟨rfl, hk, y1, hpk⟩
  have hdk := y1.at tl hl (fun ps z => by cases z)
  by_cases hlt : k < kvs.length
  · refine .inr ⟨⟨hdk, hlt⟩, fun al' H' => Ext G Hk H' ∧ ∀ e ∈ es.take (k + 1), p e = true, fun al' H' z => ⟨kvs.length - (k + 1), by omega, rfl, hlt, y1.trans z.1, z.2⟩, fun y H' hy => ?_⟩
    obtain ⟨e1, kk, e2⟩ := hy
    subst e1
    obtain ⟨e, he, e3, rd⟩ := dkR_getV dl e2
    refine ⟨wipe_set σ vs i (some y) hi, ?_⟩
    dsimp only [tYes]
    refine iteT ?_
    have tk := tl.ext y1
    refine hb e y _ (List.mem_of_getElem? he) (fun d' hd' => by cases hd'; exact ⟨H0, od, kvs, x, t0, hd, y1⟩) tk (dp_ext y1 tl rd) _ (Ext.refl G _) _ fun w H4 y4 rw_ => ⟨p e, dp_bl rw_, ?_⟩
    cases hpd : p e with
    | true =>
      rw [if_pos rfl]
      refine ⟨y4, fun e' he' => ?_⟩
      rw [take_snoc he] at he'
      rcases List.mem_append.mp he' with z | z
      · exact hpk e' z
      · rw [List.mem_singleton.mp z]; exact hpd
    | false =>
      rw [if_neg Bool.false_ne_true]
      have ea : es.all p = false := by
        rw [List.all_eq_false]
        exact ⟨e, List.mem_of_getElem? he, by rw [hpd]; exact Bool.false_ne_true⟩
      rcases fin false H4 (y1.trans y4) with z | z
      · exact z
      · exact absurd ea.symm z
  · have e : k = kvs.length := by omega
    subst e
    refine .inl ⟨⟨hdk, Nat.le_refl _⟩, ?_⟩
    rw [len, List.take_length] at hpk
    rcases fin true Hk y1 with z | z
    · exact z
    · exact absurd (List.all_eq_true.mpr hpk).symm z
theorem putE_pu {es : List (Key × PyData)} {k : Key} {x : PyData} (hp : ∀ e ∈ es, Pu e.2 = true) (hx : Pu x = true) : ∀ e ∈ putE es k x, Pu e.2 = true := by
  intro e he
  unfold putE at he
  split at he
  · obtain ⟨f, hf, rfl⟩ := List.mem_map.mp he
    split
    · exact hx
    · exact hp f hf
  · rcases List.mem_append.mp he with z | z
    · exact hp e z
    · rw [List.mem_singleton.mp z]; exact hx
theorem mergeE_snoc (es fs : List (Key × PyData)) (f : Key × PyData) : mergeE es (fs ++ [f]) = putE (mergeE es fs) f.1 f.2 := by
  unfold mergeE
  rw [List.foldl_append]
  rfl
theorem mergeE_len : ∀ (fs es : List (Key × PyData)), (mergeE es fs).length ≤ es.length + fs.length
  | [], es => by show es.length ≤ _; simp
  | f :: fs, es => by
    have := mergeE_len fs (putE es f.1 f.2)
    have := putE_len es f.1 f.2
    show (mergeE (putE es f.1 f.2) fs).length ≤ _
    rw [List.length_cons]
    omega
/-- one turn of a dict comprehension -/
theorem dc_turn {HL Hk : Hp} {D : Addr} {acc : List (Key × V)} {fs : List (Key × PyData)} {n : Nat} {σ' : L2.St} {tt : TT} {tk tv : TE} {kf : Key} {gf : PyData} {b : Bool} (tG : TabsG G HL) (hD : HL D = none) (y1 : Ext G HL Hk) (e1 : Hk D = some (.dK acc)) (e3 : DkR K Hk acc (mergeE [] fs)) (el : fs.length ≤ n) (hn : n < sizeLine) (hp : ∀ e ∈ mergeE [] fs, Pu e.2 = true) (hg : Pu gf = true)
    (ht : EdT G tt σ' Hk b) (hk : b = true → Ed G K tk σ' Hk (keyD kf)) (hv : b = true → Ed G K tv σ' Hk gf) :
    tt σ' Hk fun b' H3 => if b' = true then tk σ' H3 fun y H4 => tv σ' H4 fun z H5 => ∃ kvs k, y = kV k ∧ H5 D = some (.dK kvs) ∧ kvs.length < sizeLine ∧ (Ext G HL (upd H5 D (.dK (putK kvs k z))) ∧ ∃ acc', (upd H5 D (.dK (putK kvs k z))) D = some (.dK acc') ∧ DkR K (upd H5 D (.dK (putK kvs k z))) acc' (mergeE [] (if b = true then fs ++ [(kf, gf)] else fs)))
      else Ext G HL H3 ∧ ∃ acc', H3 D = some (.dK acc') ∧ DkR K H3 acc' (mergeE [] (if b = true then fs ++ [(kf, gf)] else fs)) := by
  have tk1 := tG.ext y1
  refine ht Hk (Ext.refl G Hk) _ fun H3 x3 => ?_
  cases hb : b with
  | true =>
    rw [if_pos rfl, if_pos rfl]
    refine hk hb H3 x3 _ fun y H4 x4 ry => ?_
    have xx := x3.trans x4
    refine hv hb H4 xx _ fun z H5 x5 rz => ?_
    have yy := xx.trans x5
    have e5 : H5 D = some (.dK acc) := yy.at tk1 e1 (fun ps z => by cases z)
    have ek : y = kV kf := by
      cases kf with
      | inl i => exact dp_int ry
      | inr s => exact dp_str ry
    have d5 := dkR_ext yy tk1 e3
    have hlen : acc.length < sizeLine := by
      rw [dkR_len d5]
      have := mergeE_len fs []
      simp at this
      omega
    refine ⟨acc, kf, ek, e5, hlen, (y1.trans yy).mut hD e5 (fun ps z => by cases z), _, upd_same, ?_⟩
    rw [mergeE_snoc]
    exact dkR_tups (fun _ _ q => sqT_updD e5 q) (putE_pu hp hg) (dkR_put d5 rz)
  | false =>
    rw [if_neg Bool.false_ne_true, if_neg Bool.false_ne_true]
    exact ⟨y1.trans x3, acc, x3.at tk1 e1 (fun ps z => by cases z), dkR_ext x3 tk1 e3⟩
def dcOut (es : List (Key × PyData)) (p : Key × PyData → Bool) (kf : Key × PyData → Key) (gf : Key × PyData → PyData) : List (Key × PyData) := (es.filter p).map fun e => (kf e, gf e)
theorem dcOut_snoc {p : Key × PyData → Bool} {kf : Key × PyData → Key} {gf : Key × PyData → PyData} {k : Nat} {e : Key × PyData} (h : es[k]? = some e) : dcOut (es.take (k + 1)) p kf gf = if p e = true then dcOut (es.take k) p kf gf ++ [(kf e, gf e)] else dcOut (es.take k) p kf gf := by
  unfold dcOut
  rw [take_snoc h, List.filter_append]
  cases e : p e <;> simp [e]
theorem mergeE_pu : ∀ {fs es : List (Key × PyData)}, (∀ e ∈ es, Pu e.2 = true) → (∀ e ∈ fs, Pu e.2 = true) → ∀ e ∈ mergeE es fs, Pu e.2 = true
  | [], es, h, _ => h
  | f :: fs, es, h, h2 => mergeE_pu (fs := fs) (putE_pu h (h2 f List.mem_cons_self)) fun e he => h2 e (List.mem_cons_of_mem _ he)
theorem dcOut_pu {p : Key × PyData → Bool} {kf : Key × PyData → Key} {gf : Key × PyData → PyData} (h : ∀ e ∈ es, Pu (gf e) = true) (k : Nat) : ∀ e ∈ mergeE [] (dcOut (es.take k) p kf gf), Pu e.2 = true := mergeE_pu (fun e he => by cases he) fun e he => by
  obtain ⟨f, hf, rfl⟩ := List.mem_map.mp he
  exact h f (List.mem_of_mem_take (List.mem_filter.mp hf).1)
theorem dcOut_len (p : Key × PyData → Bool) (kf : Key × PyData → Key) (gf : Key × PyData → PyData) (k : Nat) : (dcOut (es.take k) p kf gf).length ≤ k := by
  unfold dcOut
  rw [List.length_map]
  have h1 := List.length_filter_le p (es.take k)
  have h2 := List.length_take_le k es
  omega
/-- a reading that yields a new dict -/
def EdXN (G : List Addr) (K : PySem.W.Frag) (te : TE) (σ : L2.St) (H : Hp) (es : List (Key × PyData)) : Prop := ∀ H1, Ext G H H1 → ∀ Q : VK, (∀ p kvs H2, H1 p = none → Ext G H1 H2 → H2 p = some (.dK kvs) → DkR K H2 kvs es → Q (.ref p) H2) → te σ H1 Q
theorem EdXN.edx (h : EdXN G K te σ H es) : EdX G K te σ H (.k es) := fun H1 x Q q => h H1 x Q fun p kvs H2 _ x2 e r => q _ H2 x2 ⟨p, kvs, rfl, e, r⟩
/-- {.. for x, y in d.items() if ..} -/
theorem edxn_dcItems {i1 i2 j : Nat} {vs : List Nat} {v : V} {p : Key × PyData → Bool} {kf : Key × PyData → Key} {gf : Key × PyData → PyData} (tG : TabsG G H) (hv : σ[j]? = some (some v)) (r : ArR K H v (.k es)) (h1 : i1 ∈ vs) (h2 : i2 ∈ vs) (hl : es.length ≤ 100000) (hp : ∀ e ∈ es, Pu e.2 = true) (hg : ∀ e ∈ es, Pu (gf e) = true)
    (ht : ∀ e u H1, e ∈ es → (∀ d, v = .ref d → LockE G d H H1) → TabsG G H1 → Dp K H1 u e.2 → EdT G tt (((wipe σ vs).set i1 (some (kV e.1))).set i2 (some u)) H1 (p e))
    (hk : ∀ e u H1, e ∈ es → p e = true → (∀ d, v = .ref d → LockE G d H H1) → TabsG G H1 → Dp K H1 u e.2 → Ed G K tk (((wipe σ vs).set i1 (some (kV e.1))).set i2 (some u)) H1 (keyD (kf e)))
    (hb : ∀ e u H1, e ∈ es → p e = true → (∀ d, v = .ref d → LockE G d H H1) → TabsG G H1 → Dp K H1 u e.2 → Ed G K tv (((wipe σ vs).set i1 (some (kV e.1))).set i2 (some u)) H1 (gf e)) :
    EdXN G K (tLockE (tDc (iItems (tVar j)) (gTup K 2 (gCons (gName i1) (gCons (gName i2) gNil))) tt tk tv vs)) σ H (mergeE [] (dcOut es p kf gf)) := fun H0 x Q q => by
  obtain ⟨d, kvs, rfl, hd, dk⟩ := ar_ext x tG r
  have t0 := tG.ext x
  refine ⟨d, .dK kvs, hd, trivial, fun od => ?_⟩
  have tl := tabs_lock t0 hd (o := .frz od (.dK kvs))
  have hl2 : (upd H0 d (.frz od (.dK kvs))) d = some (.frz od (.dK kvs)) := upd_same
  have dl := dkR_tups (fun _ _ q => sqT_updD hd q) hp dk (H' := upd H0 d (.frz od (.dK kvs)))
  have len := dkR_len dl
  refine ⟨.ref d, hv, d, od, kvs, rfl, hl2, fun D hD => ?_⟩
  refine ⟨fun k m Hk => m = kvs.length - k ∧ k ≤ kvs.length ∧ Ext G (upd H0 d (.frz od (.dK kvs))) Hk ∧ ∃ acc, Hk D = some (.dK acc) ∧ DkR K Hk acc (mergeE [] (dcOut (es.take k) p kf gf)), ⟨kvs.length, rfl, Nat.zero_le _, Ext.new hD, [], upd_same, .nil⟩, ?_⟩
  rintro k m Hk ⟨rfl, hk', y1, acc, e1, e3⟩
  have hdk := y1.at tl hl2 (fun ps z => by cases z)
  by_cases hlt : k < kvs.length
  · refine .inr ⟨⟨hdk, hlt⟩, fun H' => Ext G (upd H0 d (.frz od (.dK kvs))) H' ∧ ∃ acc', H' D = some (.dK acc') ∧ DkR K H' acc' (mergeE [] (dcOut (es.take (k + 1)) p kf gf)), fun H' z => ⟨kvs.length - (k + 1), by omega, rfl, hlt, z.1, z.2⟩, fun y H' hy => ?_⟩
    obtain ⟨T, kk, vv, e2, rfl, hT, rfl⟩ := hy
    obtain ⟨e, he, e4, rd⟩ := dkR_getV dl e2
    have e4' : kk = e.1 := e4
    subst e4'
    have me := List.mem_of_getElem? he
    have y2 : Ext G Hk (upd Hk T (.tup [kV e.1, vv])) := Ext.new hT
    have yy := y1.trans y2
    have tk1 := tl.ext yy
    have rd' := dp_ext yy tl rd
    have lk : ∀ d', V.ref d = .ref d' → LockE G d' H (upd Hk T (.tup [kV e.1, vv])) := fun d' hd' => by cases hd'; exact ⟨H0, od, kvs, x, t0, hd, yy⟩
    refine ⟨T, [kV e.1, vv], rfl, .inl (.inl upd_same), rfl, kV e.1, [vv], rfl, vv, [], rfl, rfl, ?_⟩
    refine ⟨by rw [wipe_setG _ _ _ _ h2, wipe_setG _ _ _ _ h1, wipe_wipe], ?_⟩
    rw [dcOut_snoc he]
    exact dc_turn (n := k) (fs := dcOut (es.take k) p kf gf) tl hD yy (y2.at (tl.ext y1) e1 (fun ps z => by cases z)) (dkR_ext y2 (tl.ext y1) e3) (dcOut_len p kf gf k) (Nat.lt_of_lt_of_le (show k < 100001 by omega) (by decide)) (dcOut_pu hg k) (hg e me) (ht e vv _ me lk tk1 rd') (fun hb' => hk e vv _ me hb' lk tk1 rd') fun hb' => hb e vv _ me hb' lk tk1 rd'
  · have ee : k = kvs.length := by omega
    subst ee
    rw [len, List.take_length] at e3
    have ne : D ≠ d := fun z => by rw [z] at hD; rw [hl2] at hD; cases hD
    refine .inl ⟨⟨hdk, Nat.le_refl _⟩, hdk, q D acc _ (by rw [← hD, upd_ne ne]) (ext_unlock t0 hd y1) (by rw [upd_ne ne]; exact e1) ?_⟩
    refine dkR_tups (fun a xs qq => ?_) ?_ e3
    · rcases qq with qq | qq
      · rcases qq with qq | ⟨ob, qq⟩
        · exact .inl (.inl (by rw [upd_ne (fun z => by rw [z, hdk] at qq; cases qq)]; exact qq))
        · exact .inl (.inr ⟨ob, by rw [upd_ne (fun z => by rw [z, hdk] at qq; cases qq)]; exact qq⟩)
      · exact .inr qq
    · have := dcOut_pu (es := es) (p := p) (kf := kf) hg es.length
      rw [List.take_length] at this
      exact this
/-- {.. for x in d.values() ..} -/
theorem edx_dcVals {i j : Nat} {vs : List Nat} {v : V} {p : Key × PyData → Bool} {kf : Key × PyData → Key} {gf : Key × PyData → PyData} (tG : TabsG G H) (hv : σ[j]? = some (some v)) (r : ArR K H v (.k es)) (h1 : i ∈ vs) (hl : es.length ≤ 100000) (hp : ∀ e ∈ es, Pu e.2 = true) (hg : ∀ e ∈ es, Pu (gf e) = true)
    (ht : ∀ e u H1, e ∈ es → (∀ d, v = .ref d → LockE G d H H1) → TabsG G H1 → Dp K H1 u e.2 → EdT G tt ((wipe σ vs).set i (some u)) H1 (p e))
    (hk : ∀ e u H1, e ∈ es → p e = true → (∀ d, v = .ref d → LockE G d H H1) → TabsG G H1 → Dp K H1 u e.2 → Ed G K tk ((wipe σ vs).set i (some u)) H1 (keyD (kf e)))
    (hb : ∀ e u H1, e ∈ es → p e = true → (∀ d, v = .ref d → LockE G d H H1) → TabsG G H1 → Dp K H1 u e.2 → Ed G K tv ((wipe σ vs).set i (some u)) H1 (gf e)) :
    EdX G K (tLockE (tDc (iVals (tVar j)) (gName i) tt tk tv vs)) σ H (.k (mergeE [] (dcOut es p kf gf))) := fun H0 x Q q => by
  obtain ⟨d, kvs, rfl, hd, dk⟩ := ar_ext x tG r
  have t0 := tG.ext x
  refine ⟨d, .dK kvs, hd, trivial, fun od => ?_⟩
  have tl := tabs_lock t0 hd (o := .frz od (.dK kvs))
  have hl2 : (upd H0 d (.frz od (.dK kvs))) d = some (.frz od (.dK kvs)) := upd_same
  have dl := dkR_tups (fun _ _ q => sqT_updD hd q) hp dk (H' := upd H0 d (.frz od (.dK kvs)))
  have len := dkR_len dl
  refine ⟨.ref d, hv, d, od, kvs, rfl, hl2, fun D hD => ?_⟩
  refine ⟨fun k m Hk => m = kvs.length - k ∧ k ≤ kvs.length ∧ Ext G (upd H0 d (.frz od (.dK kvs))) Hk ∧ ∃ acc, Hk D = some (.dK acc) ∧ DkR K Hk acc (mergeE [] (dcOut (es.take k) p kf gf)), ⟨kvs.length, rfl, Nat.zero_le _, Ext.new hD, [], upd_same, .nil⟩, ?_⟩
  rintro k m Hk ⟨rfl, hk', y1, acc, e1, e3⟩
  have hdk := y1.at tl hl2 (fun ps z => by cases z)
  by_cases hlt : k < kvs.length
  · refine .inr ⟨⟨hdk, hlt⟩, fun H' => Ext G (upd H0 d (.frz od (.dK kvs))) H' ∧ ∃ acc', H' D = some (.dK acc') ∧ DkR K H' acc' (mergeE [] (dcOut (es.take (k + 1)) p kf gf)), fun H' z => ⟨kvs.length - (k + 1), by omega, rfl, hlt, z.1, z.2⟩, fun y H' hy => ?_⟩
    obtain ⟨rfl, kk, e2⟩ := hy
    obtain ⟨e, he, e4, rd⟩ := dkR_getV dl e2
    have me := List.mem_of_getElem? he
    have tk1 := tl.ext y1
    have rd' := dp_ext y1 tl rd
    have lk : ∀ d', V.ref d = .ref d' → LockE G d' H H' := fun d' hd' => by cases hd'; exact ⟨H0, od, kvs, x, t0, hd, y1⟩
    refine ⟨wipe_set σ vs i (some y) h1, ?_⟩
    rw [dcOut_snoc he]
    exact dc_turn (n := k) (fs := dcOut (es.take k) p kf gf) tl hD y1 e1 e3 (dcOut_len p kf gf k) (Nat.lt_of_lt_of_le (show k < 100001 by omega) (by decide)) (dcOut_pu hg k) (hg e me) (ht e y _ me lk tk1 rd') (fun hb' => hk e y _ me hb' lk tk1 rd') fun hb' => hb e y _ me hb' lk tk1 rd'
  · have ee : k = kvs.length := by omega
    subst ee
    rw [len, List.take_length] at e3
    have ne : D ≠ d := fun z => by rw [z] at hD; rw [hl2] at hD; cases hD
    refine .inl ⟨⟨hdk, Nat.le_refl _⟩, hdk, q _ _ (ext_unlock t0 hd y1) ⟨D, acc, rfl, by rw [upd_ne ne]; exact e1, ?_⟩⟩
    refine dkR_tups (fun a xs qq => ?_) ?_ e3
    · rcases qq with qq | qq
      · rcases qq with qq | ⟨ob, qq⟩
        · exact .inl (.inl (by rw [upd_ne (fun z => by rw [z, hdk] at qq; cases qq)]; exact qq))
        · exact .inl (.inr ⟨ob, by rw [upd_ne (fun z => by rw [z, hdk] at qq; cases qq)]; exact qq⟩)
      · exact .inr qq
    · have := dcOut_pu (es := es) (p := p) (kf := kf) hg es.length
      rw [List.take_length] at this
      exact this
end
end Dl
set_option Elab.async false
set_option linter.all false
set_option maxRecDepth 100000
set_option maxHeartbeats 1000000
/-! sorted of data -/
namespace Dl
open PySem PySem.Spec PyProof.Rows L2 GxR Gx LiI
def sortD (ds : List PyData) : List PyData := ds.mergeSort (PySem.W.dataLe false fun d => d)
theorem sortD_perm (ds : List PyData) : (sortD ds).Perm ds := List.mergeSort_perm _ _
section
variable {K : PySem.W.Frag} {H : Hp}
/-- the pairs of a value and what it is -/
theorem each_zip : ∀ {xs : List V} {ds : List PyData} {us : List Value}, DpAll K H xs ds → Vals xs us → PySem.W.EachIs (fun v (b : V × PyData) => RelV b.1 v) us (xs.zip ds)
  | _, _, _, .nil, .nil => .nil
  | _, _, _, .cons _ r, .cons h t => .cons h (each_zip r t)
theorem zip_dp : ∀ {xs : List V} {ds : List PyData}, DpAll K H xs ds → ∀ b ∈ xs.zip ds, Dp K H b.1 b.2
  | _, _, .nil, b, h => by simp at h
  | _, _, .cons a r, b, h => by
    rw [List.zip_cons_cons, List.mem_cons] at h
    rcases h with h | h
    · rw [h]; exact a
    · exact zip_dp r b h
theorem zip_snd : ∀ {xs : List V} {ds : List PyData}, DpAll K H xs ds → (xs.zip ds).map Prod.snd = ds
  | _, _, .nil => rfl
  | _, _, .cons a r => by rw [List.zip_cons_cons, List.map_cons, zip_snd r]
theorem dp_unzip : ∀ {bs : List (V × PyData)}, (∀ b ∈ bs, Dp K H b.1 b.2) → DpAll K H (bs.map Prod.fst) (bs.map Prod.snd)
  | [], _ => .nil
  | b :: r, h => .cons (h b List.mem_cons_self) (dp_unzip fun b hb => h b (List.mem_cons_of_mem _ hb))
theorem each_vals : ∀ {us : List Value} {bs : List (V × PyData)}, PySem.W.EachIs (fun v (b : V × PyData) => RelV b.1 v) us bs → Vals (bs.map Prod.fst) us
  | _, _, .nil => .nil
  | _, _, .cons h t => .cons h (each_vals t)
theorem sort_snd (bs : List (V × PyData)) : (bs.mergeSort (PySem.W.dataLe false Prod.snd)).map Prod.snd = sortD (bs.map Prod.snd) := PySem.W.sort_maps Prod.snd fun a _ b _ => rfl
end
section
variable {X : Cx}
theorem each_reads {pins : List (Addr × Obj)} {σ : L2.St} {H : Hp} {s : Shared} (I : Inv X pins σ H s) : ∀ {xs : List V} {ds : List PyData} {us : List Value}, DpAll X.K H xs ds → Vals xs us → PySem.W.EachIs (fun v (b : V × PyData) => ∃ as, Reads s.heap v b.2 as) us (xs.zip ds)
  | _, _, _, .nil, .nil => .nil
  | _, _, _, .cons a r, .cons h t => .cons (Dp.reads I _ _ _ a h) (each_reads I r t)
def rSortedDa (K : PySem.W.Frag) : List V → Hp → VK → Prop := fun vs H Q => ∃ (a : Addr) (xs : List V) (ds : List PyData), vs = [.ref a] ∧ SqL K H a xs ∧ DpAll K H xs ds ∧ PySem.W.AllAlike ds ∧ PySem.W.Sortable ds ∧ (∀ d ∈ ds, d.depth ≤ 60) ∧ ∀ ys p, DpAll K H ys (sortD ds) → H p = none → Q (.ref p) (upd H p (.lst ys))
/-- sorted(xs), xs a list of data -/
theorem cr_sortedDa (hu : X.A.units + 64 < cLine) : CallR X (.builtin "sorted") (rSortedDa X.K) := by
  intro pins s σ H vs us Q I r h
  obtain ⟨a, xs, ds, rfl, hs, hd, hal, hso, hdp, q⟩ := h
  obtain ⟨its, rv, hl, hz⟩ := I.list hs
  rw [Vals.ref1 r]
  have ez := zip_snd hd
  have lz : (xs.zip ds).length = xs.length := by rw [List.length_zip, ← dpA_len hd, Nat.min_self]
  refine PySem.W.sorted_data (enc := Prod.snd) hl.isList (each_zip hd rv) (each_reads I hd rv) (by rw [ez]; exact hal) (by rw [ez]; exact hso) (by rw [lz]; exact hz) (fun b hb => ?_) fun out hlen he => ?_
  · have hm : b.2 ∈ ds := by rw [← ez]; exact List.mem_map.mpr ⟨b, hb, rfl⟩
    have := hdp _ hm
    omega
  · obtain ⟨ep, hat⟩ := PyProof.Rows.sortedAll_at s.heap its out.toArray
    have perm := List.mergeSort_perm (xs.zip ds) (PySem.W.dataLe false Prod.snd)
    have hys := dp_unzip (K := X.K) (H := H) (bs := (xs.zip ds).mergeSort (PySem.W.dataLe false Prod.snd)) fun b hb => zip_dp hd b (perm.mem_iff.mp hb)
    rw [sort_snd, ez] at hys
    have hll : (((xs.zip ds).mergeSort (PySem.W.dataLe false Prod.snd)).map Prod.fst).length ≤ sizeLine := by
      rw [List.length_map, perm.length_eq, lz]
      exact hz
    exact ⟨.ref _, upd H (s.heap.objs.size + 1) (.lst (((xs.zip ds).mergeSort (PySem.W.dataLe false Prod.snd)).map Prod.fst)), I.laid (t' := s.toks) (fun _ _ => PyProof.Rows.sortedAll_old) (Nat.le_succ _) ⟨hll, out, ep, each_vals he, hat⟩, rfl, q _ _ hys (I.hok.fresh (Nat.le_succ _))⟩
end
end Dl
set_option Elab.async false
set_option linter.all false
set_option maxRecDepth 100000
set_option maxHeartbeats 1000000
/-! sorted of a dict with tuple keys; a dict display with one tuple key -/
namespace Dl
open PySem PySem.Spec PyProof.Rows L2 GxR Gx LiI
def kDa : L2.Key → PyData
  | .inl i => .int i
  | .inr x => .str x
def ksD (ks : List L2.Key) : PyData := .tuple (ks.map kDa)
theorem dp_kDa {K : PySem.W.Frag} {H : Hp} (k : L2.Key) : Dp K H (kV k) (kDa k) := by
  cases k with
  | inl i => exact .int i
  | inr x => exact .str x
theorem dpA_kDa {K : PySem.W.Frag} {H : Hp} : ∀ ks : List L2.Key, DpAll K H (ks.map kV) (ks.map kDa)
  | [] => .nil
  | k :: r => .cons (dp_kDa k) (dpA_kDa r)
theorem dp_ksD {K : PySem.W.Frag} {H : Hp} {b : Addr} {ks : List L2.Key} (h : H b = some (.tup (ks.map kV))) : Dp K H (.ref b) (ksD ks) := .tup (.inl (.inl h)) (dpA_kDa ks)
theorem reads_kDa {h : Heap} : ∀ {ks : List L2.Key} {us : List Value} {as : List Addr}, ReadsAll h us (ks.map kDa) as → as = []
  | [], us, as, r => by
    cases r
    rfl
  | .inl i :: ks, us, as, r => by
    rw [List.map_cons] at r
    cases r with
    | cons a b =>
      cases a
      rw [reads_kDa b]
      rfl
  | .inr x :: ks, us, as, r => by
    rw [List.map_cons] at r
    cases r with
    | cons a b =>
      cases a
      rw [reads_kDa b]
      rfl
theorem reads_ksD {h : Heap} {u : Value} {ks : List L2.Key} {as : List Addr} (r : Reads h u (ksD ks) as) : as = [] := by
  cases r with
  | tuple a b c d => exact reads_kDa d
section
variable {K : PySem.W.Frag} {H : Hp}
/-- a tracked key tuple and its data -/
def TrD (H : Hp) (v : V) (d : PyData) : Prop := ∃ (a : Addr) (k : List L2.Key), v = .ref a ∧ d = ksD k ∧ H a = some (.tup (k.map kV))
inductive TrA (H : Hp) : List V → List PyData → Prop
  | nil : TrA H [] []
  | cons {v : V} {vs : List V} {d : PyData} {ds : List PyData} : TrD H v d → TrA H vs ds → TrA H (v :: vs) (d :: ds)
theorem TrA.dp : ∀ {xs : List V} {ds : List PyData}, TrA H xs ds → DpAll K H xs ds
  | _, _, .nil => .nil
  | _, _, .cons ⟨a, k, e1, e2, h⟩ t => by
    subst e1 e2
    exact .cons (dp_ksD h) t.dp
theorem TrA.zip : ∀ {xs : List V} {ds : List PyData}, TrA H xs ds → ∀ b ∈ xs.zip ds, TrD H b.1 b.2
  | _, _, .nil, b, h => by simp at h
  | _, _, .cons a r, b, h => by
    rw [List.zip_cons_cons, List.mem_cons] at h
    rcases h with h | h
    · rw [h]; exact a
    · exact TrA.zip r b h
theorem TrA.unzip : ∀ {bs : List (V × PyData)}, (∀ b ∈ bs, TrD H b.1 b.2) → TrA H (bs.map Prod.fst) (bs.map Prod.snd)
  | [], _ => .nil
  | b :: r, h => .cons (h b List.mem_cons_self) (TrA.unzip fun b hb => h b (List.mem_cons_of_mem _ hb))
theorem TrA.len : ∀ {xs : List V} {ds : List PyData}, TrA H xs ds → xs.length = ds.length
  | _, _, .nil => rfl
  | _, _, .cons a r => by rw [List.length_cons, List.length_cons, r.len]
theorem TrA.get : ∀ {xs : List V} {ds : List PyData} {i : Nat} {v : V}, TrA H xs ds → xs[i]? = some v → ∃ d, ds[i]? = some d ∧ TrD H v d
  | _, _, i, v, .nil, h => by simp at h
  | _, _, 0, v, .cons a r, h => by
    cases h
    exact ⟨_, rfl, a⟩
  | _, _, i + 1, v, .cons a r, h => by
    obtain ⟨d, h1, h2⟩ := r.get (i := i) (by simpa using h)
    exact ⟨d, by simpa using h1, h2⟩
theorem TrA.mono {H' : Hp} (f : ∀ a k, H a = some (.tup k) → H' a = some (.tup k)) : ∀ {xs : List V} {ds : List PyData}, TrA H xs ds → TrA H' xs ds
  | _, _, .nil => .nil
  | _, _, .cons ⟨a, k, e1, e2, h⟩ t => .cons ⟨a, k, e1, e2, f _ _ h⟩ (t.mono f)
theorem ksD_inj {a b : List L2.Key} (h : ksD a = ksD b) : a = b := by
  have e : a.map kDa = b.map kDa := by injection h
  induction a generalizing b with
  | nil => cases b with
    | nil => rfl
    | cons _ _ => cases e
  | cons x a ih => cases b with
    | nil => cases e
    | cons y b =>
      rw [List.map_cons, List.map_cons] at e
      injection e with e1 e2
      rw [ih (by unfold ksD; rw [e2]) e2]
      congr 1
      cases x <;> cases y <;> simp_all [kDa]
theorem isKeys_tr : ∀ {kvs : List (List L2.Key × V)} {bs : List Addr}, IsKeys H kvs bs → TrA H (bs.map V.ref) (kvs.map fun p => ksD p.1)
  | _, _, .nil => .nil
  | _, _, .cons h t => .cons ⟨_, _, rfl, rfl, h⟩ (isKeys_tr t)
theorem isKeys_dp : ∀ {kvs : List (List L2.Key × V)} {bs : List Addr}, IsKeys H kvs bs → DpAll K H (bs.map V.ref) (kvs.map fun p => ksD p.1)
  | _, _, .nil => .nil
  | _, _, .cons h t => .cons (dp_ksD h) (isKeys_dp t)
def rSortedT (K : PySem.W.Frag) : List V → Hp → VK → Prop := fun vs H Q => ∃ (d : Addr) (kvs : List (List L2.Key × V)), vs = [.ref d] ∧ Rd H d (.dT kvs) ∧ PySem.W.AllAlike (kvs.map fun p => ksD p.1) ∧ PySem.W.Sortable (kvs.map fun p => ksD p.1) ∧
  (∀ p ∈ kvs, (ksD p.1).depth ≤ 50) ∧ ∀ ys p, TrA H ys (sortD (kvs.map fun p => ksD p.1)) → H p = none → Q (.ref p) (upd H p (.lst ys))
end
section
variable {X : Cx}
theorem each_reads0 {h : Heap} : ∀ {xs : List V} {us : List Value} {kss : List (List L2.Key)}, (∀ (x : V) (u : Value) (ks : List L2.Key), RelV x u → (x, ksD ks) ∈ xs.zip (kss.map ksD) → ∃ as, Reads h u (ksD ks) as) → Vals xs us → xs.length = kss.length →
    PySem.W.EachIs (fun v (b : V × PyData) => ∃ as, Reads h v b.2 as ∧ h.objs.size ∉ as) us (xs.zip (kss.map ksD))
  | [], _, [], _, .nil, _ => .nil
  | x :: xs, _, k :: kss, f, .cons h t, e => by
    obtain ⟨as, r⟩ := f x _ k h (by rw [List.map_cons, List.zip_cons_cons]; exact List.mem_cons_self)
    have := reads_ksD r
    subst this
    rw [List.map_cons, List.zip_cons_cons]
    refine .cons ⟨[], r, by simp⟩ (each_reads0 (fun x u ks a b => f x u ks a (by rw [List.map_cons, List.zip_cons_cons]; exact List.mem_cons_of_mem _ b)) t (by simpa using e))
theorem each_reads1 {h h' : Heap} (hk : ∀ b o, h.get? b = some o → h'.get? b = some o) {us : List Value} {bs : List (V × PyData)} {a : Addr} (e : PySem.W.EachIs (fun v (b : V × PyData) => ∃ as, Reads h v b.2 as ∧ a ∉ as) us bs) :
    PySem.W.EachIs (fun v (b : V × PyData) => ∃ as, Reads h' v b.2 as ∧ a ∉ as) us bs := e.mono fun _ _ ⟨as, r, n⟩ => ⟨as, PyProof.Rows.Reads.keeps hk r, n⟩
/-- sorted(d), d with tuple keys -/
theorem cr_sortedT (hc : X.calm = true) (hu : X.A.units + 64 < cLine) : CallR X (.builtin "sorted") (rSortedT X.K) := by
  intro pins s σ H xs us Q I r q
  obtain ⟨d, kvs, rfl, hd, hal0, hso, hdp, q⟩ := q
  obtain ⟨u, rfl, rx⟩ := r.one
  cases rx
  obtain ⟨z, hs, ks, pr, o, es, ep, ho, hx, hdt, he, hn⟩ := (show ObjOk X.prog X.w H s.heap d (.dT kvs) from hd.ok I.hok)
  have l1 : es.size = ks.length := size_of_entries he
  have l2 : kvs.length = ks.length := Paired.length pr
  refine Calls.call_function_entry PyProof.Rows.kind_sorted PyProof.Rows.plain_sorted PyProof.Rows.entry_sorted (PyProof.Rows.args_sorted1 _) ?_
  unfold Builtin.«sorted»
  refine wpAny_bind (m := checkCount "sorted" 1 1 _) (wpAny_pure ?_)
  refine wpAny_bind (PySem.W.kdu_collect (A := X.A.in1) (kdl_raw hs hx hdt) (I.ok.hd hc) ho (by omega) fun h' tk acc hk it => ?_)
  have hl : acc.toList.length = ks.length := by rw [Array.length_toList, it.1]; exact l1
  have ea : acc.toList = ks.map fun x => Value.ref x.2.1 := by
    apply List.ext_getElem?
    intro j
    rw [List.getElem?_map]
    cases hj : acc.toList[j]? with
    | none =>
      have h1 := List.getElem?_eq_none_iff.mp hj
      rw [List.getElem?_eq_none (by omega)]
      all_goals rfl
    | some v =>
      obtain ⟨en, hen, hv⟩ := it.2 j v (by rw [← Array.getElem?_toList]; exact hj)
      have qe := entry_at he j
      rw [hen] at qe
      cases hb : ks[j]? with
      | none =>
        rw [hb] at qe
        exact nomatch (show some en = none from qe)
      | some b =>
        rw [hb] at qe
        have e2 : en = entryOfKey (tupleKind (mixKind X.prog X.w)) b := Option.some.inj qe
        rw [hv, e2]
        all_goals rfl
  have eb : acc.toList = (ks.map fun x => x.2.1).map Value.ref := by rw [ea, List.map_map]; all_goals rfl
  have rv : Vals ((ks.map fun x => x.2.1).map V.ref) acc.toList := by rw [eb]; exact L2.vals_refs _
  have ik : IsKeys H kvs (ks.map fun x => x.2.1) := isKeys_of pr
  have I1 : Inv X pins σ H { s with heap := h', toks := tk } := I.kept hk
  have hd1 : DpAll X.K H ((ks.map fun x => x.2.1).map V.ref) (kvs.map fun p => ksD p.1) := isKeys_dp ik
  have htr : TrA H ((ks.map fun x => x.2.1).map V.ref) (kvs.map fun p => ksD p.1) := isKeys_tr ik
  generalize hxs : (ks.map fun x => x.2.1).map V.ref = xs at rv hd1 htr
  have hxl : xs.length = kvs.length := by rw [← hxs, List.length_map, List.length_map, l2]
  refine wpAny_bind (wpAny_newList ?_ (by rw [hl]; omega))
  have hoL : (h'.push (seqObj "list" acc.toList.toArray 0)).get? h'.objs.size = some (seqObj "list" acc.toList.toArray 0) := Heap.get?_push_size _ rfl
  show wpAny _ _ _ _ _ { s with heap := h'.push (seqObj "list" acc.toList.toArray 0), toks := tk }
  have ez := zip_snd hd1
  have ez2 : (kvs.map fun p => ksD p.1) = (kvs.map (·.1)).map ksD := by rw [List.map_map]; all_goals rfl
  have er : PySem.W.EachIs (fun v (b : V × PyData) => ∃ as, Reads h' v b.2 as ∧ h'.objs.size ∉ as) acc.toList (xs.zip (kvs.map fun p => ksD p.1)) := by
    rw [ez2]
    rw [ez2] at hd1
    exact each_reads0 (fun x u k rx hm => Dp.reads I1 _ _ _ (zip_dp hd1 _ hm) rx) rv (by rw [hxl, List.length_map])
  have lz : (xs.zip (kvs.map fun p => ksD p.1)).length = kvs.length := by rw [List.length_zip, List.length_map, hxl, Nat.min_self]
  refine wpAny_bind (wpAny_holding (PySem.W.list_sort_data (s := { s with heap := h'.push (seqObj "list" acc.toList.toArray 0), toks := tk }) (enc := Prod.snd) hoL (each_zip hd1 rv) (each_reads1 (fun _ _ q => Heap.get?_push_of_some _ q) er) (by rw [ez]; exact hal0) (by rw [ez]; exact hso) (by rw [lz]; exact z) (fun b hb => ?_) fun out hlen e => ?_))
  · have hm : b.2 ∈ kvs.map fun p => ksD p.1 := by rw [← ez]; exact List.mem_map.mpr ⟨b, hb, rfl⟩
    obtain ⟨p, hp, e⟩ := List.mem_map.mp hm
    have := hdp p hp
    rw [← e]
    have e1 : X.A.in1.units ≤ X.A.units + 1 := by first | exact Nat.le_refl _ | (simp [Around.in1]) | decide
    omega
  · obtain ⟨e', he'⟩ := PyProof.Rows.sortedHeap_at (vs := acc.toList) (out := out.toArray) hoL
    have perm := List.mergeSort_perm (xs.zip (kvs.map fun p => ksD p.1)) (PySem.W.dataLe false Prod.snd)
    have hys := TrA.unzip (H := H) (bs := (xs.zip (kvs.map fun p => ksD p.1)).mergeSort (PySem.W.dataLe false Prod.snd)) fun b hb => htr.zip b (perm.mem_iff.mp hb)
    rw [sort_snd, ez] at hys
    have hll : (((xs.zip (kvs.map fun p => ksD p.1)).mergeSort (PySem.W.dataLe false Prod.snd)).map Prod.fst).length ≤ sizeLine := by
      rw [List.length_map, perm.length_eq, lz]
      exact z
    refine wpAny_pure ⟨_, rfl, .ref h'.objs.size, upd H h'.objs.size (.lst (((xs.zip (kvs.map fun p => ksD p.1)).mergeSort (PySem.W.dataLe false Prod.snd)).map Prod.fst)), I1.laid (t' := tk) (fun b u e => ?_) (Nat.le_refl _)
      ⟨hll, out, e', each_vals e, he'⟩, rfl, q _ _ hys (I1.hok.fresh (Nat.le_refl _))⟩
    have hb : b < h'.objs.size := Heap.lt_size e
    rw [PyProof.Rows.sortedHeap_old (Nat.ne_of_lt hb) (by rw [size_push']; exact Nat.lt_succ_of_lt hb)]
    exact Heap.get?_push_of_some _ e
/-- {k: v} with a tuple key -/
def tDispT (tk tv : TE) : TE := fun σ H Q => ∀ p, H p = none → tk σ (upd H p (.dT [])) fun x H1 => tv σ H1 fun y H2 => H2 p = some (.dT []) ∧ ∃ ks b, x = .ref b ∧ H2 b = some (.tup (ks.map kV)) ∧ Q (.ref p) (upd H2 p (.dT [(ks, y)]))
theorem pe_dispT {pos : Pos} {k v : Expr} {tk tv : TE} (hu : X.A.units + 64 < cLine) (hk : PE X k tk) (hv : PE X v tv) : PE X (.Dict [some k] [v] pos) (tDispT tk tv) := by
  refine ⟨fun pins s σ H Q I q => ?_⟩
  have hn := I.hok.fresh (Nat.le_refl s.heap.objs.size)
  have I1 := I.laid (a := s.heap.objs.size) (o := .dT []) (h' := s.heap.push { cls := .type "dict", data := .dict #[] }) (t' := s.toks) (fun _ _ q => Heap.get?_push_of_some _ q) (Nat.le_refl _) (dt_empty s.heap I.big)
  rw [arm_eval_Dict, zip_pairTrees [some k] [v] X.env pos rfl rfl, dictDisplay_pairs (pairTrees [some k] [v] X.env pos) (by intro e; exact nomatch e) (show 1 < 17 by decide)]
  refine wpAny_bind (wpAny_standAt (wpAny_bind (wpAny_subDictH (knd := tupleKind (mixKind X.prog X.w)) (Q := fun d s' => wpAny (model X.prog X.w) X.A (pure (Value.ref d)) _ X.xe s') (show X.A.units < cLine by omega) (show 1 ≤ 15 by decide) ?_)))
  refine pairTrees_cons_walk (thn (hk.run pins _ σ _ _ I1 (q _ hn)) fun u s1 ⟨x, H1, I2, rx, q1⟩ => thn (hv.run pins s1 σ H1 _ I2 q1) fun w2 s2 ⟨y, H2, I3, ry, q2⟩ => pairTrees_nil_walk ?_)
  obtain ⟨e, ks, b, rfl, hb, q3⟩ := q2
  cases (show u = Value.ref b from rx)
  obtain ⟨z, hd, xs0, r0, dd⟩ := dt_of I3.hok e
  cases r0
  refine ⟨[(ks, b, w2)], ⟨rfl, rfl, key_of I3.hok hb, trivial⟩, dd, fun h' tk' dk hs => wpAny_pure ⟨.ref s.heap.objs.size, _, ?_, rfl, q3⟩⟩
  obtain ⟨o, es, ep, h1, h2, h3, h4, h5, h6⟩ := dk
  refine d_write I3 (by rw [e]; exact True.intro) hs ⟨o, h1⟩ ⟨by rw [List.length_singleton, sizeLine_eq]; omega, hd, [(ks, b, w2)], .cons ⟨rfl, ?_, ry⟩ .nil, o, es, ep, h1, h2, h3, h4, h6⟩
  have hne : b ≠ s.heap.objs.size := fun x => by
    rw [x, e] at hb
    cases hb
  show upd H2 _ _ b = _
  rw [upd_ne hne]
  exact hb
end
end Dl
set_option Elab.async false
set_option linter.all false
set_option maxRecDepth 100000
set_option maxHeartbeats 1000000
/-! f(lambda: e): all but the own table stays -/
namespace Gx
open PySem PySem.Spec PyProof.Rows L2 GxR LamX
/-- what the making of a lambda changes: the table at P, whose code objects stay known -/
structure LamMade (P : Addr) (q : Str) (H H1 : Hp) : Prop where
  keep : ∀ b o, b ≠ P → H b = some o → H1 b = some o
  tab : TabS H1 P q
section
variable {X : Cx} {pins : List (Addr × Obj)} {σ : L2.St} {H : Hp} {s : Shared}
theorem tabS_snoc {P c' : Addr} {q : Str} {ps : Array Value} {pos : Pos} (hP : H P = some (.tbl ps)) (tr : TriplesOk ps.toList) (known : ∀ (p : Pos) (cv : Value), codeAmong p ps.toList = some cv → ∃ c, cv = .ref c ∧ H c = some (CodeO c q)) (new : H c' = none) :
    LamMade P q H (upd (upd H P (.tbl (ps ++ #[rawInt pos.line, rawInt pos.col, .ref c']))) c' (CodeO c' q)) := by
  have keep : ∀ b o, b ≠ P → H b = some o → (upd (upd H P (.tbl (ps ++ #[rawInt pos.line, rawInt pos.col, .ref c']))) c' (CodeO c' q)) b = some o := fun b o h e => by
    rw [upd_ne (ne_of_none e new), upd_ne h]
    exact e
  have shape : (ps ++ #[rawInt pos.line, rawInt pos.col, .ref c']).toList = ps.toList ++ [rawInt pos.line, rawInt pos.col, .ref c'] := by simp
  refine ⟨keep, _, by rw [upd_ne (ne_of_none hP new), upd_same], by rw [shape]; exact PySem.TriplesOk_snoc _ _ _ _ tr, fun p cv h => ?_⟩
  rw [shape] at h
  rcases among_app _ tr h with old | this
  · obtain ⟨c, e, k⟩ := known p cv old
    have ne : c ≠ P := fun z => by
      rw [z, hP] at k
      exact codeO_ne ps (Option.some.inj k).symm
    exact ⟨c, e, keep c _ ne k⟩
  · exact ⟨c', this, upd_same⟩
theorem lamNew {c P : Addr} {params : Arguments} {body : Expr} {scope : Scope} {pos : Pos} {E : Value → Shared → Prop} {Q : Value → Shared → Prop} (I : Inv X pins σ H s) (TB : LamX.TabB X.base X.mg c P) (hcode : X.env.code = .ref c)
    (hT : TabS H P (X.env.qual ++ "<lambda>")) (hdef : defaultsOf params X.env = ([], [])) (hfree : ∀ y ∈ scope.names, y.2 = .free → ∃ c, X.env.cells.lookup y.1 = some c)
    (go : ∀ (f c' : Addr) (pm ctv : Value) (H1 : Hp) (s' : Shared), Inv X pins σ H1 s' → LamMade P (X.env.qual ++ "<lambda>") H H1 →
      s'.heap.get? f = some (PySem.W.kla_obj "<lambda>" (X.env.qual ++ "<lambda>") params body scope (cloFrom X.env.cells scope.names []) pm c' ctv) → H1 f = none → f ∉ frs X.stack → H1 c' = some (CodeO c' (X.env.qual ++ "<lambda>")) → Q (.ref f) s') :
    wpAny (model X.prog X.w) X.A (eval (.Lambda params body scope pos) X.env) Q E s := by
  obtain ⟨ps, hP, tr, known⟩ := id hT
  have there : s.heap.get? P = some { cls := .none, data := .fields ps } := I.hok P _ hP
  have outside : ∀ f, s.heap.objs.size ≤ f → f ∉ frs X.stack := fun f big hm => by
    rcases List.mem_cons.mp (I.stkSub _ hm) with e | e
    · have small := I.lt
      rw [← e] at small
      exact absurd (Nat.lt_of_lt_of_le small big) (Nat.lt_irrefl _)
    · exact I.nofs big e
  refine PySem.W.kla_eval hdef ?_
  cases found : codeAmong pos ps.toList with
  | some cv =>
    obtain ⟨c', e, k⟩ := known pos cv found
    subst e
    refine PySem.W.kla_makeFunctionHit (mg := X.mg) (c := c) (P := P) (ps := ps) (closure_ok hfree) I.ok.glob (I.mod.glob.keeps I.bk) hcode (TB.code.keeps I.bk) there tr found (TB.bm.keeps I.bk) fun ctv h' tk grow size => ?_
    exact go _ c' _ ctv H _ (I.kept fun b o e => Heap.get?_push_of_some _ (grow b o e)) ⟨fun _ _ _ e => e, hT⟩ (Heap.get?_push_size _ rfl) (I.hok.fresh size) (outside _ size) k
  | none =>
    refine PySem.W.kla_makeFunction (mg := X.mg) (c := c) (P := P) (ps := ps) (closure_ok hfree) I.ok.glob (I.mod.glob.keeps I.bk) hcode (TB.code.keeps I.bk) there tr found TB.gP (TB.bm.keeps I.bk) fun c' ctv h' tk grow old size rec written => ?_
    obtain ⟨c2, oc, vs, t, e2, at2, dat, nam⟩ := rec
    cases e2
    have new : H c' = none := I.hok.fresh old
    have size2 : s.heap.objs.size ≤ h'.objs.size := Nat.le_trans old (Nat.le_of_lt size)
    have made := tabS_snoc (pos := pos) hP tr known new
    refine go h'.objs.size c' ((X.mg "__name__").getD .none) ctv _ _ (inv_table (t' := tk) (more := #[rawInt pos.line, rawInt pos.col, .ref c']) (h' := h'.push (PySem.W.kla_obj "<lambda>" (X.env.qual ++ "<lambda>") params body scope (cloFrom X.env.cells scope.names []) ((X.mg "__name__").getD .none) c' ctv)) I hP
      (fun b o ne e => Heap.get?_push_of_some _ (grow b o ne e)) (Heap.get?_push_of_some _ written) old ⟨oc, vs, t, Heap.get?_push_of_some _ at2, dat, nam⟩) made (Heap.get?_push_size _ rfl) ?_ (outside _ size2) upd_same
    rw [upd_ne (Nat.ne_of_gt size), upd_ne (Nat.ne_of_gt (Nat.lt_of_lt_of_le (Heap.lt_size there) size2))]
    exact I.hok.fresh size2
/-- f(lambda: e), f a def that calls what it got -/
def tLam1 (P : Addr) (q : Str) (TT : (XK → Hp → VK → Prop) → Hp → VK → Prop) (t : XK → TE) : TE := fun σ H Q => TabS H P q ∧ ∀ H1, LamMade P q H H1 → TT (fun E H' Q' => t E σ H' Q') H1 Q
theorem pe_lam1 {TT : (XK → Hp → VK → Prop) → Hp → VK → Prop} {x a : Str} {g c P : Addr} {k : Nat} {pg : Arguments} {bg : List Stmt} {sg : Scope} {dV kV doc pm cdv ct oc : Value} {an od : Option Addr} {osl : Array (Option Value)} {Ng : List Str}
    {params : Arguments} {body : Expr} {scope : Scope} {t : XK → TE} {p lpos pos : Pos} (hg : Gl X x) (hm : X.mg x = some (.ref g)) (hk : PySem.W.keepIn X.K (.ref g) = true)
    (lk : X.K.lookup g = some ⟨oc, od, .func (PySem.W.fnOf x x pg bg sg dV kV doc pm an cdv ct), osl⟩) (hcg : PySem.W.codeIn X.K cdv x = true) (hb : L2.Binds X.K (PySem.W.fnOf x x pg bg sg dV kV doc pm an cdv ct) [a] []) (Sg : FnScope Ng [a] sg) (hNg : Ng[0]? = some a) (hva : Vis sg a)
    (hG : GivesTo X Ng x sg g cdv bg a (X.env.qual ++ "<lambda>") TT)
    (TB : LamX.TabB X.base X.mg c P) (hcode : X.env.code = .ref c) (hr : Room (k + 2) X.A) (L : LamS X.env.scope scope) (hdef : defaultsOf params X.env = ([], []))
    (hbind : ∀ (q : Str) (cl : List (Str × Addr)) (pm cv ctv : Value), bindArgs (PySem.W.kla_fn "<lambda>" q params body scope cl pm cv ctv) ⟨[], []⟩ = pure [])
    (hbody : ∀ (A : Around) (outer : List Env) (s : Shared) (H : Hp) (E : XK) (f c' : Addr), Room k (A.deeper (lamEnv X scope s.heap.objs.size f c')) → PE (lamCx X A outer s H E scope f c') body (t E))
    (hdb : (x == ("__debug__" : Str)) = false := by decide) (hd : (a == ("__debug__" : Str)) = false := by decide) (hcd : (a == ("__classdict__" : Str)) = false := by decide) :
    PE X (.Call (.Name x p) [.Lambda params body scope lpos] [] pos) (tLam1 P (X.env.qual ++ "<lambda>") TT t) := by
  refine ⟨fun pins s σ H Q I ⟨hT, h⟩ => ?_⟩
  refine wpAny_Call_Name_kw (ld_glob I hg hm (PySem.W.callWith_K (h₀ := X.base) I.ok.mod.kin hk ?_ (by rfl) (by rfl)) hdb)
  refine Calls.spliced_cons (lamNew I TB hcode hT hdef (L.has I.ok) fun f c' pm' ctv H1 s' I1 made hf hfn hfr hco => Calls.spliced_nil ⟨I1.kIn, ?_⟩)
  have ran : codeAny (model X.prog X.w) X.A (.call (.ref g) ⟨[.ref f], []⟩) (CR C8.CX0 X.stack X.prog X.w H1 s' Q C8.E0) s' :=
    run_ofS (N := Ng) (ps := [a]) (us := [.ref f]) (vs := [.ref f]) lk hcg Sg hr I1.env0 (hb s' [.ref f] I1.kIn rfl) (.cons rfl .nil) rfl fun hr' => by
      obtain ⟨t', ht', hq'⟩ := hG f c' s' H1 Q (fun E H' Q' => t E σ H' Q') (fun W pn xe E p1 p2 tk hW => pe_act (i := 0) I1 L hf hfn hfr (hbind _ _ _ _ _) tk hW hr' (fun A outer s H hr2 => hbody A outer s H E f c' hr2) hNg hva hd hcd) hco (h H1 made)
      exact ⟨t', ht'.nox, hq'⟩
  refine wpAny_call (codeAny_mono ran fun r s2 hq => ?_)
  match r, hq with
  | .ok (.ret u), hq => exact I1.after hq
  | .ok .next, hq => exact False.elim hq
  | .ok .brk, hq => exact False.elim hq
  | .ok .cont, hq => exact False.elim hq
  | .error e, hq => exact (show False from hq).elim
end
end Gx
set_option Elab.async false
set_option linter.all false
set_option maxRecDepth 100000
set_option maxHeartbeats 1000000
/-! a lambda as a value: made, kept, later called by a def that got it -/
namespace Gx
open PySem PySem.Spec PyProof.Rows L2 GxR LamX
/-- the function object that a lambda made -/
def LamO (f : Addr) (q : Str) (params : Arguments) (body : Expr) (scope : Scope) (clo : List (Str × Addr)) (c' : Addr) : HO := .ext fun h => ∃ pm ctv : Value, h.get? f = some (PySem.W.kla_obj "<lambda>" q params body scope clo pm c' ctv)
theorem lamO_ok {P : Program} {w : World} {H : Hp} {h : Heap} {f c' : Addr} {q : Str} {params : Arguments} {body : Expr} {scope : Scope} {clo : List (Str × Addr)} {pm ctv : Value} (e : h.get? f = some (PySem.W.kla_obj "<lambda>" q params body scope clo pm c' ctv)) : ObjOk P w H h f (LamO f q params body scope clo c') :=
  ⟨⟨pm, ctv, e⟩, ⟨_, e⟩, fun h1 h2 ⟨pm, ctv, e⟩ k => ⟨pm, ctv, k _ e⟩⟩
theorem lamO_ne {f c' : Addr} {q : Str} {params : Arguments} {body : Expr} {scope : Scope} {clo : List (Str × Addr)} (ps : Array Value) : LamO f q params body scope clo c' ≠ .tbl ps := fun z => by
  unfold LamO at z
  cases z
section
variable {X : Cx} {pins : List (Addr × Obj)} {σ : L2.St} {H : Hp} {s : Shared}
theorem lamKept {c P : Addr} {params : Arguments} {body : Expr} {scope : Scope} {pos : Pos} {E : Value → Shared → Prop} {Q : Value → Shared → Prop} (I : Inv X pins σ H s) (TB : LamX.TabB X.base X.mg c P) (hcode : X.env.code = .ref c)
    (hT : TabS H P (X.env.qual ++ "<lambda>")) (hdef : defaultsOf params X.env = ([], [])) (hfree : ∀ y ∈ scope.names, y.2 = .free → ∃ c, X.env.cells.lookup y.1 = some c)
    (go : ∀ (f c' : Addr) (H1 : Hp) (s' : Shared), Inv X pins σ (upd H1 f (LamO f (X.env.qual ++ "<lambda>") params body scope (cloFrom X.env.cells scope.names []) c')) s' → LamMade P (X.env.qual ++ "<lambda>") H H1 →
      H1 f = none → H1 c' = some (CodeO c' (X.env.qual ++ "<lambda>")) → Q (.ref f) s') :
    wpAny (model X.prog X.w) X.A (eval (.Lambda params body scope pos) X.env) Q E s := by
  obtain ⟨ps, hP, tr, known⟩ := id hT
  have there : s.heap.get? P = some { cls := .none, data := .fields ps } := I.hok P _ hP
  refine PySem.W.kla_eval hdef ?_
  cases found : codeAmong pos ps.toList with
  | some cv =>
    obtain ⟨c', e, k⟩ := known pos cv found
    subst e
    refine PySem.W.kla_makeFunctionHit (mg := X.mg) (c := c) (P := P) (ps := ps) (closure_ok hfree) I.ok.glob (I.mod.glob.keeps I.bk) hcode (TB.code.keeps I.bk) there tr found (TB.bm.keeps I.bk) fun ctv h' tk grow size => ?_
    have I1 := I.kept (h' := h') (t' := tk) grow
    exact go _ c' H _ (I1.laid (t' := tk) (fun b o e => Heap.get?_push_of_some _ e) (Nat.le_refl _) (lamO_ok (Heap.get?_push_size _ rfl))) ⟨fun _ _ _ e => e, hT⟩ (I1.hok.fresh (Nat.le_refl _)) k
  | none =>
    refine PySem.W.kla_makeFunction (mg := X.mg) (c := c) (P := P) (ps := ps) (closure_ok hfree) I.ok.glob (I.mod.glob.keeps I.bk) hcode (TB.code.keeps I.bk) there tr found TB.gP (TB.bm.keeps I.bk) fun c' ctv h' tk grow old size rec written => ?_
    obtain ⟨c2, oc, vs, t, e2, at2, dat, nam⟩ := rec
    cases e2
    have new : H c' = none := I.hok.fresh old
    have made := tabS_snoc (pos := pos) hP tr known new
    have I1 := inv_table (t' := tk) (more := #[rawInt pos.line, rawInt pos.col, .ref c']) (h' := h') I hP (fun b o ne e => grow b o ne e) written old ⟨oc, vs, t, at2, dat, nam⟩
    exact go h'.objs.size c' _ _ (I1.laid (t' := tk) (fun b o e => Heap.get?_push_of_some _ e) (Nat.le_refl _) (lamO_ok (Heap.get?_push_size _ rfl))) made (I1.hok.fresh (Nat.le_refl _)) upd_same
/-- lambda: e, as a value -/
def tLamV (X : Cx) (P : Addr) (params : Arguments) (body : Expr) (scope : Scope) : TE := fun σ H Q => TabS H P (X.env.qual ++ "<lambda>") ∧ ∀ f c' H1, LamMade P (X.env.qual ++ "<lambda>") H H1 → H1 f = none → H1 c' = some (CodeO c' (X.env.qual ++ "<lambda>")) →
  Q (.ref f) (upd H1 f (LamO f (X.env.qual ++ "<lambda>") params body scope (cloFrom X.env.cells scope.names []) c'))
theorem pe_lamV {c P : Addr} {params : Arguments} {body : Expr} {scope : Scope} {pos : Pos} (TB : LamX.TabB X.base X.mg c P) (hcode : X.env.code = .ref c) (L : LamS X.env.scope scope) (hdef : defaultsOf params X.env = ([], [])) :
    PE X (.Lambda params body scope pos) (tLamV X P params body scope) := by
  refine ⟨fun pins s σ H Q I ⟨hT, h⟩ => ?_⟩
  exact lamKept I TB hcode hT hdef (L.has I.ok) fun f c' H1 s' I1 made n k => ⟨.ref f, _, I1, rfl, h f c' H1 made n k⟩
end
section
variable {X : Cx} {pins : List (Addr × Obj)} {σ : L2.St} {H : Hp} {s : Shared}
/-- a kept thing that is no data may be forgotten -/
theorem forget {f : Addr} {φ : Heap → Prop} (I : Inv X pins σ H s) (hf : H f = some (.ext φ)) : Inv X pins σ (delH H f) s := by
  have off : ∀ {b u}, H b = some u → (∀ ψ, u ≠ .ext ψ) → delH H f b = some u := fun {b u} e n => by
    unfold delH
    rw [if_neg fun z => n φ (Option.some.inj (e.symm.trans (by rw [z]; exact hf)))]
    exact e
  have fr : ∀ b, H b = none → delH H f b = none := fun b e => by
    unfold delH
    split
    · rfl
    · exact e
  have tb : ∀ b ps, H b = some (.tbl ps) → ∃ more, delH H f b = some (.tbl (ps ++ more)) := fun b ps e => ⟨#[], by
    rw [Array.append_empty]
    exact off e fun _ z => by cases z⟩
  have un : Un X.fs [] H (delH H f) s.heap s.heap := ⟨fun _ _ e _ _ _ => e, fun b o e _ _ _ => ⟨o.slots, e⟩, fun b o _ e _ => fr b e, fun b o e _ => ⟨o, e⟩, fun b xs e => off e (fun _ z => by cases z), fun b o u e => off e (fun _ z => by cases z), tb⟩
  refine I.un (t' := s.toks) un fun b u e => ?_
  have e' : H b = some u := by
    unfold delH at e
    split at e
    · cases e
    · exact e
  exact (I.hok b u e').stay (fun _ _ _ q => q) (fun d q => off q fun _ z => by cases z) fun d xs q => off q fun _ z => by cases z
/-- what H knows of the lambda at f -/
def LamK (X : Cx) (params : Arguments) (body : Expr) (scope : Scope) (f c' : Addr) (H : Hp) : Prop := f ≠ c' ∧ H f = some (LamO f (X.env.qual ++ "<lambda>") params body scope (cloFrom X.env.cells scope.names []) c') ∧ H c' = some (CodeO c' (X.env.qual ++ "<lambda>"))
/-- what a lambda's run asks -/
structure LamRun (X : Cx) (k : Nat) (params : Arguments) (body : Expr) (scope : Scope) (t : XK → TE) : Prop where
  L : LamS X.env.scope scope
  bind : ∀ (q : Str) (cl : List (Str × Addr)) (pm cv ctv : Value), bindArgs (PySem.W.kla_fn "<lambda>" q params body scope cl pm cv ctv) ⟨[], []⟩ = pure []
  body : ∀ (A : Around) (outer : List Env) (s : Shared) (H : Hp) (E : XK) (f c' : Addr), Room k (A.deeper (lamEnv X scope s.heap.objs.size f c')) → PE (lamCx X A outer s H E scope f c') body (t E)
/-- x(e): e is a kept lambda, which is forgotten with the call -/
def tTellV (X : Cx) (k : Nat) (TT : (XK → Hp → VK → Prop) → Hp → VK → Prop) (te : TE) : TE := fun σ H Q => te σ H fun v H1 => ∃ f c' params body scope t, v = .ref f ∧ LamK X params body scope f c' H1 ∧ LamRun X k params body scope t ∧ TT (fun E H' Q' => t E σ H' Q') (delH H1 f) Q
def onOne (P : V → Hp → Prop) : List V → Hp → Prop
  | [v], H => P v H
  | _, _ => False
theorem onOne_is {P : V → Hp → Prop} : ∀ {vs : List V} {H : Hp}, onOne P vs H → ∃ v, vs = [v] ∧ P v H
  | [v], _, h => ⟨v, rfl, h⟩
  | [], _, h => h.elim
  | _ :: _ :: _, _, h => h.elim
theorem pe_tellV {TT : (XK → Hp → VK → Prop) → Hp → VK → Prop} {x a : Str} {g : Addr} {k : Nat} {pg : Arguments} {bg : List Stmt} {sg : Scope} {dV kV doc pm cdv ct oc : Value} {an od : Option Addr} {osl : Array (Option Value)} {Ng : List Str} {e : Expr} {te : TE} {p pos : Pos} (hg : Gl X x) (hm : X.mg x = some (.ref g)) (hk : PySem.W.keepIn X.K (.ref g) = true)
    (there : X.K.lookup g = some ⟨oc, od, .func (PySem.W.fnOf x x pg bg sg dV kV doc pm an cdv ct), osl⟩) (hcg : PySem.W.codeIn X.K cdv x = true) (hb : L2.Binds X.K (PySem.W.fnOf x x pg bg sg dV kV doc pm an cdv ct) [a] []) (Sg : FnScope Ng [a] sg) (first : Ng[0]? = some a) (seen : Vis sg a)
    (hG : GivesTo X Ng x sg g cdv bg a (X.env.qual ++ "<lambda>") TT) (hr : Room (k + 2) X.A) (ha : PA X [e] (tCons te tNil))
    (nd : (x == ("__debug__" : Str)) = false := by decide) (nd2 : (a == ("__debug__" : Str)) = false := by decide) (nd3 : (a == ("__classdict__" : Str)) = false := by decide)
    (hst : starEach [e] X.env = (false, eval e X.env) :: starEach [] X.env := by rfl) (hpl : (backTo pos (starEach [] X.env)).any (·.1) = false := by rfl) :
    PE X (.Call (.Name x p) [e] [] pos) (tTellV X k TT te) := by
  refine ⟨fun pins s σ H Q I h => wpAny_Call_Name_kw (ld_glob I hg hm ?_ nd)⟩
  refine' PySem.W.callWith_K (h₀ := X.base) I.ok.mod.kin hk (thn (ha.run pos pins s σ H (onOne fun v H1 => ∃ f c' params body scope t, v = .ref f ∧ LamK X params body scope f c' H1 ∧ LamRun X k params body scope t ∧ TT (fun E H' Q' => t E σ H' Q') (delH H1 f) Q) I h) fun us s1 ⟨vs, H1, I1, r, q⟩ => ⟨I1.kIn, ?hc⟩) hst hpl
  case hc =>
    obtain ⟨v, rfl, q⟩ := onOne_is q
    obtain ⟨f, c', params, body, scope, t, rfl, ⟨ne, hl, hc⟩, R, hT⟩ := q
    obtain ⟨u, rfl, ru⟩ : ∃ u, us = [u] ∧ RelV (V.ref f) u := by
      cases r with
      | cons a b => cases b; exact ⟨_, rfl, a⟩
    obtain rfl : u = Value.ref f := ru
    obtain ⟨⟨pm, ctv, made⟩, _, _⟩ := I1.hok f _ hl
    have far : f ∉ frs X.stack := fun z => by
      have := I1.stkFree f z
      rw [hl] at this
      cases this
    have J := forget I1 hl
    have gone : delH H1 f f = none := if_pos rfl
    have code : delH H1 f c' = some (CodeO c' (X.env.qual ++ "<lambda>")) := (if_neg fun z => ne z.symm).trans hc
    have ran : codeAny (model X.prog X.w) X.A (.call (.ref g) ⟨[.ref f], []⟩) (CR C8.CX0 X.stack X.prog X.w (delH H1 f) s1 Q C8.E0) s1 :=
      run_ofS (N := Ng) (ps := [a]) (us := [.ref f]) (vs := [.ref f]) there hcg Sg hr J.env0 (hb s1 [.ref f] J.kIn rfl) (.cons rfl .nil) rfl fun hr' => by
        obtain ⟨t', ht', hq'⟩ := hG f c' s1 (delH H1 f) Q (fun E H' Q' => t E σ H' Q') (fun W pn xe E p1 p2 tk hW => pe_act (i := 0) J R.L made gone far (R.bind _ _ _ _ _) tk hW hr' (fun A outer s H hr2 => R.body A outer s H E f c' hr2) first seen nd2 nd3) code hT
        exact ⟨t', ht'.nox, hq'⟩
    refine wpAny_call (codeAny_mono ran fun r s2 hq => ?_)
    match r, hq with
    | .ok (.ret u), hq => exact J.after hq
    | .ok .next, hq => exact False.elim hq
    | .ok .brk, hq => exact False.elim hq
    | .ok .cont, hq => exact False.elim hq
    | .error e, hq => exact (show False from hq).elim
end
end Gx
set_option Elab.async false
set_option linter.all false
set_option maxRecDepth 100000
set_option maxHeartbeats 1000000
/-! a lambda with parameters and nothing captured, called from within a built-in -/
namespace Gx
open PySem PySem.Spec PyProof.Rows L2 GxR LamX
section
variable {P : Program} {w : World} {K : PySem.W.Frag} {mg : Str → Option Value} {base : Heap} {k : Nat} {f c' : Addr} {q : Str} {params : Arguments} {body : Expr} {scope : Scope} {N ps : List Str} {A : Around} {outer : List Env} {s : Shared} {H : Hp}
theorem run_lamP {pm ctv : Value} {us : List Value} {vs : List V} {Q : VK} {te : TE} (S : FnScope N ps scope) (at_ : s.heap.get? f = some (PySem.W.kla_obj "<lambda>" q params body scope [] pm c' ctv)) (code : H c' = some (CodeO c' q)) (hr : Room (k + 1) A) (e0 : Env0 P w K mg base A outer s H)
    (bound : bindArgs (PySem.W.kla_fn "<lambda>" q params body scope [] pm (.ref c') ctv) ⟨us, []⟩ = pure (ps.zip us)) (r : Vals vs us) (hl : vs.length = ps.length)
    (hbody : Room k (A.deeper (envOfC q scope s.heap.objs.size f (.ref c'))) → PE (cxOf C8.CX0 P w K mg base N q scope f (.ref c') A outer s H C8.E0) body te) (h : te (L2.start N vs) H Q) :
    codeAny (model P w) A (.call (.ref f) ⟨us, []⟩) (CR C8.CX0 outer P w H s Q C8.E0) s := by
  obtain ⟨⟨oc, flds, t, hoc, hdc, hvc⟩, _, _⟩ := e0.hok c' _ code
  have lim : s.heap.NoLimit := e0.mod.nolimit.keeps fun b o e => (e0.bs b o e).1
  have kinds : ∀ y ∈ ps.zip us, scope.names.lookup y.1 = some .local ∨ (scope.names.lookup y.1 = some .cell ∧ ((cellsFrom (s.heap.objs.size + 1) scope.names []).lookup y.1).isSome = true) := fun ⟨n, v⟩ hy =>
    (S.par n (List.of_mem_zip hy).1).elim (fun z => .inl z) fun z => .inr ⟨z, PySem.W.cellsFrom_some _ _ _ (.inl z)⟩
  refine PySem.W.kla_callFunE hr.depth at_ rfl S.co S.gen rfl ⟨c', oc, flds, t, rfl, hoc, hdc, hvc⟩ ?_
  rw [bound]
  refine wpAny_pure (wpAny_newFunctionEnv_cells S.kind kinds fun env he s1 x => ?_)
  subst he
  have I : Inv (cxOf C8.CX0 P w K mg base N q scope f (.ref c') A outer s H C8.E0) [] (L2.start N vs) H s1 := inv_start S hr.hd e0 hl r x
  refine ⟨lim.keeps x.toInCall.keep, PySem.W.kla_codeExpr (wpAny_mono ((hbody (hr.deeper _)).run [] s1 (L2.start N vs) H Q I h) (fun u s' ⟨v, H', J, rv, hq⟩ => ?_) fun e s' hs => hs)⟩
  exact ⟨v, H', J.os, J.bare, J.base, J.hok, rv, hq⟩
end
end Gx
set_option Elab.async false
set_option linter.all false
set_option maxRecDepth 100000
set_option maxHeartbeats 1000000
/-! sorted(t, key=lambda ..), t a tuple of one item -/
namespace PySem.W
open PySem PySem.Spec PySem.Calls PyProof.Rows
section
variable {prog : Program} {w : World} {A : Around} {E : Value → Shared → Prop} {s : Shared}
theorem collect_one {l : Addr} {u : Value} {Q : List Value → Shared → Prop} (hl : IsTup s.heap l #[u])
    (h : Q [u] { s with heap := (s.heap.push (seqObj "list" #[] 0)).update s.heap.objs.size (Obj.mapSeq (· ++ #[u])) }) : wpAny (model prog w) A (collect (.ref l)) Q E s := by
  obtain ⟨o, ho, hc, n, hd⟩ := hl
  have there : (s.heap.push (seqObj "list" #[] 0)).get? l = some o := Heap.get?_push_of_some _ ho
  have made : (s.heap.push (seqObj "list" #[] 0)).get? s.heap.objs.size = some (seqObj "list" #[] 0) := Heap.get?_push_size _ rfl
  have big : ((#[] : Array Value) ++ #[u]).size ≤ sizeLine + 1 := by rw [sizeLine_eq]; simp
  unfold collect
  refine wpAny_bind (wpAny_runValue (codeAny_builtin entry_proto_collect' ?_))
  show wpAny _ _ (do again (.builtin "list.__iadd__" ⟨[← newList [], .ref l], []⟩)) _ _ s
  refine wpAny_bind (wpAny_newList (wpAny_pure ⟨Code.quiet_builtin _ (by decide +kernel), codeAny_builtin entry_list_iadd' (show wpAny _ _ (Builtin.List.listExtendWith (.ref s.heap.objs.size) (.ref l) (.ref s.heap.objs.size)) _ _ { s with heap := s.heap.push (seqObj "list" #[] 0) } from ?_)⟩))
  unfold Builtin.List.listExtendWith
  refine wpAny_bind (wpAny_typeOf (T := "tuple") ⟨o, there, hc⟩ ?_)
  have branch : (Value.type "tuple" == Value.type "tuple") = true := by rfl
  rw [if_pos (by rw [branch]; simp)]
  refine wpAny_bind (listItems_at there hd (wpAny_bind (listItems_at (xs := #[]) (n := 0) made rfl ?_)))
  rw [if_neg (by simp)]
  refine wpAny_bind (listUpdate_at (xs := #[]) (n := 0) made rfl (wpAny_pure ?_) (Nat.zero_le _) big)
  show wpAny (model prog w) A (do
      let o ← load s.heap.objs.size
      match o.data with
      | .seq xs _ => pure xs.toList
      | _ => unsupported "internal:collect") Q E { s with heap := (s.heap.push (seqObj "list" #[] 0)).update s.heap.objs.size (Obj.mapSeq (· ++ #[u])) }
  refine wpAny_bind (wpAny_load (get?_update_seq made _) ?_)
  show wpAny _ _ (pure ((#[] : Array Value) ++ #[u]).toList) Q E _
  rw [show ((#[] : Array Value) ++ #[u]).toList = [u] by simp]
  exact wpAny_pure h
/-- the end of the sort where one item stands -/
theorem oneSorted {f : Value} {a : Addr} {n : Nat} {u : Value} {k : PyData} {P : PySem.Fin → Shared → Prop} (ho : s.heap.get? a = some (seqObj "list" #[u] n)) (hal : AllAlike [k]) (hsk : Sortable [k]) (hu : A.units + k.depth < cLine)
    (turn : ∀ (h : Heap) (kS : Addr), (∀ b o, b ≠ a → s.heap.get? b = some o → h.get? b = some o) → s.heap.objs.size ≤ kS → kS < h.objs.size → (∃ e, h.get? a = some (seqObj "list" #[] e)) → h.get? kS = some (seqObj "list" #[] 0) →
      wpAny (model prog w) A (call f [u]) (fun kv s2 => Reads s2.heap kv k [] ∧ s2.heap.get? kS = some (seqObj "list" #[] 0) ∧ (∀ o, h.get? a = some o → s2.heap.get? a = some o) ∧ ∀ h' tk c, (∀ b o, b ≠ a → b ≠ kS → s2.heap.get? b = some o → h'.get? b = some o) → h'.get? a = some (seqObj "list" #[u] c) → P (.done (.ret .none)) { s2 with heap := h', toks := tk }) (fun _ _ => False) { s with heap := h }) :
    wpAny (model prog w) A (ksk_tree a f false) P E s := by
  have ha : a < s.heap.objs.size := Heap.lt_size ho
  obtain ⟨e1, ho1⟩ : ∃ e1, (s.heap.update a (Obj.mapSeq fun _ => (#[] : Array Value))).get? a = some (seqObj "list" #[] e1) := ⟨_, get?_update_seq ho fun _ => #[]⟩
  have sz : ((s.heap.update a (Obj.mapSeq fun _ => (#[] : Array Value))).push (seqObj "tuple" #[u] 0)).objs.size = s.heap.objs.size + 1 := by rw [size_push', Heap.size_update]
  have one : #[u].size ≤ sizeLine := by rw [sizeLine_eq]; simp
  unfold ksk_tree
  refine wpAny_bind (listItems_at ho rfl (wpAny_bind (listUpdate_at ho rfl ?_ one (Nat.zero_le _))))
  refine wpAny_bind (seqEpoch_at ho1 rfl (wpAny_bind (wpAny_newTuple ?_ (by show 1 ≤ _; rw [sizeLine_eq]; decide))))
  refine wpAny_bind (wpAny_newList (wpAny_holding ?_) (Nat.zero_le _))
  generalize hg : ((s.heap.update a (Obj.mapSeq fun _ => (#[] : Array Value))).push (seqObj "tuple" #[u] 0)) = g at sz ⊢
  have old : ∀ b o, b ≠ a → s.heap.get? b = some o → (g.push (seqObj "list" #[] 0)).get? b = some o := fun b o hb q => by
    rw [← hg]
    exact Heap.get?_push_of_some _ (Heap.get?_push_of_some _ (((Heap.SameBut.update s.heap a _).2 b hb).trans q))
  have nk : (g.push (seqObj "list" #[] 0)).get? g.objs.size = some (seqObj "list" #[] 0) := Heap.get?_push_size _ rfl
  have na : (g.push (seqObj "list" #[] 0)).get? a = some (seqObj "list" #[] e1) := Heap.get?_push_of_some _ (by rw [← hg]; exact Heap.get?_push_of_some _ ho1)
  have hka : g.objs.size ≠ a := fun z => absurd ha (by rw [← z, sz]; exact Nat.not_lt.mpr (Nat.le_succ _))
  have t := turn (g.push (seqObj "list" #[] 0)) g.objs.size old (by rw [sz]; exact Nat.le_succ _) (Heap.lt_size nk) ⟨_, na⟩ nk
  generalize g.push (seqObj "list" #[] 0) = h0 at t old nk na ⊢
  generalize g.objs.size = kS at t nk hka ⊢
  show wpAny _ _ (ksk_rest a f false #[u] e1 (.ref kS)) _ _ _
  unfold ksk_rest
  refine wpAny_bind (wpAny_rule ?_)
  simp only [List.forIn_toArray, List.forIn_cons, List.forIn_nil, bind_assoc]
  refine wpAny_bind (wpAny_attempt (wpAny_mono t (fun kv s2 hk => ?_) fun _ _ hF => hF.elim))
  obtain ⟨r, k1, k2, fin⟩ := hk
  obtain ⟨c2, nk2⟩ : ∃ c2, (s2.heap.update kS (Obj.mapSeq (·.push kv))).get? kS = some (seqObj "list" #[kv] c2) := ⟨_, get?_update_seq k1 (·.push kv)⟩
  have same := Heap.SameBut.update s2.heap kS (Obj.mapSeq (·.push kv))
  have na2 : (s2.heap.update kS (Obj.mapSeq (·.push kv))).get? a = some (seqObj "list" #[] e1) := (same.2 a hka.symm).trans (k2 _ na)
  show wpAny _ _ ((Builtin.List.listUpdate (Value.ref kS) (fun x => x.push kv) >>= fun _ => pure (ForInStep.yield PUnit.unit)) >>= _) _ _ _
  rw [bind_assoc]
  refine wpAny_bind (listUpdate_at k1 rfl ?_ (Nat.zero_le _) (by rw [sizeLine_eq]; simp))
  simp only [pure_bind]
  have rk : Reads (s2.heap.update kS (Obj.mapSeq (·.push kv))) kv k [] := Reads.keepBut (a := kS) (fun b o hb e => (same.2 b hb).trans e) (fun o e => by rw [k1] at e; rw [← Option.some.inj e]) k kv [] (hal k List.mem_cons_self k List.mem_cons_self) r (by simp)
  generalize s2.heap.update kS (Obj.mapSeq (·.push kv)) = g2 at nk2 same na2 rk ⊢
  refine wpAny_bind (listItems_at nk2 rfl ?_)
  obtain ⟨h1, r1, r2⟩ := L2.restrict g2 fun b => decide (b ≠ kS)
  have kp : KeepsBut a h1 g2 := fun b o _ e => by
    by_cases hb : b = kS
    · rw [r2 b (decide_eq_false fun z => z hb)] at e
      cases e
    · rw [r1 b (decide_eq_true hb)] at e
      exact e
  have each : EachIs (fun v d => ∃ as, Reads g2 v d as) [kv] [k] := .cons ⟨[], rk⟩ .nil
  refine keyH_end (vs := [u]) (κ := dataKind g2 [k]) (h₁ := h1) kp (r2 kS (decide_eq_false fun z => z rfl)) nk2 na2 hka (SortsAt.data (s := { s2 with heap := g2 }) each hal hsk fun d hd => by rw [List.mem_singleton.mp hd]; exact hu) rfl (by rw [sizeLine_eq]; show 1 ≤ 16777216; decide) fun h3 tk3 c k3 n3 => fin h3 tk3 c (fun b o b1 b2 e => k3 b o b1 (by rw [r1 b (decide_eq_true b2)]; exact (same.2 b b2).trans e)) ?_
  have ko : KeyedOut false [k] [u] (sortVals (dataKind g2 [k]) false [kv] [u]) := ⟨g2, [kv], hal, rfl, each⟩
  have hl := ko.length rfl
  have hm : ∀ v ∈ sortVals (dataKind g2 [k]) false [kv] [u], v = u := fun v hv => List.mem_singleton.mp (ko.mem hv)
  rw [n3]
  show some (seqObj "list" (sortVals (dataKind g2 [k]) false [kv] [u]).toArray c) = _
  generalize sortVals (dataKind g2 [k]) false [kv] [u] = out at hl hm
  match out, hl with
  | [v], _ => rw [hm v List.mem_cons_self]
end
end PySem.W
set_option Elab.async false
set_option linter.all false
set_option maxRecDepth 100000
set_option maxHeartbeats 1000000
/-! sorted(t, key=lambda ..), t a tuple of one item: the rule -/
namespace Gx
open PySem PySem.Spec PyProof.Rows L2 GxR LamX Dl
/-- sorted(t, key=f) -/
def rSort1 (X : Cx) (N : List Str) (params : Arguments) (body : Expr) (scope : Scope) (te : TE) : List V → List V → Hp → VK → Prop := fun xs zs H Q => ∃ t x f c' ks, xs = [.ref t] ∧ SqT X.K H t [x] ∧ zs = [.ref f] ∧
  H f = some (LamO f (X.env.qual ++ "<lambda>") params body scope [] c') ∧ H c' = some (CodeO c' (X.env.qual ++ "<lambda>")) ∧ PySem.W.AllAlike [ksD ks] ∧ PySem.W.Sortable [ksD ks] ∧ (ksD ks).depth ≤ 2 ∧
  te (L2.start N [x]) H fun kv H2 => Dp X.K H2 kv (ksD ks) ∧ ∀ p, H2 p = none → Q (.ref p) (upd H2 p (.lst [x]))
theorem args_sort_key (a v : Value) : argsOk "list.sort" ⟨[a], [(Str.ofString "key", v)]⟩ := by unfold argsOk; kernel_rfl
theorem args_sorted_kw (a v : Value) : argsOk "sorted" ⟨[a], [(Str.ofString "key", v)]⟩ := by unfold argsOk; kernel_rfl
theorem cr_sort1 {X : Cx} {N : List Str} {p : Str} {k : Nat} {params : Arguments} {body : Expr} {scope : Scope} {te : TE} (S : FnScope N [p] scope) (hr : Room (k + 5) X.A)
    (bound : ∀ (pm cv ctv u : Value), bindArgs (PySem.W.kla_fn "<lambda>" (X.env.qual ++ "<lambda>") params body scope [] pm cv ctv) ⟨[u], []⟩ = pure ([p].zip [u]))
    (hbody : ∀ (A : Around) (outer : List Env) (s : Shared) (H : Hp) (f c' : Addr), Room k (A.deeper (envOfC (X.env.qual ++ "<lambda>") scope s.heap.objs.size f (.ref c'))) → PE (cxOf C8.CX0 X.prog X.w X.K X.mg X.base N (X.env.qual ++ "<lambda>") scope f (.ref c') A outer s H C8.E0) body te) :
    CallRK X (.builtin "sorted") [Str.ofString "key"] (rSort1 X N params body scope te) := by
  intro pins s σ H xs zs us ws Q I r rz h
  obtain ⟨t, x, f, c', ks, rfl, hs, rfl, hf, hc, hal, hsk, hdp, hkey⟩ := h
  obtain ⟨u0, rfl, ru⟩ := vals1 r
  obtain ⟨w0, rfl, rw0⟩ := vals1 rz
  obtain rfl : u0 = Value.ref t := ru
  obtain rfl : w0 = Value.ref f := rw0
  obtain ⟨its, rv, pl, hz⟩ := I.tuple hs
  obtain ⟨u, rfl, rx⟩ := vals1 rv
  have one : [u].length ≤ sizeLine := by rw [PySem.sizeLine_eq]; show 1 ≤ 16777216; decide
  show wpAny _ _ (call (.builtin "sorted") [.ref t] [(Str.ofString "key", .ref f)]) _ _ _
  refine call_function_entry_kw kind_sorted plain_sorted entry_sorted (args_sorted_kw _ _) ?_
  unfold Builtin.«sorted»
  refine wpAny_bind (m := checkCount "sorted" 1 1 _) (wpAny_pure (wpAny_bind (PySem.W.collect_one pl (wpAny_bind (wpAny_newList ?_ one)))))
  have hsz : ((s.heap.push (seqObj "list" #[] 0)).update s.heap.objs.size (Obj.mapSeq (· ++ #[u]))).objs.size = s.heap.objs.size + 1 := by rw [Heap.size_update, size_push']
  show wpAny _ _ _ _ _ { s with heap := PySem.W.copyHeap s.heap [u] }
  rw [hsz]
  have at_ := PySem.W.copyHeap_at s.heap [u]
  refine wpAny_bind (wpAny_holding (wpAny_call_entry_kw slot_list_sort ⟨_, at_, rfl⟩ entry_list_sort ?body (args_sort_key _ _)))
  case body =>
    show wpAny (model X.prog X.w) X.A.in1.in1 (Builtin.«list.sort» ⟨[.ref (s.heap.objs.size + 1)], [(Str.ofString "key", .ref f)]⟩) _ _ _
    show wpAny _ _ (PyProof.Rows.ksk_tree (s.heap.objs.size + 1) (.ref f) false) _ _ _
    have un0 := hr.un
    have outside : ∀ b, s.heap.objs.size ≤ b → b ∉ frs X.stack := fun b big z => by
      rcases List.mem_cons.mp (I.stkSub _ z) with e | e
      · exact absurd (Nat.lt_of_lt_of_le I.lt (e ▸ big)) (Nat.lt_irrefl _)
      · exact I.nofs big e
    have newA : H (s.heap.objs.size + 1) = none := I.hok.fresh (Nat.le_succ _)
    refine PySem.W.oneSorted (k := ksD ks) at_ hal hsk (Nat.lt_of_le_of_lt (Nat.add_le_add_left hdp _) (by show X.A.units + 1 + 1 + 2 < _; omega)) fun h kS old big lt ⟨e1, na⟩ nk => ?_
    have big' : s.heap.objs.size ≤ kS := by
      refine Nat.le_trans ?_ big
      exact Nat.le_trans (Nat.le_succ _) (Nat.le_of_lt (Heap.lt_size at_))
    have up : ∀ b o, s.heap.get? b = some o → h.get? b = some o := fun b o e => old b o (Nat.ne_of_lt (Nat.lt_succ_of_lt (Heap.lt_size e))) (PySem.W.copyHeap_old e)
    have I5 : Inv X pins σ H { s with heap := h } := I.kept (t' := s.toks) up
    obtain ⟨⟨pm, ctv, made⟩, _, _⟩ := I5.hok f _ hf
    have ran := run_lamP (A := X.A.in1.in1) (k := k) (us := [u]) (vs := [x]) (ps := [p]) S made hc ((hr.mono (show k + 3 ≤ k + 5 by omega)).in1.in1) I5.env0.in1.in1 (bound _ _ _ _) (.cons rx .nil) rfl (hbody _ _ _ _ _ _) hkey
    refine wpAny_call (codeAny_mono ran fun r s' hq => ?_)
    match r, hq with
    | .ok (.ret kv), hq =>
      obtain ⟨v, H', os, bare, un, hok, rk, hd, q⟩ := hq
      have newK : H kS = none := I.hok.fresh big'
      obtain ⟨v2, H2, J, _, e2, e3⟩ := I5.after (Q := fun v2 H2 => v2 = v ∧ H2 = H') (u := kv) ⟨v, H', os, bare, un, hok, rk, rfl, rfl⟩
      subst e2 e3
      have gA : H2 (s.heap.objs.size + 1) = none := un.free _ _ na newA (by simp)
      have gK : H2 kS = none := un.free _ _ nk newK (by simp)
      refine ⟨?_, un.keep _ _ nk newK (outside _ big') (by simp), fun o e => un.keep _ _ e newA (outside _ (Nat.le_succ _)) (by simp), fun h' tk c kp' hA => ⟨_, rfl, wpAny_pure ?_⟩⟩
      · cases each_reads J (.cons hd .nil) (.cons rk .nil) with
        | cons a b =>
          obtain ⟨as, ra⟩ := a
          have : as = [] := reads_ksD ra
          subst this
          exact ra
      · have fa : FpOk X pins H2 (s.heap.objs.size + 1) := I.fpOk (Nat.le_succ _) gA
        have fk : FpOk X pins H2 kS := I.fpOk big' gK
        have J7 : Inv X pins σ H2 { s' with heap := h', toks := tk } := J.turnedL (ch := [s.heap.objs.size + 1, kS]) (fun b o hb e => kp' b o (fun z => hb (by simp [z])) (fun z => hb (by simp [z])) e) fun b hb => by
          simp only [List.mem_cons, List.not_mem_nil, or_false] at hb
          rcases hb with rfl | rfl
          · exact fa
          · exact fk
        have J8 := J7.take (t' := tk) (h' := h') (it := s.heap.objs.size + 1) (o := .lst [x]) (fun _ _ _ e => e) fa ⟨by rw [PySem.sizeLine_eq]; show 1 ≤ 16777216; decide, [u], c, .cons rx .nil, hA⟩
        exact ⟨_, rfl, .ref (s.heap.objs.size + 1), _, J8, rfl, q _ gA⟩
    | .ok .next, hq => exact False.elim hq
    | .ok .brk, hq => exact False.elim hq
    | .ok .cont, hq => exact False.elim hq
    | .error e, hq => exact (show False from hq).elim
end Gx
set_option Elab.async false
set_option linter.all false
set_option maxRecDepth 100000
set_option maxHeartbeats 2000000
/-! the end of a law whose defs hold tables of code objects -/
namespace Dl
open PySem PySem.Spec PyProof.Rows L2 GxR Gx LamX
abbrev tab0 : Obj := { cls := .none, data := .fields #[] }
def TabsOf (q : Program) (mg : Str → Option Value) (h : Heap) : Prop := ∀ d ∈ recsOf q, ∃ a o fd c P, mg d.name = some (.ref a) ∧ h.get? a = some o ∧ o.data = .func fd ∧ fd.code = .ref c ∧ h.IsCode c P #[] ∧ h.TableAt c P #[]
theorem walk_tabs {l : PySem.W.OpenLaw} {n k : Nat} {q : Program} {loose : List Str} {XP : (Str → Option Value) → Heap → Prop} {YP : World → Heap → Prop} {d : DefRec} {K : Params → PySem.W.Frag} {CX : World → CXT} {x : Str}
    (hn : l.most = some n) (hn2 : n ≤ sizeLine) (hdf : d.params.defaults = []) (hr : Room k callerA) (hY : ∀ (w : World) (h : Heap), YP w h → (K w.params).In h)
    (F : ∀ (w : World) (mg : Str → Option Value) (fa : Addr) (h : Heap), (K w.params).In h → h.Ns mainGlobals mg → mg d.name = some (.ref fa) → TabsOf q mg h → LawAtS l w (K w.params) (CX w) k n x mg fa h)
    (hCX : ∀ (w : World) (H : Hp) (s : Shared) (e : Value) (s' : Shared), CX w [] H s (fun _ _ _ => False) e s' → False) :
    PySem.W.WalkO q loose XP YP l.row.toRowW d [] (fun f vs => PySem.call f vs) := by
  refine Att.attach_callB hn hdf fun w s₀ s₁ mg mb fa o pm cd doc a vs ns G Y ho hd hcd hmg hobj hints hlen hbits hg => ?_
  have KX := hY w _ Y
  obtain ⟨fd, cs, sp, hT, nT, C, hb, hsp, hF⟩ := F w mg fa _ KX G.T.g hmg G.T.tab
  exact law_callTs KX G.T.g G.T.b G.T.builtins G.T.nolimit hg hT nT C G.T.bmain hobj hints (Nat.le_trans hlen hn2) hr hF hb (fun H hH hS => hsp H a ns hlen hbits hH hS) fun H e s' => hCX w H s₁ e s'
/-- no table is among what is written out -/
def noTabs (K : PySem.W.Frag) : Bool := K.all fun p => match p.2.data with
  | .fields vs => vs.size != 0
  | _ => true
theorem noTab {K : PySem.W.Frag} {h : Heap} {P : Addr} (X : K.In h) (n : noTabs K = true) (t : h.get? P = some tab0) : K.lookup P = none := by
  cases e : K.lookup P with
  | none => rfl
  | some o =>
    have e2 := X P o e
    rw [t] at e2
    cases e2
    have mem : ∀ (l : List (Addr × Obj)) {o : Obj}, l.lookup P = some o → (P, o) ∈ l := fun l => by
      induction l with
      | nil => intro o z; cases z
      | cons p r ih =>
        intro o z
        rw [List.lookup_cons] at z
        cases h : (P == p.1) with
        | true =>
          rw [h] at z
          cases z
          rw [beq_iff_eq.mp h]
          exact List.mem_cons_self
        | false =>
          rw [h] at z
          exact List.mem_cons_of_mem _ (ih z)
    have m : (P, tab0) ∈ K := mem K e
    have z := List.all_eq_true.mp n _ m
    simp at z
structure DefT (K : PySem.W.Frag) (mg : Str → Option Value) (h : Heap) (x : Str) (st : Stmt) (ps : List Str) (f : Addr) (fd : FuncData) (c P : Addr) : Prop where
  F : FunC K x x st f fd c
  b : Binds K fd ps []
  m : mg x = some (.ref f)
  C : PySem.W.CodeHd h c P
  T : h.get? P = some tab0
theorem defT_mk {q : Program} {K : PySem.W.Frag} {mg : Str → Option Value} {h : Heap} {x : Str} {st : Stmt} {ps : List Str} {f c P : Addr} {oc kV dc pm ct e : Value} {od an dd : Option Addr} {sl sl2 : Array (Option Value)} {vs : Array Value}
    (X : K.In h) (G : h.Ns mainGlobals mg) (T : TabsOf q mg h) (hr : ((recsOf q).any fun e => e.name == x) = true)
    (a : PySem.W.nsIn K mainGlobals x = some (some (.ref f))) (l : K.lookup f = some ⟨oc, od, .func (PySem.W.fnOf x x (defArgs st) (defBody st) (defScope st) .none kV dc pm an (.ref c) ct), sl⟩)
    (cc : PySem.W.codeIn K (.ref c) x = true) (k : PySem.W.keepIn K (.ref f) = true) (t : K.lookup c = some ⟨e, dd, .fields vs, sl2⟩) (p : vs[11]? = some (.ref P))
    (hb : ∀ us : List Value, us.length = ps.length → bindArgs (PySem.W.fnOf x x (defArgs st) (defBody st) (defScope st) .none kV dc pm an (.ref c) ct) ⟨us, []⟩ = pure (ps.zip us)) :
    DefT K mg h x st ps f (PySem.W.fnOf x x (defArgs st) (defBody st) (defScope st) .none kV dc pm an (.ref c) ct) c P := by
  have m := PySem.W.mg_of X G a
  obtain ⟨dL, hm, hn1⟩ := List.any_eq_true.mp hr
  have hn2 : dL.name = x := beq_iff_eq.mp hn1
  obtain ⟨a', o', fd', c', P', h1, h2, h3, h4, h5, h6⟩ := T dL hm
  rw [hn2, m] at h1
  cases h1
  have g1 := X _ _ l
  rw [g1] at h2
  cases h2
  cases h3
  cases h4
  have hd := PySem.W.CodeHd.of h5 h6
  obtain ⟨⟨oc', vc, e1, _, e3, e4⟩, hP⟩ := h6
  have g2 := X _ _ t
  rw [g2] at e1
  cases e1
  cases e3
  rw [p] at e4
  cases e4
  exact ⟨⟨⟨_, _, _, _, _, _, _, _, rfl, l, cc⟩, k⟩, .all hb, m, hd, hP⟩
theorem DefT.f {K : PySem.W.Frag} {mg : Str → Option Value} {h base : Heap} {x : Str} {st : Stmt} {ps : List Str} {f : Addr} {fd : FuncData} {c P : Addr} {G : List Addr} (D : DefT K mg h x st ps f fd c P) {cs : List (Addr × Addr)} (TB : ∀ p ∈ cs, LamX.TabB base mg p.1 p.2) (hc : (c, P) ∈ cs) (hG : P ∈ G) : DefF K mg base G x st ps f fd := by
  have t := TB _ hc
  exact ⟨⟨c, P, D.F, ⟨t.code, t.bm, t.gP⟩, hG⟩, D.b, D.m⟩
/-- is an error of the class at S what «except C» names -/
theorem exm_mk {K : PySem.W.Frag} {S C : Addr} {b : Bool} (h1 : PySem.W.subIn K (.ref C) (.type "BaseException") = some true) (h2 : PySem.W.isClsIn K C = true) (h3 : PySem.W.typeIn K (.ref C) = some (.type "type")) (h4 : PySem.W.subIn K (.ref S) (.ref C) = some b) :
    PySem.W.exmOne K (.ref S) (.ref C) = some b := by
  have e1 : (PySem.W.subIn K (.ref C) (.type "BaseException") == some true) = true := by rw [h1] <;> rfl
  have e2 : ((PySem.W.clsIn K C).isSome && PySem.W.typeIn K (.ref C) == some (.type "type")) = true := by
    have h2' : (PySem.W.clsIn K C).isSome = true := h2
    rw [h2', h3] <;> rfl
  show (if (PySem.W.subIn K (.ref C) (.type "BaseException") == some true) = true then (if ((PySem.W.clsIn K C).isSome && PySem.W.typeIn K (.ref C) == some (.type "type")) = true then PySem.W.subIn K (.ref S) (.ref C) else none) else none) = some b
  rw [if_pos e1, if_pos e2]
  exact h4
theorem log2_bits {z : Int} (h : Builtin.Int.intBits z ≤ 1048576) : z.natAbs.log2 < 2000000 := by
  unfold Builtin.Int.intBits at h
  split at h
  · rename_i e
    have e' : z = 0 := by simpa using e
    subst e'
    decide
  · omega
end Dl
set_option Elab.async false
set_option linter.all false
set_option maxRecDepth 100000
set_option maxHeartbeats 2000000
/-! an own exception two classes below ValueError, whose __init__ is: super().__init__("..."); self.f = f -/
namespace Sup
open PySem PySem.W PySem.Calls PyProof.Rows
abbrev ibody (m f : Str) (j : Nat) (p0 p1 p2 p3 p4 p5 p6 p7 p8 p9 : Pos) : List Stmt :=
  [.Expr (.Call (.Attribute (.Call (.Name "super" p0) [] [] p1) "__init__" p2) [.Constant (.str m) j p3] [] p4) p5, .Assign [.Attribute (.Name "self" p6) f p7] (.Name f p8) p9]
abbrev scI (f : Str) : Scope := { kind := .function, names := [("self", .local), (f, .local), ("__class__", .free), ("super", .globalImplicit)], isGenerator := false, isCoroutine := false, more := [] }
/-- the names of the __init__'s scope -/
structure Names (sc : Scope) (f : Str) : Prop where
  sup : sc.names.lookup ("super" : Str) = some .globalImplicit
  cl : sc.names.lookup ("__class__" : Str) = some .free
  self : sc.names.lookup ("self" : Str) = some .local
  fl : sc.names.lookup f = some .local
structure SupK (P : Program) (K : Frag) (mg : Str → Option Value) (C : Addr) (f : Str) : Prop where
  cls : ∃ nm q N bs bm sn sub ab col dd k0 k1 k2 k3 k5, K.lookup C = some (excClassObj nm q C N bs bm true sn sub ab col dd k0 k1 k2 k3 k5 "ValueError.__new__") ∧ HandSPX.refsVE bm = true
  sa : findIn K (.ref C) "__setattr__" = some (some (.builtin "object.__setattr__"))
  no : findIn K (.ref C) f = some none
  exC : subIn K (.ref C) (.type "BaseException") = some true
  tyC : typeIn K (.ref C) = some (.type "type")
  kC : keepIn K (.ref C) = true
  ini : ∃ (fI cda cc : Addr) (qual m : Str) (j : Nat) (p0 p1 p2 p3 p4 p5 p6 p7 p8 p9 : Pos) (params : Arguments) (dV kV doc pm ct oc ccl cl : Value) (an od cdd cld : Option Addr) (osl ccs csl : Array (Option Value)) (vs : Array Value) (file : Str) (tf : Tok) (ar : Arg),
    findIn K (.ref C) "__init__" = some (some (.ref fI)) ∧ typeIn K (.ref fI) = some (.type "function") ∧
    K.lookup fI = some ⟨oc, od, .func (ksFn "__init__" qual params (ibody m f j p0 p1 p2 p3 p4 p5 p6 p7 p8 p9) (scI f) dV kV doc pm an (.ref cda) ct cc), osl⟩ ∧ codeIn K (.ref cda) qual = true ∧
    K.lookup cda = some ⟨ccl, cdd, .fields vs, ccs⟩ ∧ vs[2]? = some (.str file tf) ∧ ((P.main.file : Str) == file) = true ∧ K.lookup cc = some ⟨cl, cld, .cell (some (.ref C)), csl⟩ ∧
    (params.posonlyargs ++ params.args).head? = some ar ∧ ar.arg = "self" ∧ Names (scI f) f ∧
    (∀ L : Addr, ∃ pl : Sem Bool, eval (.Call (.Attribute (.Call (.Name "super" p0) [] [] p1) "__init__" p2) [.Constant (.str m) j p3] [] p4) (ksEnv qual (scI f) L fI (.ref cda) cc) = (do
      let ov ← attributeBase (.Call (.Name "super" p0) [] [] p1) "__init__" (ksEnv qual (scI f) L fI (.ref cda) cc) (eval (.Call (.Name "super" p0) [] [] p1) (ksEnv qual (scI f) L fI (.ref cda) cc))
      standAt p2.atName
      let (fn, first) ← holding [ov] (getMethod ov "__init__" pl)
      callWith p4 fn first (backTo p4 (starEach [.Constant (.str m) j p3] (ksEnv qual (scI f) L fI (.ref cda) cc))) [])) ∧
    ∀ (s : Shared) (e : Addr) (u : Value), BindsTo s (ksFn "__init__" qual params (ibody m f j p0 p1 p2 p3 p4 p5 p6 p7 p8 p9) (scI f) dV kV doc pm an (.ref cda) ct cc) ⟨[.ref e, u], []⟩ [("self", .ref e), (f, u)]
  sub : mroIn K C (.ref C) = some true
  sup : ks_superIn K C C "__init__" = some (some (.builtin "ValueError.__init__"))
  ve : subIn K (.ref C) (.type "ValueError") = some true
  opq : nsIn K cStatics "thirdparty.any" = some none
  nos : mg "super" = none
  htop : (P.main.scope.names.lookup ("super" : Str)).isSome = false
  fne : (f == ("__debug__" : Str)) = false
  fns : ("self" : Str) ≠ f

section
variable {P : Program} {w : World} {K : Frag} {mg : Str → Option Value} {C : Addr} {f : Str} {A : Around} {E : Value → Shared → Prop} {hp : Heap} {g : Array GenState} {d : Drawn} {t : Nat} {os : OsState} {u : Value}
/-- the bound ValueError.__init__ called -/
theorem mw_call {a e t0 : Addr} {rest : List Value} {Q : Value → Shared → Prop} {nm q : Str} {N : Addr} {bs bm sub : List Value} {hdct ab : Bool} {sn : List Str} {col : Option Bool} {dd : Option Addr} {k0 k1 k2 k3 k5 : Option Value}
    (hC : hp.get? C = some (excClassObj nm q C N bs bm hdct sn sub ab col dd k0 k1 k2 k3 k5 "ValueError.__new__")) (he : hp.get? e = some (HandSPX.excO C t0)) (ha : hp.get? a = some (kxs_mw "ValueError.__init__" e)) (hz : rest.length ≤ sizeLine)
    (hq : ∀ h' t1, (∀ b o, b ≠ e → hp.get? b = some o → h'.get? b = some o) → h'.get? e = some (HandSPX.excO C t1) → Q .none ⟨h', g, d, t, os⟩) : wpAny (model P w) A (call (.ref a) rest) Q E ⟨hp, g, d, t, os⟩ := by
  refine wpAny_call (codeAny_of_tree (show wpAny (model P w) A.in1 (callAny (.ref a) ⟨rest, []⟩) _ _ _ from ?_))
  simp only [callAny]
  refine wpAny_bind (wpAny_load ha ?_)
  have c1 : (Value.type "method-wrapper" == Value.type "method" || Value.type "method-wrapper" == Value.type "builtin_function_or_method" || Value.type "method-wrapper" == Value.type "method-wrapper") = true := by decide
  simp only [kxs_mw, c1, if_true]
  refine KFB.if_so (by decide) (wpAny_bind (check_bound_init F.excBase_ValueError.toExcCallFacts hC he rfl ?_))
  have nx := F.excBase_ValueError.initEntry
  refine wpAny_bind (wpAny_pure (wpAny_pure ⟨plainId_quiet F.excBase_ValueError.init.plain _, codeAny_builtin nx ?_⟩))
  refine exc_init_tree (cls := .ref C) (t0 := t0) (dv := none) (c2 := .none) (c3 := .none) (b4 := .bool false) he hz fun h' k he' _ => ?_
  exact hq h' _ k he'
/-- C(u) -/
theorem sup_call {Q : Value → Shared → Prop} (S : SupK P K mg C f) (X : K.In hp) (G : hp.Ns mainGlobals mg) (B : ∃ mb, hp.Ns builtinsNs mb ∧ ∀ x : Str, x ≠ "__name__" → mb x = bootBuiltins x) (nl : hp.NoLimit)
    (room : (A.under (.builtin "type.__call__" ⟨.ref C :: [u], []⟩)).depth < recursionLimit)
    (hq : ∀ (h' : Heap) (t' : Nat) (e dx t1 : Addr), (∀ b o, hp.get? b = some o → h'.get? b = some o) → hp.objs.size ≤ e → hp.objs.size ≤ dx → dx ≠ e →
      h'.get? e = some { cls := .ref C, dict := some dx, data := .fields #[.ref t1, .none, .none, .none, .bool false, .none] } → h'.Ns1 dx (fun y => if y = f then some u else none) → Q (.ref e) ⟨h', g, d, t', os⟩) :
    wpAny (model P w) A (call (.ref C) [u]) Q E ⟨hp, g, d, t, os⟩ := by
  obtain ⟨nm, q, N, bs, bm, sn, sub, ab, col, dd, k0, k1, k2, k3, k5, lC, hbm⟩ := S.cls
  obtain ⟨fI, cda, cc, qual, m, j, p0, p1, p2, p3, p4, p5, p6, p7, p8, p9, params, dV, kV, doc, pm, ct, oc, ccl, cl, an, od, cdd, cld, osl, ccs, csl, vs, file, tf, ar, iC, tI, lf, lcd, lcda, hvs, hfile, lcc, har, hself, NS, hev, hb⟩ := S.ini
  refine wpAny_call (HandSPX.call_own F.excBase_ValueError (fun Y => HandSPX.refsVE_contains Y bm hbm) (X _ _ lC) (looks_findIn X iC) (fun self => bind_fn X self tI) (by show 1 ≤ sizeLine; decide) ?_)
  have up : ∀ b o, hp.get? b = some o → ((hp.push (kdv_tup [u])).push (HandSPX.excO C hp.objs.size)).get? b = some o := fun b o z => Heap.get?_push_of_some _ (Heap.get?_push_of_some _ z)
  have ge : ((hp.push (kdv_tup [u])).push (HandSPX.excO C hp.objs.size)).get? (hp.objs.size + 1) = some (HandSPX.excO C hp.objs.size) := by heap_get
  have hlt : hp.objs.size + 1 < ((hp.push (kdv_tup [u])).push (HandSPX.excO C hp.objs.size)).objs.size := Heap.lt_size ge
  have hle : hp.objs.size ≤ hp.objs.size + 1 := Nat.le_succ _
  generalize (hp.push (kdv_tup [u])).push (HandSPX.excO C hp.objs.size) = h1 at up ge hlt ⊢
  generalize hp.objs.size + 1 = e at ge hlt hle ⊢
  have X1 := X.keeps up
  refine ks_codeAny_call_defAt (fd := ksFn "__init__" qual params (ibody m f j p0 p1 p2 p3 p4 p5 p6 p7 p8 p9) (scI f) dV kV doc pm an (.ref cda) ct cc) (body := ibody m f j p0 p1 p2 p3 p4 p5 p6 p7 p8 p9) (binds := [("self", .ref e), (f, u)])
    room (X1 _ _ lf) rfl (nl.keeps up) (codeRec_of X1 lcd) rfl (hb _ _ _) (fun x hx => by simp only [scI, List.mem_cons, List.not_mem_nil, or_false] at hx; rcases hx with rfl | rfl | rfl | rfl <;> exact fun z => NameKind.noConfusion z) (fun x hx => ?_) (fun h2 hns k2 => ?_) rfl rfl rfl
  · simp only [List.mem_cons, List.not_mem_nil, or_false] at hx
    rcases hx with rfl | rfl
    · exact NS.self
    · exact NS.fl
  have up2 := fun b o z => k2 b o (up b o z)
  have X2 := X.keeps up2
  have he2 := k2 _ _ ge
  have hC2 := X2 _ _ lC
  have look_self : ([(("self" : Str), Value.ref e), (f, u)].reverse.lookup ("self" : Str)) = some (Value.ref e) := by
    have : (("self" : Str) == f) = false := beq_eq_false_iff_ne.mpr S.fns
    simp [List.lookup, this]
  have look_f : ([(("self" : Str), Value.ref e), (f, u)].reverse.lookup f) = some u := by simp [List.lookup]
  have neC : e ≠ C := fun z => by
    rw [z] at he2
    rw [hC2] at he2
    cases he2
  obtain ⟨pl, hev⟩ := hev h1.objs.size
  refine ks_wpAt_execs_cons (ks_wpAt_Expr_any (ks_wpAt_MethodCall (pl := pl) ?_ hev))
  refine ks_wpAt_super_base (env := ksEnv qual (scI f) h1.objs.size fI (.ref cda) cc) NS.sup NS.cl (by decide) rfl (X2 _ _ lf) rfl har rfl (X2 _ _ lcda) rfl hvs hfile S.htop ?_
  obtain ⟨mb, hmb, hbt⟩ := B
  refine ks_loadName_global rfl NS.sup (loadGlobal_builtin (env := ksEnv qual (scI f) h1.objs.size fI (.ref cda) cc) (G.keeps up2) S.nos (hmb.keeps up2) ((hbt _ (by decide +kernel)).trans (by boot_by_name : bootBuiltins "super" = some (.type "super"))) ⟨rfl, ?_⟩)
  refine wpAny_loadName_free rfl NS.cl rfl ⟨_, X2 _ _ lcc, rfl⟩ ?_
  refine wpAny_loadName_local rfl (by rw [hself]; exact NS.self) hns (by rw [hself]; exact look_self) ?_
  obtain ⟨cdC, hcD⟩ : ∃ cd, clsIn K C = some cd := ⟨_, by unfold clsIn; rw [lC] <;> rfl⟩
  refine ks_wpAny_isType_cls hC2 rfl ⟨rfl, ?_⟩
  refine ks_wpAny_call_super hC2 rfl he2 rfl (fun c z => by cases z) (looks_mroIn X2 S.sub) (fun h3 e3 k3 => ?_)
  have X3 := X2.keeps k3
  have he3 := k3 _ _ he2
  have I3 : InstAt h3 e (HandSPX.excO C hp.objs.size) C none := ⟨he3, rfl, rfl, trivial⟩
  have hm := S.sup
  unfold ks_superIn at hm
  rw [hcD] at hm
  refine kxs_getMethod kxs_ValueError e3 (looks_opaque X3 S.opq) (l₀ := cdC.mro) (fun A Q E s k z => wpAny_bind ((looks_clsIn X3 hcD) A _ E s k (wpAny_pure z))) rfl X3 hm (I3.type.andThen (looks_subIn X3 S.ve)) neC (by decide) ?_
  have e4 : (h3.push (kxs_mw "ValueError.__init__" e)).get? h3.objs.size = some (kxs_mw "ValueError.__init__" e) := Heap.get?_push_at rfl rfl
  have k4 : ∀ b o, h3.get? b = some o → (h3.push (kxs_mw "ValueError.__init__" e)).get? b = some o := fun b o z => Heap.get?_push_of_some _ z
  have he4 := k4 _ _ he3
  have X4 := X3.keeps k4
  generalize h3.push (kxs_mw "ValueError.__init__" e) = h4 at e4 k4 he4 X4 ⊢
  show wpAny _ _ (callWith p4 (.ref h3.objs.size) [] (backTo p4 (starEach [.Constant (.str m) j p3] (ksEnv qual (scI f) h1.objs.size fI (.ref cda) cc))) []) _ _ _
  refine kxs_callWith (i := "ValueError.__init__") (x := e) rfl (evalArgs_plain (spliced_cons (x := eval (.Constant (.str m) j p3) (ksEnv qual (scI f) h1.objs.size fI (.ref cda) cc)) (rest := []) (Constant_str (spliced_nil ⟨e4, ?_⟩))))
  have hns4 := hns.keeps (fun b o z => k4 _ _ (k3 b o z))
  refine mw_call (X4 _ _ lC) he4 e4 (by show 1 ≤ sizeLine; decide) fun h5 t5 k5 he5 => ?_
  have nL : h1.objs.size ≠ e := fun z => absurd hlt (by rw [z]; exact Nat.lt_irrefl _)
  have up4 : ∀ b o, hp.get? b = some o → h4.get? b = some o := fun b o z => k4 _ _ (k3 _ _ (up2 b o z))
  have new : ∀ b o, hp.get? b = some o → b ≠ e := fun b o z => Nat.ne_of_lt (Nat.lt_of_lt_of_le (Heap.lt_size z) hle)
  have up5 : ∀ b o, hp.get? b = some o → h5.get? b = some o := fun b o z => k5 b o (new b o z) (up4 b o z)
  have X5 := X.keeps up5
  obtain ⟨oL, esL, epL, hL, rL⟩ := hns4
  have hns5 : h5.Ns h1.objs.size _ := ⟨oL, esL, epL, k5 _ _ nL hL, rL⟩
  refine ks_wpAt_execs_cons (ks_wpAt_Assign_Attr (wpAt_of_wpAny (wpAny_Name (wpAny_loadName_local rfl NS.fl hns5 look_f ?_) S.fne)))
  refine wpAny_Name (wpAny_loadName_local rfl NS.self hns5 look_self ?_)
  refine set_plain X5 (ox := HandSPX.excO C t5) (od := none) ⟨he5, rfl, rfl, trivial⟩ S.sa ?_
  refine HandSPX.exc_osa X5 he5 (cd := _) (by unfold clsIn; rw [lC] <;> rfl) (show HandSPX.refsVE (.ref C :: bm) = true from hbm) rfl S.no fun h6 t6 dx k6 hsz hne he6 hns6 => ?_
  have up6 : ∀ b o, hp.get? b = some o → h6.get? b = some o := fun b o z => k6 b o (new b o z) (up5 b o z)
  have big : hp.objs.size ≤ dx := Nat.le_trans (Nat.le_of_lt (Nat.lt_of_le_of_lt hle (Heap.lt_size he5))) hsz
  refine wpAt_of_wpAny (wpAny_execs_nil ⟨rfl, ?_⟩)
  exact hq h6 t6 e dx t5 up6 hle big hne he6 hns6
end
end Sup

namespace L2
open PySem PySem.Spec PyProof.Rows
/-- C(e): the exception's dict holds what e is -/
def tMkS (C : Addr) (f : Str) (ta : TA) : St → Hp → XK → Prop := fun σ H Q => ta σ H fun vs H1 => ∃ v, vs = [v] ∧ ∀ d, H1 d = none → Q (.ref C) (some d) (upd H1 d (.xd [(f, v)]))
theorem pmk5_sup {X : Cx} {x f : Str} {C : Addr} {e : Expr} {ta : TA} {p pos : Pos} (S : Sup.SupK X.prog X.K X.mg C f) (hr : X.A.depth + 1 < recursionLimit) (hg : Gl X x) (hm : X.mg x = some (.ref C)) (ha : PA X [e] ta)
    (hdb : (x == ("__debug__" : Str)) = false := by decide) (hse : starEach [e] X.env = (false, eval e X.env) :: starEach [] X.env := by rfl) : L2H.PMk5 X (.Call (.Name x p) [e] [] pos) (tMkS C f ta) := by
  intro pins s σ H Q I h
  refine wpAny_Call_Name_kw (ld_glob I hg hm ?_ hdb)
  refine PySem.W.callWith_K (h₀ := X.base) I.ok.mod.kin S.kC (thn (ha.run pos pins s σ H _ I h) fun us s1 ⟨vs, H1, I1, r1, v, ev, q⟩ => ⟨I1.kIn, ?_⟩) hse rfl
  subst ev
  cases r1 with
  | cons ru rn =>
    rename_i u us'
    cases rn
    obtain ⟨hp, g, dr, tk, os⟩ := s1
    obtain ⟨mb, b1, b2⟩ := I1.mod.blt
    refine Sup.sup_call S I1.kIn (I1.mod.glob.keeps I1.bk) ⟨mb, b1.keeps I1.bk, b2⟩ I1.nolimit (by rw [make_depth]; exact hr) fun h' t' a dx t1 up la ld ne hea hns => ?_
    have fa : H1 a = none := I1.hok.fresh la
    have fd : H1 dx = none := I1.hok.fresh ld
    obtain ⟨Gr, g1, g2⟩ := restrict h' fun b => decide (b ≠ a)
    have gk : ∀ b, b ≠ a → Gr.get? b = h'.get? b := fun b hb => g1 b (decide_eq_true hb)
    have ga : Gr.get? a = none := g2 a (by simp)
    have kG : ∀ b o, hp.get? b = some o → Gr.get? b = some o := fun b o z => (gk b (Nat.ne_of_lt (Nat.lt_of_lt_of_le (Heap.lt_size z) la))).trans (up b o z)
    have nd : hp.get? dx = none := by
      cases z : hp.get? dx with
      | none => rfl
      | some o => exact absurd (Nat.lt_of_lt_of_le (Heap.lt_size z) ld) (Nat.lt_irrefl _)
    have J : Inv X pins σ (upd H1 dx (.xd [(f, v)])) ⟨Gr, g, dr, t', os⟩ := I1.laidN (t' := t') (a := dx) (o := .xd [(f, v)]) (h' := Gr) kG nd fd
      ⟨_, hns.at fun o y => (gk dx ne).trans y, relO_put (fs := []) ru fun _ => True.intro⟩
    refine ⟨⟨a, _, _, _, _, .ref C, some dx, rfl, J, fun b o z => ?_, ga, hea, ⟨rfl, rfl, fun vs hv => by cases hv; rfl⟩, rfl, rfl, by rw [upd_ne (Ne.symm ne)]; exact fa, rfl, I1.bare, raises_own S.exC S.tyC, q dx fd⟩, fun a' oe vs ea hg' hd' => ?_⟩
    · by_cases hb : b = a
      · rw [hb, ga] at z; cases z
      · exact (gk b hb).symm.trans z
    · cases ea
      have z : h'.get? a = some oe := hg'
      rw [hea] at z
      cases z
      cases hd'
      show 4 < 6
      decide
theorem pmk_sup {X : Cx} {x f : Str} {C : Addr} {e : Expr} {ta : TA} {p pos : Pos} (S : Sup.SupK X.prog X.K X.mg C f) (hr : X.A.depth + 1 < recursionLimit) (hg : Gl X x) (hm : X.mg x = some (.ref C)) (ha : PA X [e] ta)
    (hdb : (x == ("__debug__" : Str)) = false := by decide) (hse : starEach [e] X.env = (false, eval e X.env) :: starEach [] X.env := by rfl) : L2N.PMk X (.Call (.Name x p) [e] [] pos) (tMkS C f ta) := (pmk5_sup S hr hg hm ha hdb hse).pmk
end L2
set_option Elab.async false
set_option linter.all false
set_option maxRecDepth 100000
set_option maxHeartbeats 2000000
/-! try: body except C as n: a suite that raises -/
namespace L2H
open PySem PySem.Spec PyProof.Rows L2 HotX
section
variable {X : Cx} {pins : List (Addr × Obj)} {σ : L2.St} {H : Hp} {s : Shared}
/-- only the frame's own dict changes; the slots are forgotten -/
theorem inv_frame {h' : Heap} {t' : Nat} (I : Inv X pins σ H s) (sb : Heap.SameBut X.env.locals s.heap h') (hn : ∃ m, h'.Ns X.env.locals m) : Inv X pins (σ.map fun _ => none) H { s with heap := h', toks := t' } := by
  have far : ∀ {b : Addr} {o : Obj}, X.s_0.heap.get? b = some o → b ≠ X.env.locals := fun {b o} z => Nat.ne_of_lt (Nat.lt_of_lt_of_le (Heap.lt_size z) I.ok.above)
  have un := I.base
  obtain ⟨m, hm⟩ := hn
  constructor
  case ok => exact I.ok
  case os => exact I.os
  case bare => exact I.bare
  case base =>
    constructor
    case keep => intro b o z n f x; rw [sb.2 b (far z)]; exact un.keep b o z n f x
    case slot =>
      intro b o z n f x
      obtain ⟨sl, q⟩ := un.slot b o z n f x
      exact ⟨sl, by rw [sb.2 b (far z)]; exact q⟩
    case free => exact un.free
    case there =>
      intro b o z x
      obtain ⟨o', q⟩ := un.there b o z x
      exact ⟨o', by rw [sb.2 b (far z)]; exact q⟩
    case tups => exact un.tups
    case frzs => exact un.frzs
    case tbls => exact un.tbls
  case loc =>
    refine ⟨m, hm, fun j y v _ e2 => ?_⟩
    rw [List.getElem?_map] at e2
    cases q : σ[j]? with
    | none => rw [q] at e2; cases e2
    | some z => rw [q] at e2; cases e2
  case cell =>
    intro y c e
    obtain ⟨v, z⟩ := I.cell y c e
    exact ⟨v, z.sameBut sb (I.cne y c e)⟩
  case free => exact I.free
  case freeC => exact I.freeC
  case pin =>
    intro p hp
    obtain ⟨e, r⟩ := I.pin p hp
    exact ⟨(sb.2 p.1 r.2.1).trans e, r⟩
  case hok =>
    intro b ob e
    have nb : ∀ c : Addr, (c = b ∨ H c = some (.own b)) → c ≠ X.env.locals := fun c hc z => by
      rcases hc with hc | hc
      · rw [hc] at z
        rw [z, I.free] at e
        cases e
      · rw [z, I.free] at hc
        cases hc
    exact (I.hok b ob e).stay (fun c u hc q => by rw [sb.2 c (nb c hc)]; exact q) (fun _ q => q) fun _ _ q => q
  case len => rw [List.length_map]; exact I.len
end
/-- held where only the frame's own dict changed -/
theorem held_frame {B h h' : Heap} {env : Env} {outer : List Env} {L a : Addr} {Z : Obj → Prop} {m m' : Str → Option Value} (hf : env.frame = some L) (hn : h.Ns L m) (hn' : h'.Ns L m') (sb : Heap.SameBut L h h') (x : HandSPX.HeldZ B (env :: outer) a Z L h) : HandSPX.HeldZ B (env :: outer) a Z L h' := by
  obtain ⟨x1, x2, x3, oe, vs, T, oT, ts, y1, y2, y3, y4, y5, y6, y7, y8, y9⟩ := x
  obtain ⟨oL, es, ep, hL, dL, _⟩ := hn
  have hBL : B.get? L = none := (x3.mem (List.mem_filterMap.mpr ⟨env, List.mem_cons_self, hf⟩)).1
  have na : a ≠ L := fun z => by
    rw [z, hL] at y1
    cases y1
    rw [dL] at y3
    cases y3
  have nT : T ≠ L := fun z => by
    rw [z, hL] at y7
    cases y7
    rw [dL] at y8
    cases y8
  refine ⟨fun b o z => ?_, x2, Heap.FunFrames.sameBut sb hn' x3, oe, vs, T, oT, ts, (sb.2 a na).trans y1, y2, y3, y4, y5, y6, (sb.2 T nT).trans y7, y8, y9⟩
  have : b ≠ L := fun q => by rw [q, hBL] at z; cases z
  exact (sb.2 b this).trans (x1 b o z)
/-- noted, and no more -/
theorem sky_noted {M : Model} {A : Around} {E : Value → Shared → Prop} {s : Shared} {B : Heap} {env : Env} {outer : List Env} {L a : Addr} {Z : Obj → Prop} {Q : Unit → Shared → Prop} (hZ : HandSPX.Steady Z) (fr : A.frames = some (env :: outer)) (hf : env.frame = some L)
    (x : L2.Sky B (env :: outer) a Z L s.heap) (q : ∀ h', HandSPX.HeldZ B (env :: outer) a Z L h' → s.heap.UpToSlots h' → Q () { s with heap := h' }) : wpAny M A (noteFrame (.ref a) env) Q E s := by
  rcases x with ⟨b1, b2, b3, oe, vs, g1, g2, g3, g4⟩ | x | x
  · exact HandSPX.look_newZ hZ fr b3 hf g1 b1 b2 g3 g4 g2 q
  · exact HandSPX.looks_onZ hZ fr hf x q
  · exact HandSPX.againZ hf x.2.2.2 (q s.heap x (Heap.UpToSlots.refl _))
section
variable {X : Cx} {pins : List (Addr × Obj)} {E0 : XK}
/-- what flies out of the suite goes on, the suite's name gone -/
theorem as_raised {A' : Around} {n : Str} {a : Addr} {q : Addr × Obj} {pos : Pos} {u : Value} {s : Shared} {E₂ E₃ : Value → Shared → Prop} (ok : X.Ok) (hs : X.stack = X.env :: X.outer) (hf : X.env.frame = some X.env.locals) (hl : X.env.kindOf n = some .local) (tk : L2.Takes X fun cls d _ H => E0 cls d H)
    (fr : A'.frames = some (X.env :: X.outer)) (x : L2.XE (suiteX X a (q :: (X.pn ++ pins))) (fun cls d _ H => E0 cls d H) u s) :
    wpAny (model X.prog X.w) A' (noteFrame u X.env) (fun _ s₁ => wpAny (model X.prog X.w) A' (do bindName X.env n .none; unbindBehindTheSuite X.env n pos)
      (fun _ s₂ => wpAny (model X.prog X.w) A' (PySem.passOn "try.except-as" u X.env : Sem Flow) (fun _ _ => False) (notedBy (model X.prog X.w) A' X.env (cameBackBy (model X.prog X.w) X.A X.env X.xe)) s₂) E₂ s₁) E₃ s := by
  obtain ⟨e, B, sI, pn2, σ, H, cls, d, rfl, I0, nb, up, sky, na, os, ag, w⟩ := x
  have I := unsuiteX I0 ok
  have nb' : ∀ b o, sI.heap.get? b = some o → b ∉ frs X.stack → B.get? b = some o := nb
  have sky' : L2.Sky B (X.env :: X.outer) e (Zc cls d) X.env.locals s.heap := by rw [← hs]; exact sky
  refine sky_noted Zc.steady fr hf sky' fun h1 hh1 up1 => ?_
  have J := I.landed (s' := { s with heap := h1 }) nb' hh1.1 (up.trans up1) os ag
  obtain ⟨m, hn, _⟩ := J.loc
  have kd : (X.env.scope.kind == .class || (X.env.scope.kind == .module && X.env.locals != X.env.globals)) = false := by rw [ok.kind]; rfl
  refine wpAny_nameGoes hl hn kd fun h2 m2 hn2 sb => ?_
  have hh2 := held_frame hf hn hn2 sb hh1
  obtain ⟨oe, vs, T, oT, ts, y1, y2, y3, y4, y5⟩ := id hh2.2.2.2
  have nz : ¬ ((Value.ref T == Value.none) = true) := by simp
  unfold PySem.passOn
  refine wpAny_bind (wpAny_field y1 y3 y4 ?_)
  rw [if_neg nz, hf]
  refine wpAny_bind (HandSPX.setFlight_onZ hh2 fun h3 hh3 up3 => wpAny_throw ?_)
  unfold notedBy
  refine HandSPX.againZ hf hh3.2.2.2 ?_
  obtain ⟨oe3, vs3, T3, oT3, ts3, z1, z2, z3, z4, z5⟩ := id hh3.2.2.2
  have nz3 : ¬ ((Value.ref T3 == Value.none) = true) := by simp
  unfold cameBackBy
  refine wpAny_bind (wpAny_field z1 z3 z4 ?_)
  rw [if_neg nz3, hf]
  refine HandSPX.setFlight_onZ hh3 fun h4 hh4 up4 => tk _ _ ?_
  -- the state without the exception: as ahead of it, but for the frame's own dict
  obtain ⟨mI, hnI, _⟩ := I.loc
  obtain ⟨oI, esI, epI, gI, dI, _⟩ := id hnI
  obtain ⟨o2, es2, ep2, g2, d2, r2⟩ := id hn2
  have gL : (sI.heap.update X.env.locals fun _ => o2).get? X.env.locals = some o2 := Heap.get?_update_self _ gI (by obtain ⟨_, _, dd, _⟩ := o2; cases d2; rfl)
  have sbI := Heap.SameBut.update sI.heap X.env.locals fun _ => o2
  have JI := inv_frame (t' := sI.toks) (h' := sI.heap.update X.env.locals fun _ => o2) I sbI ⟨m2, o2, es2, ep2, gL, d2, r2⟩
  have Lst : X.env.locals ∈ frs X.stack := by rw [hs]; exact List.mem_filterMap.mpr ⟨X.env, List.mem_cons_self, hf⟩
  refine ⟨e, B, _, pins, _, H, cls, d, rfl, JI, fun b o z hb => ?_, fun b o z hnf => ?_, .inr (.inr (by rw [hs]; exact hh4)), na, os, ag, w⟩
  · have : b ≠ X.env.locals := fun q => hb (q ▸ Lst)
    exact nb' b o ((sbI.2 b this).symm.trans z) hb
  · have fin : ∀ {o : Obj}, h2.get? b = some o → (∀ vs, o.data ≠ .fields vs) → ∃ sl, h4.get? b = some { o with slots := sl } := fun {o} y hnf => (up3.trans up4) b o y hnf
    by_cases hb : b = X.env.locals
    · subst hb
      have z' : (sI.heap.update X.env.locals fun _ => o2).get? X.env.locals = some o := z
      rw [gL] at z'
      cases z'
      exact fin g2 hnf
    · obtain ⟨sl, y⟩ := (up.trans up1) b o ((sbI.2 b hb).symm.trans z) hnf
      obtain ⟨sl2, y2⟩ := fin ((sb.2 b hb).trans y) hnf
      exact ⟨sl2, y2⟩
end
/-- what «except c as n» wishes where the suite may raise; every exception of the body is of c -/
def wAsX (K : PySem.W.Frag) (c : Value) (i : Nat) (ts : Addr → Value → Option Addr → TS) (D : Ends) : WX := fun cls d σ H => PySem.W.exmOne K cls c = some true ∧ ∀ a, H a = none →
  ts a cls d { nx := fun σ' H' => D.nx (σ'.set i none) H', rt := D.rt, bk := fun σ' H' => D.bk (σ'.set i none) H', ct := fun σ' H' => D.ct (σ'.set i none) H' } (σ.set i (some (.ref a))) H
/-- the suite's context -/
abbrev suiteE (X : Cx) (a : Addr) (pn : List (Addr × Obj)) (xe : Value → Shared → Prop) : Cx := { suiteX X a pn with xe := xe }
section
variable {X : Cx} {x n : Str} {c : Value} {i : Nat} {body suite : List Stmt} {b₀ : Stmt} {np pos pos' : Pos} {tb : WX → TS} {ts : Addr → Value → Option Addr → TS} {E0 : XK}
theorem ps_try_asX (hs : X.stack = X.env :: X.outer) (hf : X.env.frame = some X.env.locals) (hN : X.N.Nodup) (hi : X.N[i]? = some n) (hln : X.env.kindOf n = some .local) (hc : L2.Names X x c) (tk : L2.Takes X fun cls d _ H => E0 cls d H)
    (hb : ∀ (W : WX) (pn : List (Addr × Obj)) (xe : Value → Shared → Prop), L2N.Takes (X.tr pn xe) W → PassesOwn (model X.prog X.w) X.A X.env xe → PSs (X.tr pn xe) body (tb W))
    (hsu : ∀ (a : Addr) (oe : Obj) (cls : Value) (d : Option Addr) (pn : List (Addr × Obj)) (xe : Value → Shared → Prop), L2N.Zn cls d oe → (∃ vs, oe.data = .fields vs) → L2.Takes (suiteE X a ((a, oe) :: pn) xe) (fun cls d _ H => E0 cls d H) → HotC (suiteE X a ((a, oe) :: pn) xe) →
      PSs (suiteE X a ((a, oe) :: pn) xe) (b₀ :: suite) (ts a cls d)) :
    PS X (.Try body [.ExceptHandler (some (.Name x np)) (some n) (b₀ :: suite) pos'] [] [] pos) (fun D σ H => tb (wAsX X.K c i ts D) D σ H) := by
  constructor
  intro pins s σ H D I h
  have ok := I.ok
  have fr : X.A.frames = some (X.env :: X.outer) := ok.frames.trans (congrArg some hs)
  refine wpAny_Try_except (wpAny_mono ((hb (wAsX X.K c i ts D) (X.pn ++ pins) (fun e s₁ => wpAny (model X.prog X.w) X.A (noteFrame e X.env) (fun _ s₂ => wpAny (model X.prog X.w) X.A (setFlight e none)
    (fun _ s₃ => wpAny (model X.prog X.w) X.A (handleBy e X.env [.ExceptHandler (some (.Name x np)) (some n) (b₀ :: suite) pos']) (SP X pins D) X.xe s₃) X.xe s₂) X.xe s₁) (fun u s' xx => ?_) PassesOwn.looking).run [] s σ H D (I.toTry _) h) (fun f s1 sp => ?_) fun e s1 z => z)
  · obtain ⟨a, B, sI, pins', σ', H', cls, d, rfl, J0, nb, up, sky, na, os, ag, em, yes⟩ := xx
    have J : Inv X pins σ' H' sI := J0.ofTry ok
    rw [show (X.tr (X.pn ++ pins) _).stack = X.env :: X.outer from hs] at sky
    show wpAny (model X.prog X.w) X.A (noteFrame (.ref a) X.env) _ _ _
    refine L2N.Sky.land L2N.Zn.steady fr hf sky fun h3 fl3 up3 => ?_
    have J3 := J.landed (s' := { s' with heap := h3 }) nb fl3.1 (up.trans up3) os ag
    obtain ⟨oe3, vs3, he3, hz3, hd3⟩ := fl3.there
    have nfr : a ∉ frs (X.env :: X.outer) := fun hm => by
      obtain ⟨_, o', e', hnf⟩ := fl3.2.2.1.mem hm
      rw [he3] at e'
      cases e'
      exact hnf _ hd3
    have nL : a ≠ X.env.locals := fun z => nfr (List.mem_filterMap.mpr ⟨_, List.mem_cons_self, hf.trans (congrArg some z.symm)⟩)
    have nF : a ∉ X.fs := fun hm => by
      obtain ⟨e, he, q⟩ := List.mem_filterMap.mp hm
      exact nfr (List.mem_filterMap.mpr ⟨e, .tail _ he, q⟩)
    have S3 := J3.suite he3 hd3 na nL nF
    refine wpAny_handleBy_cons (codeAny_handlers_test ?_) (fun q => by cases q)
    have LT : PySem.W.Looks (model X.prog X.w) h3 (typeOf (.ref a)) cls := fun A Q E s k q => by
      refine wpAny_typeOf_ref (k _ _ he3) ?_
      rw [hz3.1]
      exact q
    have LM := PySem.W.exm_one (M := model X.prog X.w) J3.kIn LT em
    have named : ∀ {Q : Value → Shared → Prop} {E : Value → Shared → Prop}, Q c { s' with heap := h3 } → wpAny (model X.prog X.w) (X.A.mark (some (.ref a))) (eval (.Name x np) X.env) Q E { s' with heap := h3 } := by
      intro Q E q
      obtain ⟨g1, g2, g3⟩ := hc
      rcases g3 with g3 | ⟨g3, g4, g5⟩
      · exact ld_glob (X := X.suite a ((a, oe3) :: (X.pn ++ pins))) S3 g1 g3 q g2
      · exact ld_blt (X := X.suite a ((a, oe3) :: (X.pn ++ pins))) S3 g1 g3 g4 q g5 g2
    refine named (LM.here (codeAny_handlers_suite_as (HandSPX.lands_againZ fl3 fun h4 fl4 up4 => ?_)))
    have J4 := J.landed (s' := { s' with heap := h4 }) nb fl4.1 ((up.trans up3).trans up4) os ag
    obtain ⟨oe4, vs4, he4, hz4, hd4⟩ := fl4.there
    have S4 := J4.suite he4 hd4 na nL nF
    refine store_ok (X := X.suite a ((a, oe4) :: (X.pn ++ pins))) (v := .ref a) S4 hN hi (.inl hln) rfl (fun s5 S5 => ?_) (.inr hln)
    have hot : ∀ xe, HotC (suiteE X a ((a, oe4) :: (X.pn ++ pins)) xe) := fun xe => ⟨(a, oe4), ⟨rfl, vs4, hd4, hz4.2.2 vs4 hd4⟩, List.mem_cons_self⟩
    have frs' : (X.A.mark (some (.ref a))).frames = some (X.env :: X.outer) := fr
    have tkS : ∀ xe, (∀ u s, L2.XE (suiteX X a ((a, oe4) :: (X.pn ++ pins))) (fun cls d _ H => E0 cls d H) u s → xe u s) → L2.Takes (suiteE X a ((a, oe4) :: (X.pn ++ pins)) xe) (fun cls d _ H => E0 cls d H) := by
      intro xe g u s2 x2
      obtain ⟨e2, B2, sI2, pn2, σ2, H2, cls2, d2, ee, I2, r2⟩ := x2
      exact g u s2 ⟨e2, B2, sI2, pn2, σ2, H2, cls2, d2, ee, Inv.unwish (X := suiteX X a ((a, oe4) :: (X.pn ++ pins))) (E := xe) I2, r2⟩
    have S5' : ∀ xe, Inv (suiteE X a ((a, oe4) :: (X.pn ++ pins)) xe) [] (σ'.set i (some (.ref a))) H' s5 := fun xe =>
      Inv.wish (X := suiteX X a ((a, oe4) :: (X.pn ++ pins))) (suiteX_of S5) xe
    refine wpAny_mono ((hsu a oe4 cls d (X.pn ++ pins) _ hz4 ⟨_, hd4⟩ (tkS _ fun u s2 x2 => as_raised (n := n) (pos := pos') ok hs hf hln tk frs' x2) (hot _)).run [] s5 _ H' _ (S5' _) (yes a na)) (fun f s6 sp => ?_) fun _ _ z => z
    have fin : ∀ {σ6 : L2.St} {H6 : Hp} {xe : Value → Shared → Prop} {Q : Shared → Prop}, Inv (suiteE X a ((a, oe4) :: (X.pn ++ pins)) xe) [] σ6 H6 s6 → (∀ s7, Inv X pins (σ6.set i none) H6 s7 → Q s7) →
        wpAny (model X.prog X.w) X.A (do bindName X.env n .none; unbindBehindTheSuite X.env n pos') (fun _ s7 => Q s7) X.xe s6 := by
      intro σ6 H6 xe Q S6 g
      exact gone_ok (unsuiteX (Inv.unwish (X := suiteX X a ((a, oe4) :: (X.pn ++ pins))) (E := xe) S6) ok) hN hi hln g
    rcases f with _ | _ | _ | u
    · obtain ⟨σ6, H6, S6, q6⟩ := sp
      exact fin S6 fun s7 J7 => ⟨_, _, J7, q6⟩
    · obtain ⟨σ6, H6, S6, q6⟩ := sp
      exact fin S6 fun s7 J7 => ⟨_, _, J7, q6⟩
    · obtain ⟨σ6, H6, S6, q6⟩ := sp
      exact fin S6 fun s7 J7 => ⟨_, _, J7, q6⟩
    · obtain ⟨v6, σ6, H6, S6, r6, q6⟩ := sp
      exact fin S6 fun s7 J7 => ⟨_, _, _, J7, r6, q6⟩
  · rcases f with _ | _ | _ | u
    · obtain ⟨σ', H', J, q⟩ := sp
      exact wpAny_execs_nil ⟨_, _, J.ofTry ok, q⟩
    · obtain ⟨σ', H', J, q⟩ := sp
      exact ⟨_, _, J.ofTry ok, q⟩
    · obtain ⟨σ', H', J, q⟩ := sp
      exact ⟨_, _, J.ofTry ok, q⟩
    · obtain ⟨v, σ', H', J, r, q⟩ := sp
      exact ⟨_, _, _, J.ofTry ok, r, q⟩
end
end L2H
set_option Elab.async false
set_option linter.all false
set_option maxRecDepth 100000
set_option maxHeartbeats 1000000
/-! isinstance(e, c), e a caught exception that may hold a dict -/
namespace PySem.W
open PySem PySem.Spec PySem.Calls PyProof.Rows
section
variable {prog : Program} {w : World} {A : Around} {E : Value → Shared → Prop} {K : Frag} {x D : Addr} {ox : Obj} {od : Option Obj}
theorem found_class (C : L2.ExcC K D) : findObj K D od "__class__" = some (.bind (.builtin "getset_descriptor.__get__") (.builtin "object.__class__")) := by
  obtain ⟨cd, hc, _⟩ := any_some C.hd
  unfold findObj
  rw [hc, Option.bind_some, C.ha, Option.bind_some]
  simp [C.hn, C.ht]
/-- e.__class__ -/
theorem class_of_exc (C : L2.ExcC K D) : ∀ {s : Shared} {Q : Option Value → Shared → Prop}, K.In s.heap → InstAt s.heap x ox D od → Q (some (.ref D)) { s with toks := s.toks + 1 } → wpAny (model prog w) A (getAttr? (.ref x) "__class__") Q E s
  | ⟨hp, g, d, t, os⟩, Q, X, I, h => by
    have ty := I.type (M := model prog w)
    have own : Looks (model prog w) hp (isInstance (.ref x) (.type "BaseException")) true := ty.andThen (looks_subIn X C.hs)
    have other : (Value.builtin "BaseException.__getattribute__" == Value.builtin "object.__getattribute__") = false := by decide +kernel
    have both : (onTheHeap (Value.ref D) && Value.builtin "BaseException.__getattribute__" == Value.builtin "object.__getattribute__") = false := by rw [other, Bool.and_false]
    unfold getAttr? getAttrBy? getAttrBy
    refine wpAny_bind (wpAny_mkText (wpAny_bind (wpAny_attempt (wpAny_holding (wpAny_bind (ty.at (wpAny_bind ((looks_findIn X C.hg).at ?got))))))))
    case got =>
      show wpAny _ _ (if (onTheHeap (Value.ref D) && Value.builtin "BaseException.__getattribute__" == Value.builtin "object.__getattribute__") = true then _ else _) _ _ _
      rw [both, if_neg Bool.false_ne_true]
      unfold getAttrByItsOwn hookBefore
      refine wpAny_bind ?_
      rw [if_pos (show onTheHeap (Value.ref D) = true from rfl)]
      refine (looks_findIn X C.hk).at (wpAny_bind (wpAny_attempt (wpAny_holding ?_)))
      unfold callGetattribute
      rw [show (false && onTheHeap (Value.builtin "BaseException.__getattribute__")) = false from rfl, if_neg Bool.false_ne_true]
      unfold boundAndCalled
      rw [PySem.F.excAttr_ValueError.ga.bind (.ref x)]
      refine wpAny_bind (wpAny_pure ?_)
      show wpAny _ _ (call (.builtin "BaseException.__getattribute__") [.ref x, .str "__class__" t]) _ _ _
      refine wpAny_call (codeAny_call_builtin PySem.F.excAttr_ValueError.ga.plain PySem.F.entry_bexc_ga (@check_slot (model prog w) _ _ ⟨hp, g, d, t + 1, os⟩ "BaseException.__getattribute__" "BaseException" "__getattribute__" (.ref x) [.str "__class__" t] [] _ (by decide +kernel) (by decide +kernel) own (PySem.F.args_bexc_ga (.ref x) (.str "__class__" t)) ?_))
      unfold Builtin.«object.__getattribute__»
      refine wpAny_bind (wpAny_of_eq (a := ((Value.ref x : Value), [Value.str "__class__" t])) (by first | rfl | (simp only [slotArgs]; rfl)) (wpAny_bind (wpAny_pure (wpAny_bind (ty.at (wpAny_bind ((looks_find X I (found_class C)).at ?_)))))))
      show wpAny _ _ (holding [Value.builtin "object.__class__"] (call (.builtin "getset_descriptor.__get__") [.builtin "object.__class__", .ref x, .ref D]) >>= ret) _ _ _
      refine wpAny_bind (wpAny_holding (wpAny_call (class_get (s := ⟨hp, g, d, t + 1, os⟩) (ox := ox) (od := od) X I C.hm (wpAny_pure ?_))))
      show wpAny _ _ (handedOut (.ref D)) _ _ _
      rw [handedOut_of (v := .ref D) rfl]
      first
        | exact wpAny_pure (wpAny_pure h)
        | exact wpAny_pure h
        | exact wpAny_pure (wpAny_bind (wpAny_pure (wpAny_pure h)))
theorem kit_exc (C : L2.ExcC K D) : KitX K (.ref x) (.ref D) (fun h => InstAt h x ox D od) := by
  obtain ⟨cd, hc, _⟩ := any_some C.hd
  unfold clsIn at hc
  split at hc
  · rename_i c' d' cd' sl' ho
    refine ⟨fun _ _ _ I => I.type, fun _ _ X _ A' Q' E' s' k q => ?_, fun h tp dd its n sl X htp => ?_, fun X I k => class_of_exc C X I k⟩
    · unfold isType loadHead
      exact wpAny_bind (wpAny_loadPart (k _ _ (X _ _ ho)) (wpAny_pure q))
    · refine Bool.eq_false_iff.mpr fun q => ?_
      have e : D = tp := Value.ref.inj (beq_iff_eq.mp q)
      subst e
      cases (X _ _ ho).symm.trans htp
  · cases hc
end
end PySem.W
namespace L2
open PySem PySem.Spec PyProof.Rows
/-- isinstance(e, c): the dict of e, where it has one, stands in H -/
def rIsX (K : PySem.W.Frag) (D a : Addr) (d : Option Addr) : List V → Hp → VK → Prop := fun xs H Q => ∃ (c : V) (cv : Value) (b : Bool), xs = [.ref a, c] ∧ (∀ u, RelV c u → u = cv) ∧ PySem.W.kitOne K (.ref D) cv = some b ∧ (∀ dx, d = some dx → ∃ fs, H dx = some (.xd fs)) ∧ Q (.bl b) H
theorem call_isX {X : Cx} {a D : Addr} {d : Option Addr} {oe : Obj} {pn : List (Addr × Obj)} (C : ExcC X.K D) (hz : Zc (.ref D) d oe) (hf : ∃ vs, oe.data = .fields vs) : CallR (X.suite a ((a, oe) :: pn)) (.builtin "isinstance") (rIsX X.K D a d) := by
  intro pins s σ H xs us Q I r h
  obtain ⟨c, cv, b, rfl, hcv, e, hx, q⟩ := h
  match us, r with
  | [_, u2], .cons rx (.cons rt .nil) =>
    cases rx
    have ec := hcv _ rt
    subst ec
    obtain ⟨hget, _⟩ := I.pin (a, oe) (List.mem_append.mpr (.inl List.mem_cons_self))
    obtain ⟨vs, hv⟩ := hf
    obtain ⟨oc, od, oda, osl⟩ := oe
    obtain ⟨h1, h2⟩ := hz
    dsimp only at h1 h2 hv
    subst h1 h2 hv
    have J : ∃ dobj, PySem.W.InstAt s.heap a ⟨.ref D, od, .fields vs, osl⟩ D dobj := by
      cases od with
      | none => exact ⟨none, hget, rfl, rfl, trivial⟩
      | some dx =>
        obtain ⟨fs, hfs⟩ := hx dx rfl
        obtain ⟨mA, ⟨o, es, ep, ho, r⟩, _⟩ := I.hok dx _ hfs
        exact ⟨some o, hget, rfl, rfl, ho⟩
    obtain ⟨dobj, J⟩ := J
    exact PySem.W.kia_one (PySem.W.kit_exc C) I.kIn J e (fun z => nomatch z) fun tk => ⟨.bl b, H, I.kept (t' := tk) fun _ _ z => z, rfl, q⟩
end L2
set_option Elab.async false
namespace Rh
open PySem
def topS (i : Nat) : Stmt := PySem.Challenge.pw_rewritehall_k34_refusals_apart.main.body.getD i (.Pass ⟨0, 0, 0, 0⟩)
abbrev s__wall : Stmt := topS 0
abbrev s_is_variable : Stmt := topS 11
abbrev s_is_term : Stmt := topS 12
abbrev s_check_term : Stmt := topS 13
abbrev s_variables : Stmt := topS 14
abbrev s_places : Stmt := topS 15
abbrev s_sign_places : Stmt := topS 16
abbrev s_at : Stmt := topS 17
abbrev s_laid : Stmt := topS 18
abbrev s_put : Stmt := topS 19
abbrev s_after : Stmt := topS 20
abbrev s_matched : Stmt := topS 21
abbrev s_unified : Stmt := topS 22
abbrev s_solve : Stmt := topS 23
abbrev s_skip : Stmt := topS 26
abbrev s_term_at : Stmt := topS 27
abbrev s_read : Stmt := topS 28
abbrev s_check_rules : Stmt := topS 30
abbrev s_stepped : Stmt := topS 31
abbrev s_inner_first : Stmt := topS 32
abbrev s_outer_first : Stmt := topS 33
abbrev s_ended : Stmt := topS 34
abbrev s_look_paper : Stmt := topS 36
abbrev s_follows : Stmt := topS 37
abbrev s_dice : Stmt := topS 41
abbrev s_roll : Stmt := topS 42
abbrev s_rounds : Stmt := topS 43
abbrev s_told_law : Stmt := topS 44
abbrev s_law : Stmt := topS 45
end Rh
set_option Elab.async false
set_option linter.all false
set_option maxRecDepth 100000
set_option maxHeartbeats 2000000
namespace Rh
open PySem PySem.Spec PyProof.Rows L2 GxR Gx Dl
theorem sc_is_variable : FnScope ["thing", "sign"] ["thing"] (defScope s_is_variable) := ⟨rfl, rfl, rfl, by decide +kernel, rfl, by decide +kernel, by decide +kernel⟩
def R_iv : List Ar → PyData → Prop := fun as d => (∃ x : Str, as = [.d (.str x)] ∧ x.length ≤ 100000 ∧ d = .bool (isVarS x)) ∨ ∃ es, as = [.d (.tuple es)] ∧ d = .bool false
theorem r_iv {t : T} (o : t.ok) : R_iv [.d (enc t)] (.bool t.isV) := by
  cases t with
  | v x => exact .inl ⟨x, rfl, o.2.1, by rw [o.1]; rfl⟩
  | c s => exact .inr ⟨_, rfl, rfl⟩
  | u s t => exact .inr ⟨_, rfl, rfl⟩
  | b s t r => exact .inr ⟨_, rfl, rfl⟩
section
variable {P : Program} {w : World} {K : PySem.W.Frag} {mg : Str → Option Value} {base : Heap} {G : List Addr}
variable {f : Addr} {fd : FuncData}
abbrev IV (P : Program) (w : World) (K : PySem.W.Frag) (mg : Str → Option Value) (base : Heap) (G : List Addr) : Prop := Cl0 P w K mg base 2 "is_variable" (spA G K R_iv)
theorem cl_iv (D : DefF K mg base G "is_variable" s_is_variable ["thing"] f fd) (m1 : mg "isinstance" = none) (m2 : mg "str" = none) (m3 : mg "all" = none) : IV P w K mg base G := by
  refine D.cl sc_is_variable (fun ds d r => by rcases r with ⟨x, rfl, _⟩ | ⟨es, rfl, _⟩ <;> rfl) fun c Pt A outer s H vs ds d Q E TB hP hr tG hv r q => ?_
  refine ⟨_, pss_cons (ps_if (PW.pt (pw_or (pt_not (pt_val (pe_callB call_isi (by rfl) m1 (by decide +kernel) (pa_cons (pv 0) (pa_cons (pe_bltn (v := .ty "str") (by rfl) m2 (by decide +kernel) rfl) pa_nil)))))
      (pw_or (pt_cmpR op_eq (pv 0) pe_str (nomark _)) (pw_or1 (pt_cmpR op_notIn_sign (pe_ix ix_str (pv 0) pe_int (fun _ _ => rfl)) pe_str rfl))))) (pss_one (ps_ret pe_bl)) pss_nil)
    (pss_one (ps_ret (pe_allG (own := [("sign", 1)]) hr sc_is_variable.nd TB rfl (blkOk_by (N := ["thing", "sign"]) (sc := defScope s_is_variable) (by decide +kernel)) m3 (pi_str (pe_slice sl_str (pv 0) (po_some pe_int) po_none))
      (fun s H C code fp A _ => pg_name (i := 1) sc_is_variable.nd rfl (Or.inl rfl)) (fun s H C code fp A _ => pts_nil) (fun s H C code fp A _ => pe_cmpR op_in_sign (pv 1) pe_str rfl)))), ?_⟩
  rcases r with ⟨x, rfl, hx, rfl⟩ | ⟨es, rfl, rfl⟩
  · obtain ⟨v, rfl, rv⟩ := arA_one hv
    have hz : x.length ≤ sizeLine := Nat.le_trans hx (by decide)
    have v0 : ∀ {H'}, Ext G H H' → Ed G K (tVar 0) [some v, none] H' (.str x) := fun y => ed_var (tG.ext y) rfl (dp_ext y tG (show Dp K H v (.str x) from rv))
    cases hl : x.cps.toList with
    | nil =>
      have ex : x = Str.ofString "" := Str.ext' (Array.toList_inj.mp hl)
      refine s_ifR (b := true) (edt_or (b := false) (edt_not (b := true) (edt_val (ed_isi (v0 (Ext.refl G H)) (kit_ty (show kitB "str" "str" = some true by decide +kernel))))) fun _ => edt_or (b := true) (c := true) (edt_test (ed_is (ed_op tG (v0 (Ext.refl G H)) ed_str rd_eqS) ?_)) fun z => by cases z) (fun _ H' y => ?_) (fun z => by cases z)
      · rw [ex]; rfl
      · refine s_ret (K := K) ed_bl fun u H2 y2 ru => q u H2 (y.trans y2) ?_
        have e : isVarS x = false := by unfold isVarS; rw [hl]
        rw [e]
        exact ru
    | cons cc r =>
      have nx : ¬ x = Str.ofString "" := fun z => by rw [z] at hl; cases hl
      have i0 : x.cps.toList[(0 : Int).toNat]? = some cc := by rw [hl]; rfl
      refine s_ifR (b := !decide (cc ∈ (Str.ofString "uvwxyz").cps.toList)) (edt_or (b := false) (edt_not (b := true) (edt_val (ed_isi (v0 (Ext.refl G H)) (kit_ty (show kitB "str" "str" = some true by decide +kernel))))) fun _ => edt_or (b := false) (edt_test (ed_is (ed_op tG (v0 (Ext.refl G H)) ed_str rd_eqS) ?_)) fun _ =>
        edt_test (ed_op tG (ed_op tG (v0 (Ext.refl G H)) ed_int (rd_ixS hz (Int.le_refl 0) i0)) ed_str rd_niSign)) (fun e H' y => ?_) (fun e H' y => ?_)
      · rw [decide_eq_false nx]
      · refine s_ret (K := K) ed_bl fun u H2 y2 ru => q u H2 (y.trans y2) ?_
        have e2 : isVarS x = false := by
          unfold isVarS
          rw [hl]
          simp only [Bool.not_eq_true'] at e
          simp only [e, Bool.false_and]
        rw [e2]
        exact ru
      · have tG' := tG.ext y
        refine s_ret (ed_allS hP tG' (ed_slS hz (v0 y) (fun _ _ _ z => ⟨_, rfl, z⟩) (fun _ _ _ z => z)) (List.mem_singleton.mpr rfl) fun d H1 y1 t1 => ed_op t1 (ed_var t1 rfl (.str _)) ed_str rd_inSign) fun u H2 y2 ru => q u H2 (y.trans y2) ?_
        have e2 : isVarS x = ((cutS x (some 1) none).cps.toList.all fun d => decide (d ∈ (Str.ofString "0123456789").cps.toList)) := by
          unfold isVarS
          rw [cutS_tail, hl]
          simp only [Bool.not_eq_false'] at e
          simp only [e, Bool.true_and, List.drop_succ_cons, List.drop_zero]
        rw [e2]
        exact ru
  · obtain ⟨v, rfl, rv⟩ := arA_one hv
    refine s_ifR (b := true) (edt_or (b := true) (c := true) (edt_not (b := false) (edt_val (ed_isi (ed_var tG rfl (show Dp K H v (.tuple es) from rv)) (kit_ty (show kitB "tuple" "str" = some false by decide +kernel))))) fun z => by cases z) (fun _ H' y => ?_) (fun z => by cases z)
    exact s_ret (K := K) ed_bl fun u H2 y2 ru => q u H2 (y.trans y2) ru
end
end Rh
set_option Elab.async false
set_option linter.all false
set_option maxRecDepth 100000
set_option maxHeartbeats 2000000
namespace Rh
open PySem PySem.Spec PyProof.Rows L2 GxR Gx Dl
def T.uses (x : Str) : T → Nat
  | .v y => if y = x then 1 else 0
  | .c _ => 0
  | .u _ t => t.uses x
  | .b _ t r => t.uses x + r.uses x
theorem T.size_n {t : T} (h : t.isV = false) : (t.size : Int) = 1 + (t.parts.map fun p => (p.size : Int)).sum := by
  cases t with
  | v x => cases h
  | c s => rfl
  | u s t => simp [T.size, T.parts]; omega
  | b s t r => simp [T.size, T.parts]; omega
theorem T.size_v {t : T} (h : t.isV = true) : t.size = 1 := by cases t <;> first | rfl | cases h
theorem T.uses_n {t : T} {x : Str} (h : t.isV = false) : (t.uses x : Int) = (t.parts.map fun p => (p.uses x : Int)).sum := by
  cases t with
  | v x => cases h
  | c s => rfl
  | u s t => simp [T.uses, T.parts]
  | b s t r => simp [T.uses, T.parts]
def R_size (n : Nat) : List Ar → PyData → Prop := fun as d => ∃ t : T, as = [.d (enc t)] ∧ t.ok ∧ t.dp < n ∧ d = .int t.size
def R_uses (n : Nat) : List Ar → PyData → Prop := fun as d => ∃ (t : T) (x : Str), as = [.d (enc t), .d (.str x)] ∧ t.ok ∧ t.dp < n ∧ d = .int (t.uses x)
section
variable {P : Program} {w : World} {K : PySem.W.Frag} {mg : Str → Option Value} {base : Heap} {G : List Addr} {f : Addr} {fd : FuncData}
/-- nothing is promised -/
theorem _root_.Dl.DefF.none {x : Str} {st : Stmt} {ps : List Str} {R : List Ar → PyData → Prop} (D : DefF K mg base G x st ps f fd) (h : ∀ as d, ¬ R as d) : Cl0 P w K mg base 0 x (spA G K R) := by
  obtain ⟨c, Pt, F, TB, hP⟩ := D.cP
  exact ⟨f, fd, ps, ⟨fun vs H Q E ⟨_, as, d, _, r, _⟩ => absurd r (h as d), fun A outer s H args us vs Q E _ _ _ _ ⟨_, as, d, _, r, _⟩ => absurd r (h as d)⟩, D.m, F.kp, D.b⟩
theorem ed_iv {σ : L2.St} {H : Hp} {te : TE} {t : T} (tG : TabsG G H) (o : t.ok) (h : Ed G K te σ H (enc t)) : Ed G K (tCall (spA G K R_iv) [] (fun _ _ _ => False) (tCons te tNil)) σ H (.bool t.isV) := ea_call tG (ea_one (edx_of h)) (r_iv o)

end
end Rh
set_option Elab.async false
set_option linter.all false
set_option maxRecDepth 100000
set_option maxHeartbeats 2000000
namespace Rh
open PySem PySem.Spec PyProof.Rows L2 GxR Gx Dl
theorem sc_put : FnScope ["term", "table", "part"] ["term", "table"] (defScope s_put) := ⟨rfl, rfl, rfl, by decide +kernel, rfl, by decide +kernel, by decide +kernel⟩
theorem sc_at : FnScope ["term", "place", "k"] ["term", "place"] (defScope s_at) := ⟨rfl, rfl, rfl, by decide +kernel, rfl, by decide +kernel, by decide +kernel⟩
/-- a table of numbers -/
abbrev Tb := List (Str × Int)
def encT (m : Tb) : List (Key × PyData) := m.map fun p => (.inr p.1, .int p.2)
def getT (m : Tb) (s : Str) : Option Int := (m.find? fun p => decide (p.1 = s)).map (·.2)
theorem valD_encT (m : Tb) (s : Str) : valD (encT m) (.inr s) = (getT m s).map PyData.int := by
  induction m with
  | nil => rfl
  | cons p r ih =>
    by_cases h : p.1 = s
    · simp [valD, encT, getT, List.find?_cons, h]
    · have h' : ¬ (Sum.inr p.1 : Key) = .inr s := fun z => h (by injection z)
      simp only [valD, encT, List.map_cons, List.find?_cons, decide_eq_false h', getT, decide_eq_false h]
      exact ih
def T.weight (m : Tb) (l : Int) : T → Int
  | .v _ => l
  | .c s => (getT m s).getD 0
  | .u s t => (getT m s).getD 0 + t.weight m l
  | .b s t r => (getT m s).getD 0 + (t.weight m l + r.weight m l)
/-- all signs stand in the table -/
def T.inT (m : Tb) : T → Prop
  | .v _ => True
  | .c s => (getT m s).isSome = true
  | .u s t => (getT m s).isSome = true ∧ t.inT m
  | .b s t r => (getT m s).isSome = true ∧ t.inT m ∧ r.inT m
theorem T.inT_sgn {m : Tb} {t : T} (h : t.inT m) (hv : t.isV = false) : ∃ k, getT m t.sgn = some k := by
  cases t with
  | v x => cases hv
  | c s => exact Option.isSome_iff_exists.mp h
  | u s t => exact Option.isSome_iff_exists.mp h.1
  | b s t r => exact Option.isSome_iff_exists.mp h.1
theorem T.inT_parts {m : Tb} {t p : T} (o : t.inT m) (h : p ∈ t.parts) : p.inT m := by
  cases t with
  | v x => cases h
  | c s => cases h
  | u s t =>
    rw [T.parts, List.mem_singleton] at h
    subst h
    exact o.2
  | b s t r =>
    rw [T.parts, List.mem_cons, List.mem_singleton] at h
    rcases h with h | h <;> subst h
    · exact o.2.1
    · exact o.2.2
theorem T.weight_n {m : Tb} {l : Int} {t : T} (h : t.isV = false) : t.weight m l = (getT m t.sgn).getD 0 + (t.parts.map fun p => p.weight m l).sum := by
  cases t with
  | v x => cases h
  | c s => simp [T.weight, T.parts, T.sgn]
  | u s t => simp [T.weight, T.parts, T.sgn]
  | b s t r => simp [T.weight, T.parts, T.sgn]
theorem T.weight_v {m : Tb} {l : Int} {t : T} (h : t.isV = true) : t.weight m l = l := by cases t <;> first | rfl | cases h
/-- one sign or more of a single part above a variable -/
def T.tower (x : Str) : T → Bool
  | .v y => decide (y = x)
  | .c _ => false
  | .u _ t => t.tower x
  | .b _ _ _ => false
/-- the variables down the spine are variables -/
def T.okW : T → Prop
  | .v x => isVarS x = true ∧ x.length ≤ 100000
  | .c _ => True
  | .u _ t => t.okW
  | .b _ _ _ => True
theorem T.ok.w {t : T} : t.ok → t.okW := by
  induction t with
  | v x => exact fun o => ⟨o.1, o.2.1⟩
  | c s => exact fun _ => True.intro
  | u s t ih => exact fun o => ih o.2
  | b s t r _ _ => exact fun _ => True.intro
theorem r_ivW {t : T} (o : t.okW) : R_iv [.d (enc t)] (.bool t.isV) := by
  cases t with
  | v x => exact .inl ⟨x, rfl, o.2, by rw [o.1]; rfl⟩
  | c s => exact .inr ⟨_, rfl, rfl⟩
  | u s t => exact .inr ⟨_, rfl, rfl⟩
  | b s t r => exact .inr ⟨_, rfl, rfl⟩
theorem ed_ivW {G : List Addr} {K : PySem.W.Frag} {σ : L2.St} {H : Hp} {te : TE} {t : T} (tG : TabsG G H) (o : t.okW) (h : Ed G K te σ H (enc t)) : Ed G K (tCall (spA G K R_iv) [] (fun _ _ _ => False) (tCons te tNil)) σ H (.bool t.isV) := ea_call tG (ea_one (edx_of h)) (r_ivW o)
abbrev Sub := List (Str × T)
def encSub (m : Sub) : List (Key × PyData) := m.map fun p => (.inr p.1, enc p.2)
def getS (m : Sub) (s : Str) : Option T := (m.find? fun p => decide (p.1 = s)).map (·.2)
theorem valD_encSub (m : Sub) (s : Str) : valD (encSub m) (.inr s) = (getS m s).map enc := by
  induction m with
  | nil => rfl
  | cons p r ih =>
    by_cases h : p.1 = s
    · simp [valD, encSub, getS, List.find?_cons, h]
    · have h' : ¬ (Sum.inr p.1 : Key) = .inr s := fun z => h (by injection z)
      simp only [valD, encSub, List.map_cons, List.find?_cons, decide_eq_false h', getS, decide_eq_false h]
      exact ih
def T.put (m : Sub) : T → T
  | .v x => (getS m x).getD (.v x)
  | .c s => .c s
  | .u s t => .u s (t.put m)
  | .b s t r => .b s (t.put m) (r.put m)
theorem T.put_n {m : Sub} {t : T} (h : t.isV = false) : enc (t.put m) = .tuple [.str t.sgn, .tuple (t.parts.map fun p => enc (p.put m))] := by cases t <;> first | rfl | cases h
def R_rank : List Ar → PyData → Prop := fun as d => ∃ (s : Str) (m : Tb) (k : Int), as = [.d (.str s), .k (encT m)] ∧ getT m s = some k ∧ d = .int k
def R_weight (n : Nat) : List Ar → PyData → Prop := fun as d => ∃ (t : T) (m : Tb) (l : Int), as = [.d (enc t), .k (encT m), .d (.int l)] ∧ t.ok ∧ t.inT m ∧ t.dp < n ∧ d = .int (t.weight m l)
def R_tower : List Ar → PyData → Prop := fun as d => ∃ (t : T) (x : Str), as = [.d (enc t), .d (.str x)] ∧ t.okW ∧ d = .bool (t.tower x)
def R_put (n : Nat) : List Ar → PyData → Prop := fun as d => ∃ (t : T) (m : Sub), as = [.d (enc t), .k (encSub m)] ∧ t.ok ∧ t.dp < n ∧ d = enc (t.put m)
section
variable {P : Program} {w : World} {K : PySem.W.Frag} {mg : Str → Option Value} {base : Heap} {G : List Addr} {f : Addr} {fd : FuncData}
theorem cl_put (D : DefF K mg base G "put" s_put ["term", "table"] f fd) (iv : IV P w K mg base G) (m : mg "tuple" = none) : ∀ n, Cl0 P w K mg base (2 * n + 2) "put" (spA G K (R_put n))
  | 0 => (D.none fun as d ⟨t, _, _, _, h, _⟩ => Nat.not_lt_zero _ h).mono (Nat.zero_le _)
  | n + 1 => by
    have ih := cl_put D iv m n
    refine D.cl (k := 2 * n + 3) sc_put (fun ds d r => by obtain ⟨t, x, rfl, _⟩ := r; rfl) fun c Pt A outer s H vs ds d Q E TB hP hr tG hv r q => ?_
    refine ⟨_, pss_cons (ps_if (pt_val (pe_cl iv (hr.mono (by omega)) rfl (pa_cons (pv 0) pa_nil))) (pss_one (ps_ret (pe_dget2 (hu_of hr) (pv 1) (pv 0) (pv 0) ⟨rfl, rfl, rfl, rfl⟩))) pss_nil)
      (pss_one (ps_ret (pe_tup (pa_cons (pe_ix ix_tup (pv 0) pe_int (fun _ _ => rfl)) (pa_cons (pe_callTy call_tuple_of (by rfl) m (by decide +kernel) (pa_cons
        (pe_lc (own := [("part", 2)]) (g := gName 2) (tt := tYes) rfl sc_put.nd (pi_tup (pe_ix ix_tup (pv 0) pe_int (fun _ _ => rfl))) (blkOk_by (N := ["term", "table", "part"]) (sc := defScope s_put) (by decide +kernel))
          (fun _ _ _ _ _ => pg_name (i := 2) sc_put.nd rfl (Or.inl rfl)) (fun _ _ _ _ _ => pts_nil) (fun _ _ _ _ _ => pe_cl ih (hr.mono (by omega)) rfl (pa_cons (pv 2) (pa_cons (pv 1) pa_nil)))) pa_nil)) pa_nil))))), ?_⟩
    obtain ⟨t, m, rfl, o, hd, rfl⟩ := r
    obtain ⟨v, z, rfl, rv, rz⟩ := arA_two hv
    have v0 : ∀ {H'}, Ext G H H' → Ed G K (tVar 0) [some v, some z, none] H' (enc t) := fun y => ed_var (tG.ext y) rfl (dp_ext y tG rv)
    have v1 : ∀ {H'}, Ext G H H' → EdX G K (tVar 1) [some v, some z, none] H' (.k (encSub m)) := fun y => edx_var (tG.ext y) rfl (ar_ext y tG rz)
    refine s_ifR (edt_val (ed_iv tG o (v0 (Ext.refl G H)))) (fun h H' y => ?_) fun h H' y => ?_
    · refine s_ret (K := K) (ed_dget2 (d := enc (t.put m)) (tG.ext y) (v1 y) (by have := v0 y; rw [enc_v h] at this; exact this) (v0 y) ?_) fun u H2 y2 ru => q u H2 (y.trans y2) ru
      cases t with
      | v x =>
        show ((valD (encSub m) (.inr x)).getD _) = enc ((getS m x).getD (.v x))
        rw [valD_encSub]
        cases getS m x <;> rfl
      | c _ => cases h
      | u _ _ => cases h
      | b _ _ _ => cases h
    · refine s_ret (K := K) (ed_is (ed_tup (tG.ext y) (ed_cons (tG.ext y) (ed_sgn (tG.ext y) h (v0 y)) (ed_one (ed_cb (ed_one (ed_lcP (g := fun p => enc (p.put m)) (tG.ext y) (by have := t.parts_len; omega) (ed_parts (tG.ext y) h (v0 y)) (List.mem_singleton.mpr rfl) (fun p _ => pu_enc _) fun p u H1 hp x1 t1 rp => ?_)) (rdc_tuple (tG.ext y))))) (by show 2 ≤ sizeLine; decide)) (T.put_n h).symm) fun u H2 y2 ru => q u H2 (y.trans y2) ru
      exact ea_call t1 (ea_cons t1 (edx_of (ed_var t1 rfl rp)) (ea_one (edx_var t1 rfl (ar_ext (y.trans x1) tG rz)))) ⟨p, m, rfl, T.ok_parts o hp, by have := T.dp_parts hp; omega, rfl⟩
end
end Rh
set_option Elab.async false
set_option linter.all false
set_option maxRecDepth 100000
set_option maxHeartbeats 2000000
namespace Rh
open PySem PySem.Spec PyProof.Rows L2 GxR Gx Dl
theorem sc_variables : FnScope ["term", "part", "name"] ["term"] (defScope s_variables) := ⟨rfl, rfl, rfl, by decide +kernel, rfl, by decide +kernel, by decide +kernel⟩
theorem sc_places : FnScope ["term", "k", "part", "place"] ["term"] (defScope s_places) := ⟨rfl, rfl, rfl, by decide +kernel, rfl, by decide +kernel, by decide +kernel⟩
/-- how many places hold a variable -/
def T.lv : T → Nat
  | .v _ => 1
  | .c _ => 0
  | .u _ t => t.lv
  | .b _ t r => t.lv + r.lv
def T.vars : T → List Str
  | .v x => [x]
  | .c _ => []
  | .u _ t => srtS (ddS t.vars)
  | .b _ t r => srtS (ddS (t.vars ++ r.vars))
theorem T.vars_n {t : T} (h : t.isV = false) : t.vars = srtS (ddS (t.parts.flatMap T.vars)) := by
  cases t with
  | v x => cases h
  | c s => simp [T.vars, T.parts, ddS, srtS]
  | u s t => simp [T.vars, T.parts]
  | b s t r => simp [T.vars, T.parts]
theorem T.vars_len : ∀ t : T, t.vars.length ≤ t.lv
  | .v _ => Nat.le_refl _
  | .c _ => Nat.le_refl _
  | .u _ t => by
    have ih := T.vars_len t
    have := ddS_len t.vars
    rw [T.vars, srtS_len, T.lv]
    omega
  | .b _ t r => by
    have ih := T.vars_len t
    have ih2 := T.vars_len r
    have := ddS_len (t.vars ++ r.vars)
    rw [List.length_append] at this
    rw [T.vars, srtS_len, T.lv]
    omega
theorem T.flat_len (t : T) : (t.parts.flatMap T.vars).length ≤ t.lv := by
  cases t with
  | v x => exact Nat.zero_le _
  | c s => exact Nat.zero_le _
  | u s t => simpa [T.parts, T.lv] using T.vars_len t
  | b s t r =>
    have := T.vars_len t
    have := T.vars_len r
    simp [T.parts, T.lv]
    omega
theorem T.lv_parts {t p : T} (h : p ∈ t.parts) : p.lv ≤ t.lv := by
  cases t with
  | v x => cases h
  | c s => cases h
  | u s t =>
    rw [T.parts, List.mem_singleton] at h
    subst h
    exact Nat.le_refl _
  | b s t r =>
    rw [T.parts, List.mem_cons, List.mem_singleton] at h
    show _ ≤ t.lv + r.lv
    rcases h with h | h <;> subst h <;> omega
theorem T.vars_mem {x : Str} : ∀ t : T, x ∈ t.vars ↔ 0 < t.uses x
  | .v y => by
    rw [T.vars, T.uses, List.mem_singleton]
    by_cases h : y = x
    · simp [h]
    · have h' : ¬ x = y := fun z => h z.symm
      simp [h, h']
  | .c _ => by simp [T.vars, T.uses]
  | .u _ t => by rw [T.vars, srtS_mem, ddS_mem, T.uses, T.vars_mem t]
  | .b _ t r => by
    rw [T.vars, srtS_mem, ddS_mem, T.uses, List.mem_append, T.vars_mem t, T.vars_mem r]
    omega
def R_vars (n : Nat) : List Ar → PyData → Prop := fun as d => ∃ t : T, as = [.d (enc t)] ∧ t.ok ∧ t.dp < n ∧ t.lv < 64 ∧ d = .tuple (t.vars.map PyData.str)
def encP (p : List Nat) : PyData := .tuple (p.map fun (n : Nat) => PyData.int n)
def T.places : T → List (List Nat)
  | .v _ => [[]]
  | .c _ => [[]]
  | .u _ t => [] :: t.places.map (0 :: ·)
  | .b _ t r => [] :: (t.places.map (0 :: ·) ++ r.places.map (1 :: ·))
def T.at : T → List Nat → Option T
  | t, [] => some t
  | .v _, _ :: _ => none
  | .c _, _ :: _ => none
  | .u _ t1, k :: r => if k = 0 then t1.at r else none
  | .b _ t t2, k :: r => if k = 0 then t.at r else if k = 1 then t2.at r else none
theorem T.at_nil (t : T) : t.at [] = some t := by cases t <;> rfl
theorem T.at_cons {t r : T} {k : Nat} {p : List Nat} (h : t.at (k :: p) = some r) : ∃ q, t.parts[k]? = some q ∧ q.at p = some r ∧ t.isV = false := by
  cases t with
  | v x => cases h
  | c s => cases h
  | u s t =>
    rw [T.at] at h
    split at h
    · next e => subst e; exact ⟨t, rfl, h, rfl⟩
    · cases h
  | b s t t2 =>
    rw [T.at] at h
    split at h
    · next e => subst e; exact ⟨t, rfl, h, rfl⟩
    · split at h
      · next e => subst e; exact ⟨t2, rfl, h, rfl⟩
      · cases h
def tupD : PyData → List PyData
  | .tuple ds => ds
  | _ => []
theorem T.places_n {t : T} (h : t.isV = false) : .tuple ([PyData.tuple []] ++ flatE (fun (n : Nat) d => ((dec d).places.map encP).map fun e => PyData.tuple ([PyData.int n] ++ tupD e)) 0 (t.parts.map enc)) = PyData.tuple (t.places.map encP) := by
  have e0 : ∀ (n : Nat) (t : T), ((dec (enc t)).places.map encP).map (fun e => PyData.tuple ([PyData.int n] ++ tupD e)) = (t.places.map (n :: ·)).map encP := fun n t => by
    rw [dec_enc, List.map_map, List.map_map]
    refine List.map_congr_left fun p _ => ?_
    simp [encP, tupD]
  cases t with
  | v x => cases h
  | c s => rfl
  | u s t => simp only [T.parts, List.map_cons, List.map_nil, flatE, e0, T.places, List.append_nil]; rfl
  | b s t r => simp only [T.parts, List.map_cons, List.map_nil, flatE, e0, T.places, List.append_nil, List.map_append]; rfl
def R_at : List Ar → PyData → Prop := fun as d => ∃ (t r : T) (p : List Nat), as = [.d (enc t), .d (encP p)] ∧ t.ok ∧ t.at p = some r ∧ d = enc r
def R_places (n : Nat) : List Ar → PyData → Prop := fun as d => ∃ t : T, as = [.d (enc t)] ∧ t.ok ∧ t.dp < n ∧ n ≤ 12 ∧ d = .tuple (t.places.map encP)
theorem T.places_len : ∀ t : T, t.places.length = t.size
  | .v _ => rfl
  | .c _ => rfl
  | .u _ t => by simp [T.places, T.size, T.places_len t]
  | .b _ t r => by simp [T.places, T.size, T.places_len t, T.places_len r]
theorem T.size_le : ∀ t : T, t.size < 2 ^ (t.dp + 1)
  | .v _ => by simp [T.size, T.dp]
  | .c _ => by simp [T.size, T.dp]
  | .u _ t => by
    have := T.size_le t
    have e : 2 ^ (t.dp + 1 + 1) = 2 ^ (t.dp + 1) * 2 := Nat.pow_succ ..
    simp only [T.size, T.dp]
    omega
  | .b _ t r => by
    have h1 := T.size_le t
    have h2 := T.size_le r
    have p1 : 2 ^ (t.dp + 1) ≤ 2 ^ (max t.dp r.dp + 1) := Nat.pow_le_pow_right (by decide) (by omega)
    have p2 : 2 ^ (r.dp + 1) ≤ 2 ^ (max t.dp r.dp + 1) := Nat.pow_le_pow_right (by decide) (by omega)
    have e : 2 ^ (max t.dp r.dp + 1 + 1) = 2 ^ (max t.dp r.dp + 1) * 2 := Nat.pow_succ ..
    simp only [T.size, T.dp]
    omega
theorem T.places_deep : ∀ (t : T) (p : List Nat), p ∈ t.places → p.length ≤ t.dp
  | .v _, p, h => by simp [T.places] at h; simp [h]
  | .c _, p, h => by simp [T.places] at h; simp [h]
  | .u _ t, p, h => by
    rw [T.places, List.mem_cons] at h
    rcases h with h | h
    · simp [h]
    · obtain ⟨q, hq, rfl⟩ := List.mem_map.mp h
      have := T.places_deep t q hq
      simp only [List.length_cons, T.dp]
      omega
  | .b _ t r, p, h => by
    rw [T.places, List.mem_cons, List.mem_append] at h
    rcases h with h | h | h
    · simp [h]
    · obtain ⟨q, hq, rfl⟩ := List.mem_map.mp h
      have := T.places_deep t q hq
      simp only [List.length_cons, T.dp]
      omega
    · obtain ⟨q, hq, rfl⟩ := List.mem_map.mp h
      have := T.places_deep r q hq
      simp only [List.length_cons, T.dp]
      omega
section
variable {P : Program} {w : World} {K : PySem.W.Frag} {mg : Str → Option Value} {base : Heap} {G : List Addr} {f : Addr} {fd : FuncData}
theorem cl_variables (D : DefF K mg base G "variables" s_variables ["term"] f fd) (iv : IV P w K mg base G) (m : mg "tuple" = none) (m2 : mg "sorted" = none) : ∀ n, Cl0 P w K mg base (2 * n + 2) "variables" (spA G K (R_vars n))
  | 0 => (D.none fun as d ⟨t, _, _, h, _⟩ => Nat.not_lt_zero _ h).mono (Nat.zero_le _)
  | n + 1 => by
    have ih := cl_variables D iv m m2 n
    refine D.cl (k := 2 * n + 3) sc_variables (fun ds d r => by obtain ⟨t, rfl, _⟩ := r; rfl) fun c Pt A outer s H vs ds d Q E TB hP hr tG hv r q => ?_
    refine ⟨_, pss_cons (ps_if (pt_val (pe_cl iv (hr.mono (by omega)) rfl (pa_cons (pv 0) pa_nil))) (pss_one (ps_ret (pe_tup (pa_cons (pv 0) pa_nil)))) pss_nil)
      (pss_one (ps_ret (pe_callTy call_tuple_of (by rfl) m (by decide +kernel) (pa_cons (pe_callB (call_sortedD rfl) (by rfl) m2 (by decide +kernel) (pa_cons
        (pe_dc2 (own := [("part", 1), ("name", 2)]) (vs1 := [2]) (wi1 := iTup K (tCall (spA G K (R_vars n)) [] (fun _ _ _ => False) (tCons (tVar 1) tNil))) (g := gName 1) (g1 := gName 2) (tt := tYes) (tt1 := tYes) rfl sc_variables.nd (pi_tup (pe_ix ix_tup (pv 0) pe_int (fun _ _ => rfl))) (blkOk_by (N := ["term", "part", "name"]) (sc := defScope s_variables) (by decide +kernel)) (by decide)
          (fun _ _ _ _ _ => pg_name (i := 1) sc_variables.nd rfl (Or.inl rfl)) (fun _ _ _ _ _ => pts_nil) (fun _ _ _ _ _ => pi_tup (pe_cl ih (hr.mono (by omega)) rfl (pa_cons (pv 1) pa_nil)))
          (fun _ _ _ _ _ => pg_name (i := 2) sc_variables.nd rfl (Or.inl rfl)) (fun _ _ _ _ _ => pts_nil) (fun _ _ _ _ _ => pv 2) (fun _ _ _ _ _ => pe_bl)) pa_nil)) pa_nil)))), ?_⟩
    obtain ⟨t, rfl, o, hd, hl, rfl⟩ := r
    obtain ⟨v, rfl, rv⟩ := arA_one hv
    have v0 : ∀ {H'}, Ext G H H' → Ed G K (tVar 0) [some v, none, none] H' (enc t) := fun y => ed_var (tG.ext y) rfl (dp_ext y tG rv)
    refine s_ifR (edt_val (ed_iv tG o (v0 (Ext.refl G H)))) (fun h H' y => ?_) fun h H' y => ?_
    · refine s_ret (K := K) (ed_tup (tG.ext y) (ed_one (v0 y)) (by show 1 ≤ sizeLine; decide)) fun u H2 y2 ru => q u H2 (y.trans y2) ?_
      cases t with
      | v x => exact ru
      | c _ => cases h
      | u _ _ => cases h
      | b _ _ _ => cases h
    · have fl := t.flat_len
      have e : ((t.parts.map enc).flatMap fun d => (dec d).vars) = t.parts.flatMap T.vars := by rw [List.flatMap_map]; simp [dec_enc]
      refine s_ret (K := K) (ed_is (ed_cb (ed_one (ed_sortedD (tG.ext y) (c := fun _ => PyData.bool true) ?_ (edx_dc2 (ks := fun d => (dec d).vars) (tG.ext y) ?_ (ed_parts (tG.ext y) h (v0 y)) (by decide) (by decide) (by show 2 < 3; decide) fun d u H1 hd1 x1 t1 rp => ?_))) (rdc_tuple (tG.ext y))) ?_) fun u H2 y2 ru => q u H2 (y.trans y2) ru
      · have := ddS_len ((t.parts.map enc).flatMap fun d => (dec d).vars)
        rw [e] at this
        rw [e]
        omega
      · rw [e]
        exact Nat.lt_of_lt_of_le (Nat.lt_of_le_of_lt fl hl) (by decide)
      · obtain ⟨p, hp, rfl⟩ := List.mem_map.mp hd1
        rw [dec_enc]
        exact ea_call t1 (ea_one (edx_of (ed_var t1 rfl rp))) ⟨p, rfl, T.ok_parts o hp, by have := T.dp_parts hp; omega, by have := T.lv_parts hp; omega, rfl⟩
      · rw [e, ← T.vars_n h]
theorem cl_at (D : DefF K mg base G "at" s_at ["term", "place"] f fd) (iv : IV P w K mg base G) (m : mg "len" = none) : Cl0 P w K mg base 3 "at" (spA G K R_at) := by
  refine D.cl (k := 2) sc_at (fun ds d r => by obtain ⟨t, _, _, rfl, _⟩ := r; rfl) fun c Pt A outer s H vs ds d Q E TB hP hr tG hv r q => ?_
  refine ⟨_, pss_cons (ps_for PassesOwn.never rfl (pi_tup (pv 1)) (pg_name (i := 2) sc_at.nd rfl (Or.inl rfl)) (pss_cons (ps_if (PW.pt (pw_or (pt_val (pe_cl iv hr rfl (pa_cons (pv 0) pa_nil)))
      (pw_or1 (pt_not (pt_chain op_le op_lt pe_int (pv 2) (pe_callB call_len_seq (by rfl) m PySem.boot_len (pa_cons (pe_ix ix_tup (pv 0) pe_int (fun _ _ => rfl)) pa_nil))))))) (pss_one ps_never) pss_nil)
      (pss_one (ps_set (i := 0) sc_at.nd rfl (Or.inl rfl) (pe_ix ix_tup (pe_ix ix_tup (pv 0) pe_int (fun _ _ => rfl)) (pv 2) (fun _ _ => rfl))))))
    (pss_one (ps_ret (pv 0))), ?_⟩
  obtain ⟨t, r, p, rfl, o, ha, rfl⟩ := r
  obtain ⟨v, z, rfl, rv, rz⟩ := arA_two hv
  refine s_forTH (K := K) (ds := p.map fun (n : Nat) => PyData.int n) tG (ed_var tG rfl (show Dp K H z (encP p) from rz)) (fun i σ' H' => ∃ u a kk, σ' = [some u, some z, kk] ∧ Dp K H' u (enc a) ∧ a.ok ∧ a.at (p.drop i) = some r)
    (fun H1 y => ⟨v, t, none, rfl, dp_ext y tG rv, o, ha⟩) ?_ ?_
  · rintro i d kv σ' H' N hd ⟨u, a, kk, rfl, ru, oa, haa⟩ y rk t1 hN
    rw [List.getElem?_map] at hd
    obtain ⟨k, hk, rfl⟩ := Option.map_eq_some_iff.mp hd
    have ed : p.drop i = k :: p.drop (i + 1) := by
      obtain ⟨h1, h2⟩ := List.getElem?_eq_some_iff.mp hk
      rw [List.drop_eq_getElem_cons h1, h2]
    rw [ed] at haa
    obtain ⟨b, hb, hr2, hnv⟩ := T.at_cons haa
    have hkl : k < a.parts.length := (List.getElem?_eq_some_iff.mp hb).1
    have u0 : ∀ {H2}, Ext G H' H2 → Ed G K (tVar 0) [some u, some z, some kv] H2 (enc a) := fun y => ed_var (t1.ext y) rfl (dp_ext y t1 ru)
    have uk : ∀ {H2}, Ext G H' H2 → Ed G K (tVar 2) [some u, some z, some kv] H2 (.int k) := fun y => ed_var (t1.ext y) rfl (dp_ext y t1 rk)
    refine s_ifR (b := false) (edt_is (edt_or (edt_val (ed_iv t1 oa (u0 (Ext.refl G H')))) fun _ => edt_not (edt_test (ed_chain t1 ed_int (uk (Ext.refl G H')) rd_leI (ed_cb (ed_one (ed_parts t1 hnv (u0 (Ext.refl G H')))) rdc_len) rd_ltI))) ?_) (fun h => by cases h) fun _ H2 y2 => ?_
    · rw [hnv]
      have e1 : decide ((0 : Int) ≤ (k : Int)) = true := decide_eq_true (by omega)
      have e2 : decide ((k : Int) < ((a.parts.map enc).length : Nat)) = true := decide_eq_true (by rw [List.length_map]; omega)
      rw [e1, e2]
      rfl
    · refine s_set (K := K) (ed_op (t1.ext y2) (ed_parts (t1.ext y2) hnv (u0 y2)) (uk y2) (rd_ixT (d := enc b) (by omega) (by rw [Int.toNat_natCast, List.getElem?_map, hb]; rfl))) fun w H3 y3 rw_ => ?_
      exact hN _ H3 (y2.trans y3) ⟨w, b, some kv, rfl, rw_, T.ok_parts oa (List.mem_of_getElem? hb), hr2⟩
  · rintro σ' H' y ⟨u, a, kk, rfl, ru, oa, haa⟩
    rw [List.length_map, List.drop_length] at haa
    rw [T.at_nil] at haa
    have e := Option.some.inj haa
    refine s_ret (K := K) (ed_var (tG.ext y) rfl ru) fun w H3 y3 rw_ => q w H3 (y.trans y3) ?_
    rw [← e]
    exact rw_
theorem cl_places (D : DefF K mg base G "places" s_places ["term"] f fd) (iv : IV P w K mg base G) (m : mg "tuple" = none) (m2 : mg "enumerate" = none) : ∀ n, Cl0 P w K mg base (2 * n + 2) "places" (spA G K (R_places n))
  | 0 => (D.none fun as d ⟨t, _, _, h, _⟩ => Nat.not_lt_zero _ h).mono (Nat.zero_le _)
  | n + 1 => by
    have ih := cl_places D iv m m2 n
    refine D.cl (k := 2 * n + 3) sc_places (fun ds d r => by obtain ⟨t, rfl, _⟩ := r; rfl) fun c Pt A outer s H vs ds d Q E TB hP hr tG hv r q => ?_
    refine ⟨_, pss_cons (ps_if (pt_val (pe_cl iv (hr.mono (by omega)) rfl (pa_cons (pv 0) pa_nil))) (pss_one (ps_ret (pe_tup (pa_cons (pe_tup pa_nil) pa_nil)))) pss_nil)
      (pss_one (ps_ret (pe_op op_catA (pe_tup (pa_cons (pe_tup pa_nil) pa_nil)) (pe_callTy call_tuple_of (by rfl) m (by decide +kernel) (pa_cons
        (pe_lc2 (own := [("k", 1), ("part", 2), ("place", 3)]) (vs1 := [3]) (wi1 := iTup K (tCall (spA G K (R_places n)) [] (fun _ _ _ => False) (tCons (tVar 2) tNil))) (te := tOp (rCatA K) (tTup (tCons (tVar 1) tNil)) (tVar 3)) (g := gTup K 2 (gCons (gName 1) (gCons (gName 2) gNil))) (g1 := gName 3) (tt := tYes) (tt1 := tYes) rfl sc_places.nd (pi_enumT (by rfl) m2 (pa_cons (pe_ix ix_tup (pv 0) pe_int (fun _ _ => rfl)) pa_nil))
          (blkOk_by (N := ["term", "k", "part", "place"]) (sc := defScope s_places) (by decide +kernel)) (by decide)
          (fun _ _ _ _ _ => pg_tup rfl (pgs_cons (pg_name (i := 1) sc_places.nd rfl (Or.inl rfl)) (pgs_cons (pg_name (i := 2) sc_places.nd rfl (Or.inl rfl)) pgs_nil))) (fun _ _ _ _ _ => pts_nil) (fun _ _ _ _ _ => pi_tup (pe_cl ih (hr.mono (by omega)) rfl (pa_cons (pv 2) pa_nil)))
          (fun _ _ _ _ _ => pg_name (i := 3) sc_places.nd rfl (Or.inl rfl)) (fun _ _ _ _ _ => pts_nil) (fun _ _ _ _ _ => pe_op op_catA (pe_tup (pa_cons (pv 1) pa_nil)) (pv 3))) pa_nil))))), ?_⟩
    obtain ⟨t, rfl, o, hd, hn, rfl⟩ := r
    obtain ⟨v, rfl, rv⟩ := arA_one hv
    have v0 : ∀ {H'}, Ext G H H' → Ed G K (tVar 0) [some v, none, none, none] H' (enc t) := fun y => ed_var (tG.ext y) rfl (dp_ext y tG rv)
    refine s_ifR (edt_val (ed_iv tG o (v0 (Ext.refl G H)))) (fun h H' y => ?_) fun h H' y => ?_
    · refine s_ret (K := K) (ed_tup (tG.ext y) (ed_one (ed_tup (tG.ext y) ed_nil (by show 0 ≤ sizeLine; decide))) (by show 1 ≤ sizeLine; decide)) fun u H2 y2 ru => q u H2 (y.trans y2) ?_
      cases t with
      | v x => exact ru
      | c _ => cases h
      | u _ _ => cases h
      | b _ _ _ => cases h
    · have y3 := tG.ext y
      have bd : ∀ p ∈ t.parts, p.places.length < 100000 ∧ ∀ r ∈ p.places, r.length ≤ 12 := fun p hp => by
        have h1 := T.dp_parts hp
        refine ⟨?_, fun r hr => by have := T.places_deep p r hr; omega⟩
        rw [T.places_len]
        refine Nat.lt_of_lt_of_le (T.size_le p) (Nat.le_trans (Nat.pow_le_pow_right (by decide) (show p.dp + 1 ≤ 12 by omega)) (by decide))
      have hfl : (flatE (fun (n : Nat) d => ((dec d).places.map encP).map fun e => PyData.tuple ([PyData.int n] ++ tupD e)) 0 (t.parts.map enc)).length < 300000 := by
        have e1 : ([PyData.tuple []] ++ flatE (fun (n : Nat) d => ((dec d).places.map encP).map fun e => PyData.tuple ([PyData.int n] ++ tupD e)) 0 (t.parts.map enc)) = t.places.map encP := by
          have := T.places_n h
          injection this
        have e2 := congrArg List.length e1
        rw [List.length_append, List.length_map, T.places_len] at e2
        have e3 : t.size < 300000 := Nat.lt_of_lt_of_le (T.size_le t) (Nat.le_trans (Nat.pow_le_pow_right (by decide) (show t.dp + 1 ≤ 12 by omega)) (by decide))
        omega
      refine s_ret (K := K) (ed_is (ed_op y3 (ed_tup y3 (ed_one (ed_tup y3 ed_nil (by show 0 ≤ sizeLine; decide))) (by show 1 ≤ sizeLine; decide))
        (ed_cb (ed_one (ed_lc2E (ks := fun _ d => (dec d).places.map encP) (g := fun n _ e => PyData.tuple ([PyData.int (n : Nat)] ++ tupD e)) y3 (Nat.lt_of_lt_of_le hfl (by decide)) (ed_parts y3 h (v0 y)) (by decide) (by decide) (by decide) ?_ ?_ ?_)) (rdc_tuple y3)) (rd_catA y3 ?_)) (T.places_n h)) fun u H2 y2 ru => q u H2 (y.trans y2) ru
      · intro n d e _ he
        obtain ⟨p, _, rfl⟩ := List.mem_map.mp he
        have z : ∀ p : List Nat, PuA (p.map fun (n : Nat) => PyData.int n) = true := fun p => puA_all.mpr fun d hd => by
          obtain ⟨n, _, rfl⟩ := List.mem_map.mp hd
          rfl
        refine ⟨z p, ?_⟩
        exact z (n :: p)
      · intro n d u H1 hd1 x1 t1 rp
        rw [List.getElem?_map] at hd1
        obtain ⟨p, hp, rfl⟩ := Option.map_eq_some_iff.mp hd1
        have hp := List.mem_of_getElem? hp
        rw [dec_enc]
        exact ea_call t1 (ea_one (edx_of (ed_var t1 rfl rp))) ⟨p, rfl, T.ok_parts o hp, by have := T.dp_parts hp; omega, by omega, rfl⟩
      · intro n d e u w H1 hd1 he x1 t1 rp rw_
        rw [List.getElem?_map] at hd1
        obtain ⟨p, hp, rfl⟩ := Option.map_eq_some_iff.mp hd1
        have hp := List.mem_of_getElem? hp
        rw [dec_enc] at he
        obtain ⟨r, hr, rfl⟩ := List.mem_map.mp he
        refine ed_op t1 (ed_tup t1 (ed_one (ed_var t1 rfl (.int n))) (by show 1 ≤ sizeLine; decide)) (ed_var t1 rfl rw_) (rd_catA t1 ?_)
        have := (bd p hp).2 r hr
        show 1 + (r.map fun (n : Nat) => PyData.int n).length ≤ sizeLine
        rw [List.length_map]
        exact Nat.le_trans (show 1 + r.length ≤ 100 by omega) (by decide)
      · exact Nat.le_trans (show 1 + _ ≤ 300001 by omega) (by decide)
end
end Rh
set_option Elab.async false
set_option linter.all false
set_option maxRecDepth 100000
set_option maxHeartbeats 2000000
namespace Dl
open PySem PySem.Spec PyProof.Rows L2 GxR Gx
theorem log2_mono {m n : Nat} (h : m ≤ n) : m.log2 ≤ n.log2 := by
  by_cases hm : m = 0
  · subst hm; simp
  · exact (Nat.le_log2 (by omega)).mpr (Nat.le_trans (Nat.log2_self_le hm) h)
/-- * of two factors of any size that a script can tell -/
def CMulB (i j : Int) : Prop := i.natAbs.log2 + j.natAbs.log2 < 100000000
theorem CMulB.ok {i j : Int} (h : CMulB i j) : IntMulOk i j := by
  have b : ∀ x : Int, Builtin.Int.intBits x ≤ x.natAbs.log2 + 1 := fun x => by
    unfold Builtin.Int.intBits
    split <;> omega
  have h1 := b i
  have h2 := b j
  have h3 : i.natAbs.log2 + j.natAbs.log2 < 100000000 := h
  have e : bitsLine = 134217728 := by decide
  unfold IntMulOk
  intro z
  rw [Bool.and_eq_true] at z
  have z2 := z.2
  unfold Builtin.Int.intTooBig at z2
  have z3 := of_decide_eq_true z2
  rw [e] at z3
  omega
theorem op_mulB {X : Cx} : OpR X (binaryOp .Mult) (rI CMulB fun i j => .int (i * j)) := opI fun _ _ _ _ _ _ _ hc q => mul_int q hc.ok
section
variable {P : Program} {w : World} {K : PySem.W.Frag} {mg : Str → Option Value} {base : Heap} {G : List Addr}
theorem DefF.clS {x : Str} {st : Stmt} {f : Addr} {fd : FuncData} {N ps : List Str} {k : Nat} {sp : Sp} (D : DefF K mg base G x st ps f fd) (S : FnScope N ps (defScope st)) (len : ∀ vs H Q E, sp vs H Q E → vs.length = ps.length)
    (hbody : ∀ (c Pt : Addr) (A : Around) (outer : List Env) (s : Shared) (H : Hp) (vs : List V) (Q : VK) (E : XK), TabB base mg c Pt → Pt ∈ G → Room k (A.deeper (envOfC x (defScope st) s.heap.objs.size f (.ref c))) → sp vs H Q E →
      ∃ t, PSs (cxOf CX0 P w K mg base N x (defScope st) f (.ref c) A outer s H E).nox (defBody st) t ∧ t { nx := fun _ H' => Q .non H', rt := Q } (start N vs) H) : Cl0 P w K mg base (k + 1) x sp := by
  obtain ⟨c, Pt, F, TB, hP⟩ := D.cP
  refine ⟨f, fd, ps, ?_, D.m, F.kp, D.b⟩
  obtain ⟨oc, od, kV, doc, pm, an, ct, osl, rfl, lk, hcd⟩ := F.ex
  refine fn_of lk hcd S len fun A outer s H vs Q E hr hsp => ?_
  obtain ⟨t, h, q⟩ := hbody c Pt A outer s H vs Q E TB hP hr hsp
  exact ⟨t, h.nox, q⟩
theorem _root_.Dl.DefF.noneS {x : Str} {st : Stmt} {ps : List Str} {f : Addr} {fd : FuncData} {sp : Sp} (D : DefF K mg base G x st ps f fd) (h : ∀ vs H Q E, ¬ sp vs H Q E) : Cl0 P w K mg base 0 x sp := by
  obtain ⟨c, Pt, F, TB, hP⟩ := D.cP
  exact ⟨f, fd, ps, ⟨fun vs H Q E z => absurd z (h _ _ _ _), fun A outer s H args us vs Q E _ _ _ _ z => absurd z (h _ _ _ _)⟩, D.m, F.kp, D.b⟩
end
/-- a dice: a list of three numbers -/
def DiceAt (n : Nat) (H : Hp) (D : Addr) : Prop := ∃ a b c : Int, H D = some (.lst [.int a, .int b, .int c]) ∧ a.natAbs.log2 < 2000000 ∧ 0 ≤ b ∧ b ≤ n
section
variable {G : List Addr} {K : PySem.W.Frag} {σ : L2.St} {H H' H1 : Hp} {D : Addr}
theorem Ext.wide (x : Ext G H H') : Ext (D :: G) H H' := ⟨fun a n o e => x.keep a (fun z => n (List.mem_cons_of_mem _ z)) o e, fun P hP t => by
  by_cases h : P ∈ G
  · exact x.tab P h t
  · obtain ⟨ps, e, z⟩ := t
    exact ⟨ps, x.keep P h _ e, z⟩⟩
theorem Ext.setD {xs : List V} {o : HO} (x : Ext (D :: G) H H1) (h : H1 D = some (.lst xs)) : Ext (D :: G) H (upd H1 D o) := ⟨fun a n o' e => by
  rw [upd_ne (fun z => n (by rw [z]; exact List.mem_cons_self))]
  exact x.keep a n o' e, fun P hP t => by
  have t1 := x.tab P hP t
  obtain ⟨ps, e, z⟩ := t1
  have ne : P ≠ D := fun q => by rw [q, h] at e; cases e
  exact ⟨ps, by rw [upd_ne ne]; exact e, z⟩⟩
theorem TabsG.wide (t : TabsG G H) (x : Ext (D :: G) H H') : TabsG G H' := fun P hP => x.tab P (List.mem_cons_of_mem _ hP) (t P hP)
theorem Ext.sqTD (x : Ext (D :: G) H H') (t : TabsG G H) {l : List V} (hD : H D = some (.lst l)) {a : Addr} {xs : List V} (h : SqT K H a xs) : SqT K H' a xs := by
  rcases h with h | h
  · refine .inl ?_
    have ne : ∀ {o}, H a = some o → o ≠ .lst l → (∀ ps, o ≠ .tbl ps) → H' a = some o := fun e n1 n2 => x.keep a (fun z => by
      rcases List.mem_cons.mp z with z | z
      · rw [z, hD] at e
        exact n1 (Option.some.inj e).symm
      · exact notTab t e n2 z) _ e
    rcases h with h | ⟨o, h⟩
    · exact .inl (ne h (fun z => by cases z) (fun ps z => by cases z))
    · exact .inr ⟨o, ne h (fun z => by cases z) (fun ps z => by cases z)⟩
  · exact .inr h
theorem dp_extD (x : Ext (D :: G) H H') (t : TabsG G H) {l : List V} (hD : H D = some (.lst l)) {v : V} {d : PyData} (hp : Pu d = true) (h : Dp K H v d) : Dp K H' v d := dp_tups (fun _ _ q => x.sqTD t hD q) hp h
theorem dkR_D (x : Ext (D :: G) H H') (t : TabsG G H) {l : List V} (hD : H D = some (.lst l)) : ∀ {ks : List (Key × V)} {es : List (Key × PyData)}, (∀ e ∈ es, Pu e.2 = true) → DkR K H ks es → DkR K H' ks es
  | _, _, _, .nil => .nil
  | _, _, hp, .cons a r => .cons (dp_extD x t hD (hp _ List.mem_cons_self) a) (dkR_D x t hD (fun e he => hp e (List.mem_cons_of_mem _ he)) r)
theorem ar_extD (x : Ext (D :: G) H H') (t : TabsG G H) {l : List V} (hD : H D = some (.lst l)) {v : V} {es : List (Key × PyData)} (hp : ∀ e ∈ es, Pu e.2 = true) : ArR K H v (.k es) → ArR K H' v (.k es) := fun ⟨a, kvs, e, h, r⟩ =>
  ⟨a, kvs, e, x.keep a (fun z => by
    rcases List.mem_cons.mp z with z | z
    · rw [z, hD] at h
      cases h
    · exact notTab t h (fun ps z => by cases z) z) _ h, dkR_D x t hD hp r⟩
theorem rdIx {xs : List V} {i : Int} {j : Nat} {v : V} {Q : VK} (h : σ[j]? = some (some (.ref D))) (hD : H D = some (.lst xs)) (hi : 0 ≤ i) (hx : xs[i.toNat]? = some v) (q : Q v H) : tOp (rIxL K) (tVar j) (tC (.int i)) σ H Q :=
  ⟨.ref D, h, D, xs, i, v, rfl, rfl, SqL.of hD, atI_get hi hx, q⟩
theorem s_retL {tA : TA} {ds : List PyData} {En : Ends} (tG : TabsG G H) (h : EdA G K tA σ H ds) (hl : ds.length ≤ sizeLine) (q : ∀ vs p H', Ext G H H' → DpAll K H' vs ds → H p = none → H' p = none → En.rt (.ref p) (upd H' p (.lst vs))) : tRet (tLst tA) En σ H :=
  h H (Ext.refl G H) _ fun vs H2 x2 rs => ⟨by rw [dpA_len rs]; exact hl, fun p hp => q vs p H2 x2 rs (x2.fresh tG hp) hp⟩
theorem rd_modN {i j : Int} (hj : j ≠ 0) : Rd2 G K (rI (fun _ j => j ≠ 0) fun i j => .int (i.fmod j)) (.int i) (.int j) (.int (i.fmod j)) H := fun H1 _ v u rv ru Q q => by
  rw [dp_int rv, dp_int ru]
  exact ⟨i, j, rfl, rfl, hj, q _ H1 (Ext.refl G H1) (.int _)⟩
theorem rd_pow {i j : Int} (h : CPow i j) : Rd2 G K (rI CPow fun i j => .int (i ^ j.toNat)) (.int i) (.int j) (.int (i ^ j.toNat)) H := fun H1 _ v u rv ru Q q => by
  rw [dp_int rv, dp_int ru]
  exact ⟨i, j, rfl, rfl, h, q _ H1 (Ext.refl G H1) (.int _)⟩
theorem rdc_intI {i : Int} : RdC G K (fun xs H Q => (∃ i, xs = [.int i] ∧ Q (.int i) H) ∨ ∃ k, xs = [.bl k] ∧ Q (.int (if k then 1 else 0)) H) [.int i] (.int i) H := fun H1 x vs rs Q q => by
  obtain ⟨v, rfl, rv⟩ := dpA_one rs
  exact .inl ⟨i, by rw [dp_int rv], q _ H1 (Ext.refl G H1) (.int _)⟩
theorem rd_fdivN {i j : Int} (hj : CDivN i j) : Rd2 G K (rI CDivN fun i j => .int (i.fdiv j)) (.int i) (.int j) (.int (i.fdiv j)) H := fun H1 _ v u rv ru Q q => by
  rw [dp_int rv, dp_int ru]
  exact ⟨i, j, rfl, rfl, hj, q _ H1 (Ext.refl G H1) (.int _)⟩
theorem rd_mulB {i j : Int} (hj : CMulB i j) : Rd2 G K (rI CMulB fun i j => .int (i * j)) (.int i) (.int j) (.int (i * j)) H := fun H1 _ v u rv ru Q q => by
  rw [dp_int rv, dp_int ru]
  exact ⟨i, j, rfl, rfl, hj, q _ H1 (Ext.refl G H1) (.int _)⟩
theorem rd_mul {i j : Int} (hj : CMul i j) : Rd2 G K (rI CMul fun i j => .int (i * j)) (.int i) (.int j) (.int (i * j)) H := fun H1 _ v u rv ru Q q => by
  rw [dp_int rv, dp_int ru]
  exact ⟨i, j, rfl, rfl, hj, q _ H1 (Ext.refl G H1) (.int _)⟩
theorem ed_ixD {xs : List V} {j : Nat} {i : Int} {a : Int} (tG : TabsG G H) (h : σ[j]? = some (some (.ref D))) (hD : H D = some (.lst xs)) (hi : 0 ≤ i) (hx : xs[i.toNat]? = some (.int a)) : Ed G K (tOp (rIxL K) (tVar j) (tC (.int i))) σ H (.int a) :=
  fun H1 x Q q => rdIx h (x.at tG hD (fun ps z => by cases z)) hi hx (q _ H1 (Ext.refl G H1) (.int _))
theorem s_setD {te : TE} {xs : List V} {j i : Nat} {k : Int} {e : Int} {En : Ends} (tG : TabsG G H) (h : Ed G K te σ H (.int e)) (hs : σ[j]? = some (some (.ref D))) (hD : H D = some (.lst xs)) (hj : ixN xs.length k = some i)
    (q : ∀ H1, Ext G H H1 → H1 D = some (.lst xs) → En.nx σ (upd H1 D (.lst (xs.set i (.int e))))) : tAsg te (gSub (tVar j) (tC (.int k)) rSetL) En σ H := h H (Ext.refl G H) _ fun v H2 x2 rv => by
  rw [dp_int rv]
  have e2 := x2.at tG hD (fun ps z => by cases z)
  exact ⟨.ref D, hs, D, xs, k, i, rfl, rfl, e2, hj, q H2 x2 e2⟩
theorem rdc_abs {i : Int} : RdC G K (fun xs H Q => ∃ i, xs = [.int i] ∧ Q (.int (if i < 0 then -i else i)) H) [.int i] (.int (if i < 0 then -i else i)) H := fun H1 x vs rs Q q => by
  obtain ⟨v, rfl, rv⟩ := dpA_one rs
  exact ⟨i, by rw [dp_int rv], q _ H1 (Ext.refl G H1) (.int _)⟩
end
end Dl
namespace Rh
open PySem PySem.Spec PyProof.Rows L2 GxR Gx Dl
theorem sc_dice : FnScope ["cell"] ["cell"] (defScope s_dice) := ⟨rfl, rfl, rfl, by decide +kernel, rfl, by decide +kernel, by decide +kernel⟩
theorem sc_roll : FnScope ["dice", "many", "found"] ["dice", "many"] (defScope s_roll) := ⟨rfl, rfl, rfl, by decide +kernel, rfl, by decide +kernel, by decide +kernel⟩
def spDice (G : List Addr) : Sp := fun vs H Q _ => TabsG G H ∧ ∃ c : Int, vs = [.int c] ∧ c.natAbs.log2 < 2000000 ∧ ∀ p H', Ext G H H' → H p = none → DiceAt 1100 H' p → Q (.ref p) H'
def spRoll (G : List Addr) : Sp := fun vs H Q _ => TabsG G H ∧ ∃ (D : Addr) (m n : Nat), vs = [.ref D, .int m] ∧ 0 < m ∧ m < 1000000 ∧ n < 1000000000 ∧ DiceAt n H D ∧ ∀ (r : Nat) H', r < m → Ext (D :: G) H H' → DiceAt (n + 1) H' D → Q (.int r) H'
section
variable {P : Program} {w : World} {K : PySem.W.Frag} {mg : Str → Option Value} {base : Heap} {G : List Addr} {f : Addr} {fd : FuncData}
theorem cl_dice (D : DefF K mg base G "_law_dice" s_dice ["cell"] f fd) (m1 : mg "abs" = none) (m2 : mg "int" = none) : Cl0 P w K mg base 1 "_law_dice" (spDice G) := by
  refine D.clS (k := 0) sc_dice (fun vs H Q E h => by obtain ⟨_, _, rfl, _⟩ := h; rfl) fun c Pt A outer s H vs Q E TB hP hr h => ?_
  refine ⟨_, pss_cons (ps_if (pt_chain op_lt op_lt (pe_op op_sub pe_int pe_int) (pv 0) pe_int) (pss_one (ps_ret (pe_lst (pa_cons (pe_callB call_abs (by rfl) m1 (by decide +kernel) (pa_cons (pv 0) pa_nil)) (pa_cons pe_int (pa_cons pe_int pa_nil)))))) pss_nil)
    (pss_one (ps_ret (pe_lst (pa_cons (pv 0) (pa_cons (pe_op op_add pe_int (pe_op op_modN (pe_callTy call_int1 (by rfl) m2 (by decide +kernel) (pa_cons (pv 0) pa_nil)) pe_int))
      (pa_cons (pe_callTy call_int1 (by rfl) m2 (by decide +kernel) (pa_cons (pe_cmpR op_ge (pv 0) (pe_op op_pow pe_int pe_int) (nomark _)) pa_nil)) pa_nil)))))), ?_⟩
  obtain ⟨tG, z, rfl, hz, q⟩ := h
  have v0 : ∀ {H'}, Ext G H H' → Ed G K (tVar 0) [some (.int z)] H' (.int z) := fun y => ed_var (tG.ext y) rfl (.int z)
  have rf := Ext.refl G H
  refine s_ifR (edt_test (ed_chain tG (ed_op tG ed_int ed_int rd_sub) (v0 rf) rd_ltI ed_int rd_ltI)) (fun h H2 y => ?_) fun h H2 y => ?_
  · have t2 := tG.ext y
    refine s_retL (K := K) t2 (ed_cons t2 (ed_cb (ed_one (v0 y)) rdc_abs) (ed_cons t2 ed_int (ed_one ed_int))) (by show 3 ≤ sizeLine; decide) fun vs p H3 y3 rs hp hp3 => ?_
    obtain ⟨w1, w2, w3, rfl, r1, r2, r3⟩ := dpA_three rs
    rw [dp_int r1, dp_int r2, dp_int r3]
    refine q p _ ((y.trans y3).trans (Ext.new hp3)) (y.fresh tG hp) ⟨_, _, _, upd_same, ?_, by decide, by decide⟩
    split
    · rw [Int.natAbs_neg]; exact hz
    · exact hz
  · have t2 := tG.ext y
    refine s_retL (K := K) t2 (ed_cons t2 (v0 y) (ed_cons t2 (ed_op t2 ed_int (ed_op t2 (ed_cb (ed_one (v0 y)) rdc_intI) ed_int (rd_modN (by decide))) rd_add) (ed_one (ed_cb (ed_one (ed_op t2 (v0 y) (ed_op t2 ed_int ed_int (rd_pow ⟨by decide, by decide, by decide⟩)) rd_geI)) rdc_int)))) (by show 3 ≤ sizeLine; decide) fun vs p H3 y3 rs hp hp3 => ?_
    obtain ⟨w1, w2, w3, rfl, r1, r2, r3⟩ := dpA_three rs
    rw [dp_int r1, dp_int r2, dp_int r3]
    refine q p _ ((y.trans y3).trans (Ext.new hp3)) (y.fresh tG hp) ⟨_, _, _, upd_same, hz, ?_, ?_⟩
    · rw [Int.fmod_eq_emod_of_nonneg _ (by decide)]; omega
    · rw [Int.fmod_eq_emod_of_nonneg _ (by decide)]; omega
theorem cl_roll (D : DefF K mg base G "_law_roll" s_roll ["dice", "many"] f fd) (m2 : mg "int" = none) : Cl0 P w K mg base 1 "_law_roll" (spRoll G) := by
  refine D.clS (k := 0) sc_roll (fun vs H Q E h => by obtain ⟨_, _, _, _, rfl, _⟩ := h; rfl) fun c Pt A outer s H vs Q E TB hP hr h => ?_
  refine ⟨_, pss_cons (ps_if (PW.pt (pw_or (pt_cmpR op_eq (pe_ix ix_list (pv 0) pe_int (fun _ _ => rfl)) pe_int (nomark _)) (pw_or1 (PW.pt (pw_and (pt_cmpR op_eq (pe_ix ix_list (pv 0) pe_int (fun _ _ => rfl)) pe_int (nomark _)) (pw_and1 (pt_cmpR op_gt (pe_ix ix_list (pv 0) pe_int (fun _ _ => rfl)) pe_int (nomark _))))))))
      (pss_cons (ps_set (i := 2) sc_roll.nd rfl (Or.inl rfl) (pe_op op_modN (pe_callTy call_int1 (by rfl) m2 (by decide +kernel) (pa_cons (pe_ix ix_list (pv 0) pe_int (fun _ _ => rfl)) pa_nil)) (pv 1)))
      (pss_cons (ps_asg (pe_op op_fdivN (pe_ix ix_list (pv 0) pe_int (fun _ _ => rfl)) (pv 1)) (pg_sub (pv 0) pe_int set_list)) (pss_one (ps_ret (pv 2))))) pss_nil)
    (pss_cons (ps_asg pe_int (pg_sub (pv 0) pe_int set_list))
    (pss_cons (ps_asg (pe_op op_modN (pe_callTy call_int1 (by rfl) m2 (by decide +kernel) (pa_cons (pe_op op_add (pe_op op_add (pe_op op_mulB (pe_ix ix_list (pv 0) pe_int (fun _ _ => rfl)) pe_int) (pe_op op_mul (pe_ix ix_list (pv 0) pe_int (fun _ _ => rfl)) pe_int)) pe_int) pa_nil)) pe_int) (pg_sub (pv 0) pe_int set_list))
    (pss_cons (ps_asg (pe_op op_add (pe_ix ix_list (pv 0) pe_int (fun _ _ => rfl)) pe_int) (pg_sub (pv 0) pe_int set_list))
    (pss_one (ps_ret (pe_op op_modN (pe_callTy call_int1 (by rfl) m2 (by decide +kernel) (pa_cons (pe_op op_add (pe_op op_fdivN (pe_ix ix_list (pv 0) pe_int (fun _ _ => rfl)) pe_int) (pe_ix ix_list (pv 0) pe_int (fun _ _ => rfl))) pa_nil)) (pv 1))))))), ?_⟩
  obtain ⟨tG, D, m, n, rfl, hm, hm2, hn, ⟨a, b, z, hD, ha, hb, hb2⟩, q⟩ := h
  have rf := Ext.refl G H
  have ix : ∀ {H' : Hp} {c0 : Option V} {x y u e : Int} {i : Int}, TabsG G H' → H' D = some (.lst [.int x, .int y, .int u]) → 0 ≤ i → [V.int x, V.int y, V.int u][i.toNat]? = some (.int e) → Ed G K (tOp (rIxL K) (tVar 0) (tC (.int i))) [some (.ref D), some (.int m), c0] H' (.int e) :=
    fun t h h0 hx => ed_ixD t rfl h h0 hx
  have v1 : ∀ {H' : Hp} {c0 : Option V}, TabsG G H' → Ed G K (tVar 1) [some (.ref D), some (.int m), c0] H' (.int m) := fun t => ed_var t rfl (.int _)
  have hmn : ((m : Int)) ≠ 0 := by omega
  have fm : ∀ i : Int, ∃ r : Nat, r < m ∧ i.fmod m = r := fun i => by
    rw [Int.fmod_eq_emod_of_nonneg _ (by omega)]
    have h1 := Int.emod_nonneg i hmn
    have h2 := Int.emod_lt_of_pos i (show (0 : Int) < m by omega)
    exact ⟨(i % m).toNat, by omega, by omega⟩
  refine s_ifR (edt_or (edt_test (ed_op tG (ix tG hD (by decide) rfl) ed_int rd_eqI)) fun _ => edt_and (edt_test (ed_op tG (ix tG hD (by decide) rfl) ed_int rd_eqI)) fun _ => edt_test (ed_op tG (ix tG hD (by decide) rfl) ed_int rd_gtI)) (fun _ H2 y => ?_) fun _ H2 y => ?_
  · have t2 := tG.ext y
    have d2 := y.at tG hD (fun ps z => by cases z)
    refine s_set (K := K) (ed_op t2 (ed_cb (ed_one (ix t2 d2 (by decide) rfl)) rdc_intI) (v1 t2) (rd_modN hmn)) fun v H3 y3 rv => ?_
    obtain ⟨r, hr1, hr2⟩ := fm a
    have t3 := t2.ext y3
    have d3 := y3.at t2 d2 (fun ps z => by cases z)
    rw [dp_int rv, hr2]
    refine s_setD (K := K) t3 (ed_op t3 (ix t3 d3 (by decide) rfl) (v1 t3) (rd_fdivN ⟨hmn, by omega⟩)) rfl d3 rfl fun H4 y4 d4 => ?_
    have y5 := (y.trans y3).trans y4
    refine ⟨.int r, rfl, q r _ hr1 (Ext.setD (y5.wide) d4) ⟨_, _, _, upd_same, ?_, hb, by omega⟩⟩
    refine Nat.lt_of_le_of_lt (log2_mono ?_) ha
    exact Int.natAbs_fdiv_le_natAbs a m
  · have t2 := tG.ext y
    have d2 := y.at tG hD (fun ps z => by cases z)
    refine s_setD (K := K) t2 ed_int rfl d2 rfl fun H3 y3 d3 => ?_
    have x3 : Ext (D :: G) H (upd H3 D (.lst [.int a, .int b, .int 0])) := Ext.setD ((y.trans y3).wide) d3
    have t3 := tG.wide x3
    have e3 : (upd H3 D (.lst [.int a, .int b, .int 0])) D = some (.lst [.int a, .int b, .int 0]) := upd_same
    refine s_setD (K := K) (e := (a * 48271 + b * 69621 + 11).fmod 2147483647) t3 (ed_op t3 (ed_cb (ed_one (ed_op t3 (ed_op t3 (ed_op t3 (ix t3 e3 (by decide) rfl) ed_int (rd_mulB ?_)) (ed_op t3 (ix t3 e3 (by decide) rfl) ed_int (rd_mul (.inl ⟨by omega, by omega⟩))) rd_add) ed_int rd_add)) rdc_intI) ed_int (rd_modN (by decide))) rfl e3 rfl fun H4 y4 d4 => ?_
    · have : (48271 : Int).natAbs.log2 < 100 := by decide
      unfold CMulB
      omega
    generalize ea : (a * 48271 + b * 69621 + 11).fmod 2147483647 = a' at *
    have ha' : 0 ≤ a' ∧ a' < 2147483647 := by
      rw [Int.fmod_eq_emod_of_nonneg _ (by decide)] at ea
      omega
    have x4 : Ext (D :: G) H (upd H4 D (.lst [.int a', .int b, .int 0])) := Ext.setD (x3.trans y4.wide) d4
    have t4 := tG.wide x4
    have e4 : (upd H4 D (.lst [.int a', .int b, .int 0])) D = some (.lst [.int a', .int b, .int 0]) := upd_same
    refine s_setD (K := K) (e := b + 1) t4 (ed_op t4 (ix t4 e4 (by decide) rfl) ed_int rd_add) rfl e4 rfl fun H5 y5 d5 => ?_
    have x5 : Ext (D :: G) H (upd H5 D (.lst [.int a', .int (b + 1), .int 0])) := Ext.setD (x4.trans y5.wide) d5
    have t5 := tG.wide x5
    have e5 : (upd H5 D (.lst [.int a', .int (b + 1), .int 0])) D = some (.lst [.int a', .int (b + 1), .int 0]) := upd_same
    refine s_ret (K := K) (ed_op t5 (ed_cb (ed_one (ed_op t5 (ed_op t5 (ix t5 e5 (by decide) rfl) ed_int (rd_fdivN ⟨by decide, by decide⟩)) (ix t5 e5 (by decide) rfl) rd_add)) rdc_intI) (v1 t5) (rd_modN hmn)) fun v H6 y6 rv => ?_
    obtain ⟨r, hr1, hr2⟩ := fm (a'.fdiv 7 + a')
    rw [dp_int rv, hr2]
    refine q r H6 hr1 (x5.trans y6.wide) ⟨a', b + 1, 0, y6.at t5 e5 (fun ps z => by cases z), ?_, by omega, by omega⟩
    have e9 : a'.natAbs < 2 ^ 100 := by omega
    have := PySem.Flt.log2_lt_of (by decide) e9
    omega
end
end Rh

set_option Elab.async false
set_option linter.all false
set_option maxRecDepth 100000
set_option maxHeartbeats 2000000
namespace Dl
open PySem PySem.Spec PyProof.Rows L2 GxR Gx
section
variable {G : List Addr} {K : PySem.W.Frag} {H H' : Hp} {D : Addr}
theorem DiceAt.mono {n m : Nat} (d : DiceAt n H D) (h : n ≤ m) : DiceAt m H D := by
  obtain ⟨a, b, c, e, h1, h2, h3⟩ := d
  exact ⟨a, b, c, e, h1, h2, by omega⟩
theorem DiceAt.ext {n : Nat} (d : DiceAt n H D) (t : TabsG G H) (x : Ext G H H') : DiceAt n H' D := by
  obtain ⟨a, b, c, e, h⟩ := d
  exact ⟨a, b, c, x.at t e (fun ps z => by cases z), h⟩
theorem DiceAt.new {n : Nat} (d : DiceAt n H D) : ∃ l, H D = some (.lst l) := by
  obtain ⟨a, b, c, e, h⟩ := d
  exact ⟨_, e⟩
theorem DiceAt.upd {n : Nat} {p : Addr} {o : HO} (d : DiceAt n H D) (h : D ≠ p) : DiceAt n (upd H p o) D := by
  obtain ⟨a, b, c, e, z⟩ := d
  exact ⟨a, b, c, by rw [upd_ne h]; exact e, z⟩
theorem dp_lstD (x : Ext (D :: G) H H') (t : TabsG G H) {l : List V} (hD : H D = some (.lst l)) {a : Addr} {ds : List PyData} (ha : a ≠ D) (hp : PuA ds = true) (h : Dp K H (.ref a) (.list ds)) : Dp K H' (.ref a) (.list ds) := by
  cases h with
  | lst h r =>
    have k : ∀ o, H a = some o → (∀ ps, o ≠ .tbl ps) → H' a = some o := fun o e n => x.keep a (fun z => by
      rcases List.mem_cons.mp z with z | z
      · exact ha z
      · exact notTab t e n z) o e
    refine .lst ?_ (dpA_tups (fun _ _ q => x.sqTD t hD q) hp r)
    rcases h with h | h
    · refine .inl ?_
      rcases h with h | ⟨o, h⟩
      · exact .inl (k _ h (fun ps z => by cases z))
      · exact .inr ⟨o, k _ h (fun ps z => by cases z)⟩
    · exact .inr h
theorem tcall1 {σ : L2.St} {sp : Sp} {te : TE} {v : V} {Q : VK} {E : XK} (h1 : ∀ Q : VK, Q v H → te σ H Q) (h : sp [v] H Q E) : tCall sp [] E (tCons te tNil) σ H Q := h1 _ (show sp ([v] ++ []) H Q E from h)
theorem tcall2 {σ : L2.St} {sp : Sp} {te tf : TE} {v u : V} {Q : VK} {E : XK} (h1 : ∀ Q : VK, Q v H → te σ H Q) (h2 : ∀ Q : VK, Q u H → tf σ H Q) (h : sp [v, u] H Q E) : tCall sp [] E (tCons te (tCons tf tNil)) σ H Q := h1 _ (h2 _ (show sp ([v, u] ++ []) H Q E from h))
theorem tcall3 {σ : L2.St} {sp : Sp} {te tf tg : TE} {v u w : V} {Q : VK} {E : XK} (h1 : ∀ Q : VK, Q v H → te σ H Q) (h2 : ∀ Q : VK, Q u H → tf σ H Q) (h3 : ∀ Q : VK, Q w H → tg σ H Q) (h : sp [v, u, w] H Q E) : tCall sp [] E (tCons te (tCons tf (tCons tg tNil))) σ H Q := h1 _ (h2 _ (h3 _ (show sp ([v, u, w] ++ []) H Q E from h)))
theorem dpA_strsInv : ∀ {vs : List V} {xs : List Str}, DpAll K H vs (xs.map PyData.str) → vs = xs.map V.str
  | _, [], .nil => rfl
  | _, _ :: _, .cons a r => by
    rw [dp_str a, dpA_strsInv r]
    rfl
theorem puA_strs (xs : List Str) : PuA (xs.map PyData.str) = true := puA_all.mpr fun d hd => by
  obtain ⟨x, _, rfl⟩ := List.mem_map.mp hd
  rfl
end
end Dl
namespace Rh
open PySem PySem.Spec PyProof.Rows L2 GxR Gx Dl
theorem sc_rounds : FnScope ["script", "most", "cells", "cell"] ["script", "most"] (defScope s_rounds) := ⟨rfl, rfl, rfl, by decide +kernel, rfl, by decide +kernel, by decide +kernel⟩
def T.drawn (xs : List Str) : T → Prop
  | .v x => x ∈ xs
  | .c s => s = Str.ofString "a" ∨ s = Str.ofString "b"
  | .u s t => s = Str.ofString "g" ∧ t.drawn xs
  | .b s t r => s = Str.ofString "f" ∧ t.drawn xs ∧ r.drawn xs
def cst : Nat → Nat
  | 0 => 2
  | d + 1 => 2 * cst d + 2
def spTerm (G : List Addr) (K : PySem.W.Frag) (k : Nat) : Sp := fun vs H Q _ => TabsG G H ∧ ∃ (D Nm : Addr) (d n : Nat) (xs : List Str), vs = [.ref D, .int d, .ref Nm] ∧ d < k ∧ k < 100 ∧ n + cst d < 1000000000 ∧ DiceAt n H D ∧ Nm ≠ D ∧ Dp K H (.ref Nm) (.list (xs.map PyData.str)) ∧ xs.length ≤ 10 ∧
  ∀ v H' t, Ext (D :: G) H H' → DiceAt (n + cst d) H' D → Dp K H' v (enc t) → t.dp ≤ d → t.drawn xs → Q v H'
def spRounds (G : List Addr) (K : PySem.W.Frag) : Sp := fun vs H Q _ => TabsG G H ∧ ∃ (S : Addr) (ns : List Int), vs = [.ref S, .int 3] ∧ SqL K H S (ns.map V.int) ∧ ns.length ≤ 63 ∧ (∀ z ∈ ns, z.natAbs.log2 < 2000000) ∧
  ∀ (L : Addr) (ps : List Addr) (H' : Hp), Ext G H H' → H' L = some (.lst (ps.map V.ref)) → ps.Nodup → (∀ p ∈ ps, DiceAt 1100 H' p) → Q (.ref L) H'
theorem dpA_ints {K : PySem.W.Frag} {H : Hp} : ∀ ns : List Int, DpAll K H (ns.map V.int) (ns.map PyData.int)
  | [] => .nil
  | _ :: r => .cons (.int _) (dpA_ints r)
section
variable {P : Program} {w : World} {K : PySem.W.Frag} {mg : Str → Option Value} {base : Heap} {G : List Addr} {f : Addr} {fd : FuncData}
theorem cl_rounds (D : DefF K mg base G "_law_rounds" s_rounds ["script", "most"] f fd) (di : Cl0 P w K mg base 1 "_law_dice" (spDice G)) : Cl0 P w K mg base 2 "_law_rounds" (spRounds G K) := by
  refine D.clS (k := 1) sc_rounds (fun vs H Q E h => by obtain ⟨_, _, _, rfl, _⟩ := h; rfl) fun c Pt A outer s H vs Q E TB hP hr h => ?_
  refine ⟨_, pss_cons (ps_set (i := 2) sc_rounds.nd rfl (Or.inl rfl) (pe_slice sl_list (pv 0) po_none (po_some (pv 1))))
    (pss_cons (ps_if (pt_cmpR (op_eqD hr.units) (pv 2) (pe_lst pa_nil) (nomark _)) (pss_one (ps_set (i := 2) sc_rounds.nd rfl (Or.inl rfl) (pe_lst (pa_cons pe_int pa_nil)))) pss_nil)
    (pss_one (ps_ret (pe_lc (own := [("cell", 3)]) (g := gName 3) (tt := tYes) rfl sc_rounds.nd (pi_list (pv 2)) (blkOk_by (N := ["script", "most", "cells", "cell"]) (sc := defScope s_rounds) (by decide +kernel))
      (fun _ _ _ _ _ => pg_name (i := 3) sc_rounds.nd rfl (Or.inl rfl)) (fun _ _ _ _ _ => pts_nil) (fun _ _ _ _ _ => pe_cl di hr rfl (pa_cons (pv 3) pa_nil)))))), ?_⟩
  obtain ⟨tG, S, ns, rfl, hS, h63, hb, q⟩ := h
  refine ⟨.ref S, rfl, .int 3, rfl, 3, rfl, S, _, rfl, hS, fun p hp => ?_⟩
  generalize ecu : cutV (ns.map V.int) none (some 3) = cu
  obtain ⟨ms, rfl, hm63, hmb⟩ : ∃ ms : List Int, cu = ms.map V.int ∧ ms.length ≤ 63 ∧ ∀ z ∈ ms, z.natAbs.log2 < 2000000 := by
    rw [← ecu]
    unfold cutV
    refine ⟨(ns.drop _).take _, by rw [← List.map_drop, ← List.map_take], ?_, fun z hz => hb z (List.mem_of_mem_drop (List.mem_of_mem_take hz))⟩
    rw [List.length_take, List.length_drop]
    omega
  clear ecu
  have x1 : Ext G H (upd H p (.lst (ms.map V.int))) := Ext.new hp
  have fin : ∀ (zs : List Int) (pz : Addr) (Hz : Hp), Ext G H Hz → Hz pz = some (.lst (zs.map V.int)) → zs.length ≤ 63 → (∀ z ∈ zs, z.natAbs.log2 < 2000000) →
      tRet (tLc (iList K (tVar 2)) (gName 3) tYes (tCall (spDice G) [] (fun _ _ _ => False) (tCons (tVar 3) tNil)) [3]) { nx := fun _ H' => Q .non H', rt := Q } [some (.ref S), some (.int 3), some (.ref pz), none] Hz := fun zs pz Hz xz ez lz bz => by
    have tz := tG.ext xz
    refine ⟨.ref pz, rfl, pz, rfl, ⟨_, SqL.of ez⟩, fun L hL => ?_⟩
    refine lc_list (K := K) (a := pz) (xs := zs.map V.int) (fun i Hk => Ext G Hz Hk ∧ ∃ ps : List Addr, Hk L = some (.lst (ps.map V.ref)) ∧ ps.length = i ∧ ps.Nodup ∧ ∀ p ∈ ps, DiceAt 1100 Hk p ∧ p ≠ L)
      ⟨Ext.new hL, [], upd_same, rfl, .nil, fun p hp => by cases hp⟩ (fun i Hk _ y => SqL.of (y.1.at tz ez (fun ps z => by cases z))) (fun i x Hk hx y => ?_) (fun Hk y => ?_)
    · obtain ⟨y1, ps, e1, e2, e3, e4⟩ := y
      have tk := tz.ext y1
      rw [List.getElem?_map] at hx
      obtain ⟨z, hz, rfl⟩ := Option.map_eq_some_iff.mp hx
      have hi := (List.getElem?_eq_some_iff.mp hz).1
      refine ⟨rfl, ?_⟩
      dsimp only [tYes]
      refine iteT ?_
      refine tcall1 (v := .int z) (fun Q q => ⟨_, rfl, q⟩) ?_
      refine ⟨tk, z, rfl, bz z (List.mem_of_getElem? hz), fun p H' x2 hp hd => ?_⟩
      have eL := x2.at tk e1 (fun ps z => by cases z)
      have nL : p ≠ L := fun z => by rw [z, e1] at hp; cases hp
      have np : p ∉ ps := fun hm => by
        obtain ⟨l, e⟩ := (e4 p hm).1.new
        rw [e] at hp
        cases hp
      refine ⟨_, eL, ?_, (y1.trans x2).mut hL eL (fun ps z => by cases z), ps ++ [p], ?_, by rw [List.length_append, e2]; rfl, ?_, fun p2 h2 => ?_⟩
      · rw [List.length_map, e2]
        exact Nat.lt_of_lt_of_le (show i < 64 by omega) (by decide)
      · rw [upd_same, List.map_append]
        rfl
      · refine List.nodup_append.mpr ⟨e3, by simp, fun a ha b hb => ?_⟩
        rw [List.mem_singleton.mp hb]
        exact fun z => np (z ▸ ha)
      · rcases List.mem_append.mp h2 with h | h
        · exact ⟨((e4 p2 h).1.ext tk x2).upd (e4 p2 h).2, (e4 p2 h).2⟩
        · rw [List.mem_singleton.mp h]
          exact ⟨hd.upd nL, nL⟩
    · obtain ⟨y1, ps, e1, e2, e3, e4⟩ := y
      exact q L ps Hk (xz.trans y1) e1 e3 fun p hp => (e4 p hp).1
  have t1 := tG.ext x1
  have d1 : Dp K (upd H p (.lst (ms.map V.int))) (.ref p) (.list (ms.map PyData.int)) := .lst (SqL.of upd_same) (dpA_ints ms)
  have sh : ∀ zs : List Int, SeqAt.shaped (.list (zs.map PyData.int)) = true := fun zs => by
    have c : PyData.canLayAll0 (zs.map PyData.int) = true := by
      induction zs with
      | nil => rfl
      | cons z r ih => simp [PyData.canLayAll0, PyData.canLay0, ih]
    have dd : PyData.depthAll (zs.map PyData.int) ≤ 1 := by
      induction zs with
      | nil => simp [PyData.depthAll]
      | cons z r ih =>
        have c2 : PyData.canLayAll0 (r.map PyData.int) = true := by simpa [PyData.canLayAll0, PyData.canLay0] using c
        have := ih c2
        simp [PyData.depthAll, PyData.depth]
        omega
    unfold SeqAt.shaped
    rw [PyData.canLay0, c, Bool.true_and]
    refine decide_eq_true ?_
    rw [PyData.depth]
    omega
  refine s_if (edt_test (ed_op t1 (ed_var t1 rfl d1) (ed_lst t1 ed_nil (by show 0 ≤ sizeLine; decide)) (rd_eqD (sh ms) (sh [])))) (fun _ H2 x2 => ?_) (fun _ H2 x2 => ?_)
  · refine ⟨by show 1 ≤ sizeLine; decide, fun p2 hp2 => ?_⟩
    exact fin [0] p2 _ ((x1.trans x2).trans (Ext.new hp2)) upd_same (by decide) (fun z hz => by rw [List.mem_singleton.mp hz]; decide)
  · exact fin ms p H2 (x1.trans x2) (x2.at t1 upd_same (fun ps z => by cases z)) hm63 hmb
end
end Rh
set_option Elab.async false
set_option linter.all false
set_option maxRecDepth 100000
set_option maxHeartbeats 1000000
namespace Rh
open PySem PySem.Spec PyProof.Rows L2 GxR Gx Dl
def isStrD : PyData → Bool
  | .str _ => true
  | _ => false
def isTupD : PyData → Bool
  | .tuple _ => true
  | _ => false
def ivD : PyData → Bool
  | .str x => isVarS x
  | _ => false
theorem kit_strD {K : PySem.W.Frag} (d : PyData) : PySem.W.kitOne K (.type (tyD d)) (.type "str") = some (isStrD d) := by
  cases d with
  | none => exact kit_ty (show kitB "NoneType" "str" = some false by decide +kernel)
  | bool _ => exact kit_ty (show kitB "bool" "str" = some false by decide +kernel)
  | int _ => exact kit_ty (show kitB "int" "str" = some false by decide +kernel)
  | str _ => exact kit_ty (show kitB "str" "str" = some true by decide +kernel)
  | list _ => exact kit_ty (show kitB "list" "str" = some false by decide +kernel)
  | tuple _ => exact kit_ty (show kitB "tuple" "str" = some false by decide +kernel)
  | dict _ => exact kit_ty (show kitB "dict" "str" = some false by decide +kernel)
theorem kit_tupD {K : PySem.W.Frag} (d : PyData) : PySem.W.kitOne K (.type (tyD d)) (.type "tuple") = some (isTupD d) := by
  cases d with
  | none => exact kit_ty (show kitB "NoneType" "tuple" = some false by decide +kernel)
  | bool _ => exact kit_ty (show kitB "bool" "tuple" = some false by decide +kernel)
  | int _ => exact kit_ty (show kitB "int" "tuple" = some false by decide +kernel)
  | str _ => exact kit_ty (show kitB "str" "tuple" = some false by decide +kernel)
  | list _ => exact kit_ty (show kitB "list" "tuple" = some false by decide +kernel)
  | tuple _ => exact kit_ty (show kitB "tuple" "tuple" = some true by decide +kernel)
  | dict _ => exact kit_ty (show kitB "dict" "tuple" = some false by decide +kernel)
def shortD : PyData → Bool
  | .str x => decide (x.length ≤ 100000)
  | _ => true
/-- is_variable of anything -/
def R_ivA : List Ar → PyData → Prop := fun as d => ∃ e, as = [.d e] ∧ shortD e = true ∧ d = .bool (ivD e)
def okDn : Nat → PyData → Bool
  | 0, _ => false
  | n + 1, .tuple ds => ds.all (okDn n)
  | _ + 1, d => shortD d
def isTn : Nat → PyData → Bool
  | 0, _ => false
  | _ + 1, .str x => isVarS x
  | n + 1, .tuple [.str s, .tuple ds] => !decide (s = Str.ofString "") && (!isVarS s && ds.all (isTn n))
  | _ + 1, _ => false
theorem okDn_short {n : Nat} {d : PyData} (h : okDn n d = true) : shortD d = true := by
  cases n with
  | zero => cases h
  | succ n => cases d <;> first | rfl | exact h
theorem okDn_mono : ∀ {n : Nat} {d : PyData}, okDn n d = true → okDn (n + 1) d = true
  | 0, _, h => by cases h
  | n + 1, .tuple ds, h => by
    refine List.all_eq_true.mpr fun d hd => okDn_mono (List.all_eq_true.mp h d hd)
  | _ + 1, .none, h => h
  | _ + 1, .bool _, h => h
  | _ + 1, .int _, h => h
  | _ + 1, .str _, h => h
  | _ + 1, .list _, h => h
  | _ + 1, .dict _, h => h
def R_isT (n : Nat) : List Ar → PyData → Prop := fun as d => ∃ e, as = [.d e] ∧ okDn n e = true ∧ d = .bool (isTn n e)
theorem sc_is_term : FnScope ["thing", "part"] ["thing"] (defScope s_is_term) := ⟨rfl, rfl, rfl, by decide +kernel, rfl, by decide +kernel, by decide +kernel⟩
section
variable {P : Program} {w : World} {K : PySem.W.Frag} {mg : Str → Option Value} {base : Heap} {G : List Addr} {f : Addr} {fd : FuncData}
theorem cl_ivA (D : DefF K mg base G "is_variable" s_is_variable ["thing"] f fd) (m1 : mg "isinstance" = none) (m2 : mg "str" = none) (m3 : mg "all" = none) : Cl0 P w K mg base 2 "is_variable" (spA G K R_ivA) := by
  refine D.cl sc_is_variable (fun ds d r => by obtain ⟨x, rfl, _⟩ := r; rfl) fun c Pt A outer s H vs ds d Q E TB hP hr tG hv r q => ?_
  refine ⟨_, pss_cons (ps_if (PW.pt (pw_or (pt_not (pt_val (pe_callB call_isi (by rfl) m1 (by decide +kernel) (pa_cons (pv 0) (pa_cons (pe_bltn (v := .ty "str") (by rfl) m2 (by decide +kernel) rfl) pa_nil)))))
      (pw_or (pt_cmpR op_eq (pv 0) pe_str (nomark _)) (pw_or1 (pt_cmpR op_notIn_sign (pe_ix ix_str (pv 0) pe_int (fun _ _ => rfl)) pe_str rfl))))) (pss_one (ps_ret pe_bl)) pss_nil)
    (pss_one (ps_ret (pe_allG (own := [("sign", 1)]) hr sc_is_variable.nd TB rfl (blkOk_by (N := ["thing", "sign"]) (sc := defScope s_is_variable) (by decide +kernel)) m3 (pi_str (pe_slice sl_str (pv 0) (po_some pe_int) po_none))
      (fun s H C code fp A _ => pg_name (i := 1) sc_is_variable.nd rfl (Or.inl rfl)) (fun s H C code fp A _ => pts_nil) (fun s H C code fp A _ => pe_cmpR op_in_sign (pv 1) pe_str rfl)))), ?_⟩
  obtain ⟨e, rfl, he, rfl⟩ := r
  obtain ⟨v, rfl, rv⟩ := arA_one hv
  have v0 : ∀ {H'}, Ext G H H' → Ed G K (tVar 0) [some v, none] H' e := fun y => ed_var (tG.ext y) rfl (dp_ext y tG (show Dp K H v e from rv))
  have rf := Ext.refl G H
  by_cases hs : isStrD e = true
  · cases e with
    | str x =>
      have hx : x.length ≤ 100000 := of_decide_eq_true he
      have hz : x.length ≤ sizeLine := Nat.le_trans hx (by decide)
      cases hl : x.cps.toList with
      | nil =>
        have ex : x = Str.ofString "" := Str.ext' (Array.toList_inj.mp hl)
        refine s_ifR (b := true) (edt_or (b := false) (edt_not (b := true) (edt_val (ed_isi (v0 rf) (kit_strD _)))) fun _ => edt_or (b := true) (c := true) (edt_test (ed_is (ed_op tG (v0 rf) ed_str rd_eqS) ?_)) fun z => by cases z) (fun _ H' y => ?_) (fun z => by cases z)
        · rw [ex]; rfl
        · refine s_ret (K := K) ed_bl fun u H2 y2 ru => q u H2 (y.trans y2) ?_
          have e : isVarS x = false := by unfold isVarS; rw [hl]
          show Dp K H2 u (.bool (isVarS x))
          rw [e]
          exact ru
      | cons cc r =>
        have nx : ¬ x = Str.ofString "" := fun z => by rw [z] at hl; cases hl
        have i0 : x.cps.toList[(0 : Int).toNat]? = some cc := by rw [hl]; rfl
        refine s_ifR (b := !decide (cc ∈ (Str.ofString "uvwxyz").cps.toList)) (edt_or (b := false) (edt_not (b := true) (edt_val (ed_isi (v0 rf) (kit_strD _)))) fun _ => edt_or (b := false) (edt_test (ed_is (ed_op tG (v0 rf) ed_str rd_eqS) ?_)) fun _ =>
          edt_test (ed_op tG (ed_op tG (v0 rf) ed_int (rd_ixS hz (Int.le_refl 0) i0)) ed_str rd_niSign)) (fun e H' y => ?_) (fun e H' y => ?_)
        · rw [decide_eq_false nx]
        · refine s_ret (K := K) ed_bl fun u H2 y2 ru => q u H2 (y.trans y2) ?_
          have e2 : isVarS x = false := by
            unfold isVarS
            rw [hl]
            simp only [Bool.not_eq_true'] at e
            simp only [e, Bool.false_and]
          show Dp K H2 u (.bool (isVarS x))
          rw [e2]
          exact ru
        · have tG' := tG.ext y
          refine s_ret (ed_allS hP tG' (ed_slS hz (v0 y) (fun _ _ _ z => ⟨_, rfl, z⟩) (fun _ _ _ z => z)) (List.mem_singleton.mpr rfl) fun d H1 y1 t1 => ed_op t1 (ed_var t1 rfl (.str _)) ed_str rd_inSign) fun u H2 y2 ru => q u H2 (y.trans y2) ?_
          have e2 : isVarS x = ((cutS x (some 1) none).cps.toList.all fun d => decide (d ∈ (Str.ofString "0123456789").cps.toList)) := by
            unfold isVarS
            rw [cutS_tail, hl]
            simp only [Bool.not_eq_false'] at e
            simp only [e, Bool.true_and, List.drop_succ_cons, List.drop_zero]
          show Dp K H2 u (.bool (isVarS x))
          rw [e2]
          exact ru
    | none => cases hs
    | bool _ => cases hs
    | int _ => cases hs
    | list _ => cases hs
    | tuple _ => cases hs
    | dict _ => cases hs
  · have hs' : isStrD e = false := by simpa using hs
    have e2 : ivD e = false := by cases e <;> first | rfl | cases hs'
    refine s_ifR (b := true) (edt_or (b := true) (c := true) (edt_not (b := false) (edt_val (ed_is (ed_isi (v0 rf) (kit_strD e)) (by rw [hs'])))) fun z => by cases z) (fun _ H' y => ?_) (fun z => by cases z)
    rw [e2] at q
    exact s_ret (K := K) ed_bl fun u H2 y2 ru => q u H2 (y.trans y2) ru
theorem ed_ivA {σ : L2.St} {H : Hp} {te : TE} {e : PyData} (tG : TabsG G H) (o : shortD e = true) (h : Ed G K te σ H e) : Ed G K (tCall (spA G K R_ivA) [] (fun _ _ _ => False) (tCons te tNil)) σ H (.bool (ivD e)) := ea_call tG (ea_one (edx_of h)) ⟨e, rfl, o, rfl⟩
theorem cl_is_term (D : DefF K mg base G "is_term" s_is_term ["thing"] f fd) (iv : Cl0 P w K mg base 2 "is_variable" (spA G K R_ivA)) (m1 : mg "isinstance" = none) (m2 : mg "str" = none) (m3 : mg "all" = none) (m4 : mg "tuple" = none) (m5 : mg "len" = none) :
    ∀ n, Cl0 P w K mg base (2 * n + 2) "is_term" (spA G K (R_isT n))
  | 0 => (D.none fun as d ⟨e, _, h, _⟩ => by cases h).mono (Nat.zero_le _)
  | n + 1 => by
    have ih := cl_is_term D iv m1 m2 m3 m4 m5 n
    refine D.cl (k := 2 * n + 3) sc_is_term (fun ds d r => by obtain ⟨x, rfl, _⟩ := r; rfl) fun c Pt A outer s H vs ds d Q E TB hP hr tG hv r q => ?_
    refine ⟨_, pss_cons (ps_if (pt_val (pe_cl iv (hr.mono (by omega)) rfl (pa_cons (pv 0) pa_nil))) (pss_one (ps_ret pe_bl)) pss_nil)
      (pss_cons (ps_if (PW.pt (pw_or (pt_not (pt_val (pe_callB call_isi (by rfl) m1 (by decide +kernel) (pa_cons (pv 0) (pa_cons (pe_bltn (v := .ty "tuple") (by rfl) m4 (by decide +kernel) rfl) pa_nil)))))
        (pw_or (pt_cmpR op_ne (pe_callB call_len_seq (by rfl) m5 PySem.boot_len (pa_cons (pv 0) pa_nil)) pe_int (nomark _))
        (pw_or (pt_not (pt_val (pe_callB call_isi (by rfl) m1 (by decide +kernel) (pa_cons (pe_ix ix_tup (pv 0) pe_int (fun _ _ => rfl)) (pa_cons (pe_bltn (v := .ty "str") (by rfl) m2 (by decide +kernel) rfl) pa_nil)))))
        (pw_or1 (pt_cmpR op_eq (pe_ix ix_tup (pv 0) pe_int (fun _ _ => rfl)) pe_str (nomark _))))))) (pss_one (ps_ret pe_bl)) pss_nil)
      (pss_one (ps_ret (pe_and (pe_not (pe_cl iv (hr.mono (by omega)) rfl (pa_cons (pe_ix ix_tup (pv 0) pe_int (fun _ _ => rfl)) pa_nil)))
        (pe_and (pe_callB call_isi (by rfl) m1 (by decide +kernel) (pa_cons (pe_ix ix_tup (pv 0) pe_int (fun _ _ => rfl)) (pa_cons (pe_bltn (v := .ty "tuple") (by rfl) m4 (by decide +kernel) rfl) pa_nil)))
        (pe_one (pe_allG (own := [("part", 1)]) hr sc_is_term.nd TB rfl (blkOk_by (N := ["thing", "part"]) (sc := defScope s_is_term) (by decide +kernel)) m3 (pi_tup (pe_ix ix_tup (pv 0) pe_int (fun _ _ => rfl)))
          (fun s H C code fp A _ => pg_name (i := 1) sc_is_term.nd rfl (Or.inl rfl)) (fun s H C code fp A _ => pts_nil) (fun s H C code fp A r => pe_cl ih r rfl (pa_cons (pv 1) pa_nil))))))))), ?_⟩
    obtain ⟨e, rfl, he, rfl⟩ := r
    obtain ⟨v, rfl, rv⟩ := arA_one hv
    have v0 : ∀ {H'}, Ext G H H' → Ed G K (tVar 0) [some v, none] H' e := fun y => ed_var (tG.ext y) rfl (dp_ext y tG (show Dp K H v e from rv))
    have rf := Ext.refl G H
    refine s_ifR (edt_val (ed_ivA tG (okDn_short he) (v0 rf))) (fun h H' y => ?_) fun h H' y => ?_
    · refine s_ret (K := K) ed_bl fun u H2 y2 ru => q u H2 (y.trans y2) ?_
      cases e with
      | str x =>
        have h' : isVarS x = true := h
        show Dp K H2 u (.bool (isVarS x))
        rw [h']
        exact ru
      | none => cases h
      | bool _ => cases h
      | int _ => cases h
      | list _ => cases h
      | tuple _ => cases h
      | dict _ => cases h
    have t1 := tG.ext y
    by_cases ht : isTupD e = true
    · cases e with
      | tuple es =>
        by_cases hl : es.length = 2
        · match es, hl, he with
          | [p, p2], _, he =>
            have o1 : okDn n p = true := by
              have := List.all_eq_true.mp he p (by simp)
              exact this
            have o2 : okDn n p2 = true := by
              have := List.all_eq_true.mp he p2 (by simp)
              exact this
            have p0 : ∀ {H2}, Ext G H H2 → Ed G K (tOp (rIxT K) (tVar 0) (tC (.int 0))) [some v, none] H2 p := fun y => ed_op (tG.ext y) (v0 y) ed_int (rd_ixT (by decide) rfl)
            have p1 : ∀ {H2}, Ext G H H2 → Ed G K (tOp (rIxT K) (tVar 0) (tC (.int 1))) [some v, none] H2 p2 := fun y => ed_op (tG.ext y) (v0 y) ed_int (rd_ixT (by decide) rfl)
            by_cases hs : isStrD p = true
            · cases p with
              | str x =>
                refine s_ifR (edt_or (b := false) (edt_not (b := true) (edt_val (ed_isi (v0 y) (kit_tupD _)))) fun _ => edt_or (b := false) (edt_test (ed_op t1 (ed_cb (ed_one (v0 y)) rdc_len) ed_int rd_neI)) fun _ => edt_or (b := false) (edt_not (b := true) (edt_val (ed_isi (p0 y) (kit_strD _)))) fun _ =>
                  edt_test (ed_op t1 (p0 y) ed_str rd_eqS)) (fun h2 H2 y2 => ?_) fun h2 H2 y2 => ?_
                · have h2' : x = Str.ofString "" := by simpa using h2
                  refine s_ret (K := K) ed_bl fun u H3 y3 ru => q u H3 ((y.trans y2).trans y3) ?_
                  have e3 : isTn (n + 1) (.tuple [.str x, p2]) = false := by
                    cases p2 <;> simp [isTn, h2']
                  rw [e3]
                  exact ru
                · have h2' : ¬ x = Str.ofString "" := by simpa using h2
                  have y3 := y.trans y2
                  have t3 := tG.ext y3
                  by_cases ht2 : isTupD p2 = true
                  · cases p2 with
                    | tuple es2 =>
                      refine s_ret (K := K) (ed_andV (ed_notV (ed_ivA t3 (okDn_short o1) (p0 y3))) fun _ => ed_andV (b := true) (ed_is (ed_isi (p1 y3) (kit_tupD _)) rfl) fun _ => ed_allT (p := isTn n) hP t3 (p1 y3) (by decide) fun d w H4 hd x4 t4 rw_ => ?_) fun u H3 y4 ru => q u H3 (y3.trans y4) ?_
                      · have od : okDn n d = true := by
                          cases n with
                          | zero => cases o2
                          | succ n => exact okDn_mono (List.all_eq_true.mp o2 d hd)
                        exact ea_call t4 (ea_one (edx_of (ed_var t4 rfl rw_))) ⟨d, rfl, od, rfl⟩
                      · have e3 : isTn (n + 1) (.tuple [.str x, .tuple es2]) = (!isVarS x && (true && es2.all (isTn n))) := by
                          rw [isTn, decide_eq_false h2']
                          rfl
                        rw [e3]
                        exact ru
                    | none => cases ht2
                    | bool _ => cases ht2
                    | int _ => cases ht2
                    | list _ => cases ht2
                    | str _ => cases ht2
                    | dict _ => cases ht2
                  · have ht2' : isTupD p2 = false := by simpa using ht2
                    refine s_ret (K := K) (ed_andV (ed_notV (ed_ivA t3 (okDn_short o1) (p0 y3))) fun _ => ed_andV (b := false) (c := true) (ed_is (ed_isi (p1 y3) (kit_tupD p2)) (by rw [ht2'])) fun z => by cases z) fun u H3 y4 ru => q u H3 (y3.trans y4) ?_
                    have e3 : isTn (n + 1) (.tuple [.str x, p2]) = (!ivD (.str x) && (false && true)) := by
                      rw [Bool.false_and, Bool.and_false]
                      cases p2 <;> first | rfl | cases ht2'
                    rw [e3]
                    exact ru
              | none => cases hs
              | bool _ => cases hs
              | int _ => cases hs
              | list _ => cases hs
              | tuple _ => cases hs
              | dict _ => cases hs
            · have hs' : isStrD p = false := by simpa using hs
              refine s_ifR (b := true) (edt_or (b := false) (edt_not (b := true) (edt_val (ed_isi (v0 y) (kit_tupD _)))) fun _ => edt_or (b := false) (edt_test (ed_op t1 (ed_cb (ed_one (v0 y)) rdc_len) ed_int rd_neI)) fun _ => edt_or (b := true) (c := true) (edt_not (b := false) (edt_val (ed_is (ed_isi (p0 y) (kit_strD p)) (by rw [hs'])))) fun z => by cases z) (fun _ H2 y2 => ?_) (fun z => by cases z)
              refine s_ret (K := K) ed_bl fun u H3 y3 ru => q u H3 ((y.trans y2).trans y3) ?_
              have e3 : isTn (n + 1) (.tuple [p, p2]) = false := by cases p <;> first | rfl | cases hs'
              rw [e3]
              exact ru
        · refine s_ifR (b := true) (edt_or (b := false) (edt_not (b := true) (edt_val (ed_isi (v0 y) (kit_tupD _)))) fun _ => edt_or (b := true) (c := true) (edt_test (ed_is (ed_op t1 (ed_cb (ed_one (v0 y)) rdc_len) ed_int rd_neI) ?_)) fun z => by cases z) (fun _ H2 y2 => ?_) (fun z => by cases z)
          · have : ¬ ((es.length : Nat) : Int) = 2 := by omega
            rw [decide_eq_false this]; rfl
          · refine s_ret (K := K) ed_bl fun u H3 y3 ru => q u H3 ((y.trans y2).trans y3) ?_
            have e3 : isTn (n + 1) (.tuple es) = false := by
              match es, hl with
              | [], _ => rfl
              | [p], _ => cases p <;> rfl
              | [_, _], hl => exact absurd rfl hl
              | p :: p2 :: _ :: _, _ => cases p <;> cases p2 <;> rfl
            rw [e3]
            exact ru
      | none => cases ht
      | bool _ => cases ht
      | int _ => cases ht
      | list _ => cases ht
      | str _ => cases ht
      | dict _ => cases ht
    · have ht' : isTupD e = false := by simpa using ht
      refine s_ifR (b := true) (edt_or (b := true) (c := true) (edt_not (b := false) (edt_val (ed_is (ed_isi (v0 y) (kit_tupD e)) (by rw [ht'])))) fun z => by cases z) (fun _ H2 y2 => ?_) (fun z => by cases z)
      refine s_ret (K := K) ed_bl fun u H3 y3 ru => q u H3 ((y.trans y2).trans y3) ?_
      have e3 : isTn (n + 1) e = false := by
        cases e <;> first | rfl | exact h | cases ht'
      rw [e3]
      exact ru
end
end Rh
set_option Elab.async false
set_option linter.all false
set_option maxRecDepth 100000
set_option maxHeartbeats 1000000
namespace Rh
open PySem PySem.Spec PyProof.Rows L2 GxR Gx Dl
theorem sc_sign_places : FnScope ["term", "place"] ["term"] (defScope s_sign_places) := ⟨rfl, rfl, rfl, by decide +kernel, rfl, by decide +kernel, by decide +kernel⟩
theorem sc_laid : FnScope ["term", "place", "other", "k"] ["term", "place", "other"] (defScope s_laid) := ⟨rfl, rfl, rfl, by decide +kernel, rfl, by decide +kernel, by decide +kernel⟩
def T.deep : T → Nat
  | .v _ => 0
  | .c _ => 1
  | .u _ t => t.deep + 1
  | .b _ t r => max t.deep r.deep + 1
def T.isVAt (t : T) (p : List Nat) : Bool := match t.at p with
  | some r => r.isV
  | none => false
def T.signPlaces (t : T) : List (List Nat) := t.places.filter fun p => !t.isVAt p
theorem T.at_place : ∀ {t : T} {p : List Nat}, p ∈ t.places → ∃ r, t.at p = some r
  | .v _, p, h => by rw [T.places, List.mem_singleton] at h; rw [h]; exact ⟨_, rfl⟩
  | .c _, p, h => by rw [T.places, List.mem_singleton] at h; rw [h]; exact ⟨_, rfl⟩
  | .u _ t, p, h => by
    rw [T.places, List.mem_cons] at h
    rcases h with h | h
    · rw [h]; exact ⟨_, rfl⟩
    · obtain ⟨q, hq, rfl⟩ := List.mem_map.mp h
      obtain ⟨r, hr⟩ := T.at_place hq
      exact ⟨r, by rw [T.at, if_pos rfl]; exact hr⟩
  | .b _ t r, p, h => by
    rw [T.places, List.mem_cons, List.mem_append] at h
    rcases h with h | h | h
    · rw [h]; exact ⟨_, rfl⟩
    · obtain ⟨q, hq, rfl⟩ := List.mem_map.mp h
      obtain ⟨x, hx⟩ := T.at_place hq
      exact ⟨x, by rw [T.at, if_pos rfl]; exact hx⟩
    · obtain ⟨q, hq, rfl⟩ := List.mem_map.mp h
      obtain ⟨x, hx⟩ := T.at_place hq
      exact ⟨x, by rw [T.at, if_neg (by decide), if_pos rfl]; exact hx⟩
theorem T.at_ok : ∀ {p : List Nat} {t r : T}, t.ok → t.at p = some r → r.ok
  | [], t, r, o, h => by rw [T.at_nil] at h; cases h; exact o
  | k :: p, t, r, o, h => by
    obtain ⟨q, hq, h2, _⟩ := T.at_cons h
    exact T.at_ok (T.ok_parts o (List.mem_of_getElem? hq)) h2
def T.laid : T → List Nat → T → T
  | _, [], o => o
  | .v x, _ :: _, _ => .v x
  | .c s, _ :: _, _ => .c s
  | .u s t, _ :: p, o => .u s (t.laid p o)
  | .b s t r, k :: p, o => if k = 0 then .b s (t.laid p o) r else .b s t (r.laid p o)
theorem T.laid_nil (t o : T) : t.laid [] o = o := by cases t <;> rfl
/-- the parts with one laid anew -/
theorem T.laid_parts {t q : T} {k : Nat} {p : List Nat} {o : T} (h : t.parts[k]? = some q) : (t.laid (k :: p) o).isV = t.isV ∧ (t.laid (k :: p) o).sgn = t.sgn ∧ (t.laid (k :: p) o).parts = t.parts.take k ++ [q.laid p o] ++ t.parts.drop (k + 1) := by
  cases t with
  | v x => cases k <;> cases h
  | c s => cases k <;> cases h
  | u s t =>
    match k, h with
    | 0, h => cases h; exact ⟨rfl, rfl, rfl⟩
    | k + 1, h => simp [T.parts] at h
  | b s t r =>
    match k, h with
    | 0, h => cases h; exact ⟨rfl, rfl, rfl⟩
    | 1, h => cases h; exact ⟨rfl, rfl, rfl⟩
    | k + 2, h => simp [T.parts] at h
theorem T.deep_n {t : T} (h : t.isV = false) : ∀ k : Int, k ∈ ((0 : Int) :: t.parts.map fun p => (p.deep : Int)) → (∀ y, y ∈ ((0 : Int) :: t.parts.map fun p => (p.deep : Int)) → y ≤ k) → k = (t.deep : Int) - 1 := by
  intro k hk hm
  cases t with
  | v x => cases h
  | c s =>
    simp [T.parts] at hk
    subst hk
    rfl
  | u s t =>
    simp only [T.parts, List.map_cons, List.map_nil] at hk hm
    have h1 := hm t.deep (by simp)
    have h0 := hm 0 (by simp)
    simp only [List.mem_cons, List.not_mem_nil, or_false] at hk
    show k = ((t.deep + 1 : Nat) : Int) - 1
    rcases hk with e | e <;> omega
  | b s t r =>
    simp only [T.parts, List.map_cons, List.map_nil] at hk hm
    have h1 := hm t.deep (by simp)
    have h2 := hm r.deep (by simp)
    have h0 := hm 0 (by simp)
    simp only [List.mem_cons, List.not_mem_nil, or_false] at hk
    show k = ((max t.deep r.deep + 1 : Nat) : Int) - 1
    rcases hk with e | e | e <;> omega
def R_depth (n : Nat) : List Ar → PyData → Prop := fun as d => ∃ t : T, as = [.d (enc t)] ∧ t.ok ∧ t.dp < n ∧ d = .int t.deep
def R_sp (n : Nat) : List Ar → PyData → Prop := fun as d => ∃ t : T, as = [.d (enc t)] ∧ t.ok ∧ t.dp < n ∧ n ≤ 12 ∧ d = .tuple (t.signPlaces.map encP)
def R_laid (n : Nat) : List Ar → PyData → Prop := fun as d => ∃ (t o r : T) (p : List Nat), as = [.d (enc t), .d (encP p), .d (enc o)] ∧ t.ok ∧ t.at p = some r ∧ p.length < n ∧ n ≤ 30 ∧ d = enc (t.laid p o)
def unS : PyData → Str
  | .str x => x
  | _ => Str.ofString ""
def R_lin : List Ar → PyData → Prop := fun as d => ∃ t : T, as = [.d (enc t)] ∧ t.ok ∧ t.dp < 12 ∧ t.lv < 64 ∧ d = .bool (t.vars.all fun x => decide (t.uses x = 1))
theorem pu_encP (p : List Nat) : Pu (encP p) = true := by
  show PuA (p.map fun n : Nat => PyData.int n) = true
  refine puA_all.mpr fun d hd => ?_
  obtain ⟨n, _, rfl⟩ := List.mem_map.mp hd
  rfl
def decP : PyData → List Nat
  | .tuple ds => ds.map fun d => match d with
    | .int i => i.toNat
    | _ => 0
  | _ => []
theorem decP_enc (p : List Nat) : decP (encP p) = p := by
  show (p.map fun n : Nat => PyData.int n).map _ = p
  rw [List.map_map]
  exact List.map_id'' (fun n => Int.toNat_natCast n) p
theorem shaped_encP {p : List Nat} (h : p.length < 1000) : SeqAt.shaped (encP p) = true := by
  unfold SeqAt.shaped
  have h1 : ∀ p : List Nat, PyData.canLayAll0 (p.map fun n : Nat => PyData.int n) = true := fun p => by
    induction p with
    | nil => rfl
    | cons n r ih => simp [PyData.canLayAll0, PyData.canLay0, ih]
  have h2 : ∀ p : List Nat, PyData.depthAll (p.map fun n : Nat => PyData.int n) ≤ 1 := fun p => by
    induction p with
    | nil => simp [PyData.depthAll]
    | cons n r ih => simp [PyData.depthAll, PyData.depth]; omega
  show (PyData.canLayAll0 (p.map fun n : Nat => PyData.int n) && _) = true
  rw [h1, Bool.true_and]
  refine decide_eq_true ?_
  have := h2 p
  show PyData.depth (.tuple _) ≤ _
  simp only [PyData.depth]
  omega
theorem eqv_encP : ∀ p q : List Nat, PyData.eqv (encP p) (encP q) = decide (p = q) := by
  have h : ∀ p q : List Nat, PyData.eqvAll (p.map fun n : Nat => PyData.int n) (q.map fun n : Nat => PyData.int n) = decide (p = q) := fun p => by
    induction p with
    | nil => intro q; cases q <;> simp [PyData.eqvAll]
    | cons n r ih =>
      intro q
      cases q with
      | nil => simp [PyData.eqvAll]
      | cons m s =>
        simp only [List.map_cons, PyData.eqvAll, ih]
        by_cases e : n = m
        · subst e; simp [PyData.eqv]
        · have e' : ¬ (n : Int) = (m : Int) := by omega
          simp [PyData.eqv, e, e']
  intro p q
  show PyData.eqvAll _ _ = _
  exact h p q
section
variable {P : Program} {w : World} {K : PySem.W.Frag} {mg : Str → Option Value} {base : Heap} {G : List Addr} {f : Addr} {fd : FuncData}
theorem rd_eqP {H : Hp} {p q : List Nat} (h : p.length < 1000) (h2 : q.length < 1000) : Rd2 G K (rEqD K) (encP p) (encP q) (.bool (decide (p = q))) H := by
  rw [← eqv_encP p q]
  exact rd_eqD (shaped_encP h) (shaped_encP h2)
theorem cl_sign_places (D : DefF K mg base G "sign_places" s_sign_places ["term"] f fd) (iv : IV P w K mg base G) (pl : Cl0 P w K mg base 26 "places" (spA G K (R_places 12))) (at_ : Cl0 P w K mg base 3 "at" (spA G K R_at)) (m : mg "tuple" = none) : Cl0 P w K mg base 27 "sign_places" (spA G K (R_sp 12)) := by
  refine D.cl (k := 26) sc_sign_places (fun ds d r => by obtain ⟨t, rfl, _⟩ := r; rfl) fun c Pt A outer s H vs ds d Q E TB hP hr tG hv r q => ?_
  refine ⟨_, pss_one (ps_ret (pe_callTy call_tuple_of (by rfl) m (by decide +kernel) (pa_cons (pe_lc (own := [("place", 1)]) (g := gName 1) (tt := tNot (tB (tCall (spA G K R_iv) [] (fun _ _ _ => False) (tCons (tCall (spA G K R_at) [] (fun _ _ _ => False) (tCons (tVar 0) (tCons (tVar 1) tNil))) tNil)))) rfl sc_sign_places.nd (pi_tup (pe_cl pl (hr.mono (by omega)) rfl (pa_cons (pv 0) pa_nil))) (blkOk_by (N := ["term", "place"]) (sc := defScope s_sign_places) (by decide +kernel))
          (fun _ _ _ _ _ => pg_name (i := 1) sc_sign_places.nd rfl (Or.inl rfl)) (fun _ _ _ _ _ => pts_one (pt_not (pt_val (pe_cl iv (hr.mono (by omega)) rfl (pa_cons (pe_cl at_ (hr.mono (by omega)) rfl (pa_cons (pv 0) (pa_cons (pv 1) pa_nil))) pa_nil))))) (fun _ _ _ _ _ => pv 1)) pa_nil))), ?_⟩
  obtain ⟨t, rfl, o, hd, hn, rfl⟩ := r
  obtain ⟨v, rfl, rv⟩ := arA_one hv
  have v0 : ∀ {H' c}, Ext G H H' → Ed G K (tVar 0) [some v, c] H' (enc t) := fun y => ed_var (tG.ext y) rfl (dp_ext y tG rv)
  have rf := Ext.refl G H
  have bd : t.size < 10000 := Nat.lt_of_lt_of_le (T.size_le t) (Nat.le_trans (Nat.pow_le_pow_right (by decide) (show t.dp + 1 ≤ 12 by omega)) (by decide))
  refine s_ret (K := K) (ed_is (ed_cb (ed_one (edl_lcTF (ds := t.places.map encP) (g := fun d => d) (p := fun d => !t.isVAt (decP d)) tG ?_ (ea_call tG (ea_one (edx_of (v0 rf))) ⟨t, rfl, o, hd, hn, rfl⟩) (by decide) (fun d hd => ?_) (fun d u H1 hd1 x1 t1 ru => ?_) fun d u H1 hd1 _ x1 t1 ru => ed_var t1 rfl ru).ed) (rdc_tuple tG)) ?_) fun u H' y ru => q u H' y ru
  · rw [List.length_map, T.places_len]
    exact Nat.le_trans (Nat.le_of_lt bd) (by decide)
  · obtain ⟨p, _, rfl⟩ := List.mem_map.mp hd
    exact pu_encP p
  · obtain ⟨p, hp, rfl⟩ := List.mem_map.mp hd1
    obtain ⟨r, hr2⟩ := T.at_place hp
    have e : t.isVAt (decP (encP p)) = r.isV := by rw [decP_enc, T.isVAt, hr2]
    rw [e]
    exact edt_not (edt_val (ed_iv t1 (T.at_ok o hr2) (ea_call t1 (ea_cons t1 (edx_of (v0 x1)) (ea_one (edx_of (ed_var t1 rfl ru)))) ⟨t, r, p, rfl, o, hr2, rfl⟩)))
  · rw [List.map_id', List.filter_map]
    congr 2
    simp [T.signPlaces, Function.comp_def, decP_enc]
theorem cl_laid (D : DefF K mg base G "laid" s_laid ["term", "place", "other"] f fd) (iv : IV P w K mg base G) (m : mg "len" = none) : ∀ n, Cl0 P w K mg base (n + 3) "laid" (spA G K (R_laid n))
  | 0 => (D.none fun as d ⟨t, _, _, _, _, _, _, h, _⟩ => Nat.not_lt_zero _ h).mono (Nat.zero_le _)
  | n + 1 => by
    have ih := cl_laid D iv m n
    refine D.cl (k := n + 3) sc_laid (fun ds d r => by obtain ⟨t, _, _, _, rfl, _⟩ := r; rfl) fun c Pt A outer s H vs ds d Q E TB hP hr tG hv r q => ?_
    refine ⟨_, pss_cons (ps_if (pt_cmpR (op_eqD hr.units) (pv 1) (pe_tup pa_nil) (nomark _)) (pss_one (ps_ret (pv 2))) pss_nil)
      (pss_cons (ps_set (i := 3) sc_laid.nd rfl (Or.inl rfl) (pe_ix ix_tup (pv 1) pe_int (fun _ _ => rfl)))
      (pss_cons (ps_if (PW.pt (pw_or (pt_val (pe_cl iv (hr.mono (by omega)) rfl (pa_cons (pv 0) pa_nil))) (pw_or1 (pt_not (pt_chain op_le op_lt pe_int (pv 3) (pe_callB call_len_seq (by rfl) m PySem.boot_len (pa_cons (pe_ix ix_tup (pv 0) pe_int (fun _ _ => rfl)) pa_nil))))))) (pss_one ps_never) pss_nil)
      (pss_one (ps_ret (pe_tup (pa_cons (pe_ix ix_tup (pv 0) pe_int (fun _ _ => rfl)) (pa_cons (pe_op op_catA (pe_op op_catA (pe_slice sl_tupA (pe_ix ix_tup (pv 0) pe_int (fun _ _ => rfl)) po_none (po_some (pv 3)))
        (pe_tup (pa_cons (pe_cl ih (hr.mono (by omega)) rfl (pa_cons (pe_ix ix_tup (pe_ix ix_tup (pv 0) pe_int (fun _ _ => rfl)) (pv 3) (fun _ _ => rfl)) (pa_cons (pe_slice sl_tupA (pv 1) (po_some pe_int) po_none) (pa_cons (pv 2) pa_nil)))) pa_nil)))
        (pe_slice sl_tupA (pe_ix ix_tup (pv 0) pe_int (fun _ _ => rfl)) (po_some (pe_op op_add (pv 3) pe_int)) po_none)) pa_nil))))))), ?_⟩
    obtain ⟨t, o, r, p, rfl, ok, ha, hn, h30, rfl⟩ := r
    obtain ⟨v, z, y0, rfl, rv, rz, ry⟩ := arA_three hv
    have v0 : ∀ {H' c}, Ext G H H' → Ed G K (tVar 0) [some v, some z, some y0, c] H' (enc t) := fun y => ed_var (tG.ext y) rfl (dp_ext y tG rv)
    have v1 : ∀ {H' c}, Ext G H H' → Ed G K (tVar 1) [some v, some z, some y0, c] H' (encP p) := fun y => ed_var (tG.ext y) rfl (dp_ext y tG rz)
    have v2 : ∀ {H' c}, Ext G H H' → Ed G K (tVar 2) [some v, some z, some y0, c] H' (enc o) := fun y => ed_var (tG.ext y) rfl (dp_ext y tG ry)
    have rf := Ext.refl G H
    refine s_ifR (edt_test (ed_op tG (v1 rf) (ed_tup tG ed_nil (by show 0 ≤ sizeLine; decide)) (rd_eqP (p := p) (q := []) (by omega) (by decide)))) (fun h H2 y => ?_) fun h H2 y => ?_
    · have h' : p = [] := by simpa using h
      refine s_ret (K := K) (v2 y) fun u H3 y3 ru => q u H3 (y.trans y3) ?_
      rw [h', T.laid_nil]
      exact ru
    cases p with
    | nil => simp at h
    | cons k p =>
      obtain ⟨b, hb, ha2, hnv⟩ := T.at_cons ha
      have hkl : k < t.parts.length := (List.getElem?_eq_some_iff.mp hb).1
      have h2 := t.parts_len
      refine s_set (K := K) (d := .int k) (ed_op (tG.ext y) (v1 y) ed_int (rd_ixT (by decide) rfl)) fun w H3 y3 rw_ => ?_
      rw [dp_int rw_]
      have x3 := y.trans y3
      have t3 := tG.ext x3
      have v3 : ∀ {H'}, Ext G H3 H' → Ed G K (tVar 3) [some v, some z, some y0, some (.int k)] H' (.int k) := fun y => ed_var (t3.ext y) rfl (.int _)
      have r3 := Ext.refl G H3
      refine s_ifR (b := false) (edt_is (edt_or (edt_val (ed_iv t3 ok (v0 x3))) fun _ => edt_not (edt_test (ed_chain t3 ed_int (v3 r3) rd_leI (ed_cb (ed_one (ed_parts t3 hnv (v0 x3))) rdc_len) rd_ltI))) ?_) (fun h => by cases h) fun _ H4 y4 => ?_
      · rw [hnv]
        have e1 : decide ((0 : Int) ≤ (k : Int)) = true := decide_eq_true (by omega)
        have e2 : decide ((k : Int) < ((t.parts.map enc).length : Nat)) = true := decide_eq_true (by rw [List.length_map]; omega)
        rw [e1, e2]
        rfl
      have x4 := x3.trans y4
      have t4 := tG.ext x4
      obtain ⟨l1, l2, l3⟩ := T.laid_parts (t := t) (p := p) (o := o) hb
      have ek : (k : Int) + 1 = ((k + 1 : Nat) : Int) := by omega
      have e1k : (1 : Int) = ((1 : Nat) : Int) := rfl
      refine s_ret (K := K) (ed_is (ed_tup t4 (ed_cons t4 (ed_sgn t4 hnv (v0 x4)) (ed_one (ed_op t4 (ed_op t4 (ed_slT t4 (ed_parts t4 hnv (v0 x4)) edo_none (edo_some (v3 y4))) (ed_tup t4 (ed_one (ea_call t4 (ea_cons t4 (edx_of (ed_op t4 (ed_parts t4 hnv (v0 x4)) (v3 y4) (rd_ixT (d := enc b) (by omega) (by rw [Int.toNat_natCast, List.getElem?_map, hb]; rfl))))
          (ea_cons t4 (edx_of (ed_is (ed_slT t4 (v1 x4) (edo_some (K := K) (ed_is ed_int (e := .int ((1 : Nat) : Int)) rfl)) edo_none) (e := encP p) ?_)) (ea_one (edx_of (v2 x4))))) (show R_laid n _ (enc (b.laid p o)) from ⟨b, o, r, p, rfl, T.ok_parts ok (List.mem_of_getElem? hb), ha2, by simp at hn; omega, by omega, rfl⟩))) (by show 1 ≤ sizeLine; decide)) (rd_catA t4 ?_))
          (ed_slT t4 (ed_parts t4 hnv (v0 x4)) (edo_some (ed_is (ed_op t4 (v3 y4) ed_int rd_add) (by rw [ek]))) edo_none) (rd_catA t4 ?_)))) (by show 2 ≤ sizeLine; decide)) ?_) fun u H5 y5 ru => q u H5 (x4.trans y5) ru
      · rw [cutD_from]
        rfl
      · rw [cutD_to, List.length_take, List.length_map]
        exact Nat.le_trans (show _ ≤ 100 by simp; omega) (by decide)
      · rw [cutD_to, cutD_from, List.length_append, List.length_take, List.length_drop, List.length_map]
        exact Nat.le_trans (show _ ≤ 100 by simp; omega) (by decide)
      · rw [enc_n (t := t.laid (k :: p) o) (by rw [l1]; exact hnv), l2, l3, cutD_to, cutD_from, List.map_append, List.map_append, List.map_take, List.map_drop]
        rfl
end
end Rh
set_option Elab.async false
set_option linter.all false
set_option maxRecDepth 100000
set_option maxHeartbeats 1000000
namespace Rh
open PySem PySem.Spec PyProof.Rows L2 GxR Gx Dl LiI
theorem sc_matched : FnScope ["pattern", "term", "table", "one", "other"] ["pattern", "term", "table"] (defScope s_matched) := ⟨rfl, rfl, rfl, by decide +kernel, rfl, by decide +kernel, by decide +kernel⟩
def T.matched : T → T → Sub → Option Sub
  | .v x, t, m => match getS m x with
    | some r => if r = t then some m else none
    | none => some (m ++ [(x, t)])
  | .c s, .c s', m => if s = s' then some m else none
  | .u s p, .u s' t, m => if s = s' then p.matched t m else none
  | .b s p p2, .b s' t t2, m => if s = s' then (p.matched t m).bind fun m' => p2.matched t2 m' else none
  | _, _, _ => none
def matchA : List T → List T → Sub → Option Sub
  | p :: ps, t :: ts, m => (p.matched t m).bind fun m' => matchA ps ts m'
  | _, _, m => some m
theorem T.matched_n {p t : T} {m : Sub} (h1 : p.isV = false) (h2 : t.isV = false) (h3 : p.sgn = t.sgn) (h4 : p.parts.length = t.parts.length) : p.matched t m = matchA p.parts t.parts m := by
  cases p <;> cases t <;> simp [T.isV, T.sgn, T.parts] at h1 h2 h3 h4 <;> subst h3 <;> simp [T.matched, matchA, T.parts]
theorem T.matched_no {p t : T} {m : Sub} (h1 : p.isV = false) (h : t.isV = true ∨ p.sgn ≠ t.sgn ∨ p.parts.length ≠ t.parts.length) : p.matched t m = none := by
  cases p <;> cases t <;> simp [T.isV, T.sgn, T.parts] at h1 h <;> simp [T.matched, h]
structure SubOk (m : Sub) : Prop where
  nd : (m.map (·.1)).Nodup
  ok : ∀ q ∈ m, q.2.ok ∧ q.2.dp ≤ 30
theorem getS_mem {m : Sub} {x : Str} {r : T} (h : getS m x = some r) : (x, r) ∈ m := by
  unfold getS at h
  obtain ⟨p, hp, rfl⟩ := Option.map_eq_some_iff.mp h
  have h1 := List.mem_of_find?_eq_some hp
  have h2 := List.find?_some hp
  have h3 : p.1 = x := of_decide_eq_true h2
  rw [← h3]
  exact h1
theorem getS_none {m : Sub} {x : Str} (h : getS m x = none) : x ∉ m.map (·.1) := fun z => by
  unfold getS at h
  rw [Option.map_eq_none_iff, List.find?_eq_none] at h
  obtain ⟨p, hp, rfl⟩ := List.mem_map.mp z
  exact h p hp (decide_eq_true rfl)
theorem T.matched_ok : ∀ {p t : T} {m m' : Sub}, SubOk m → t.ok → t.dp ≤ 30 → p.matched t m = some m' → SubOk m' ∧ m'.length ≤ m.length + p.lv
  | .v x, t, m, m', o, ot, dt, h => by
    rw [T.matched] at h
    cases hx : getS m x with
    | some r =>
      rw [hx] at h
      have h' : (if r = t then some m else none) = some m' := h
      split at h'
      · cases h'; exact ⟨o, by simp [T.lv]⟩
      · cases h'
    | none =>
      rw [hx] at h
      have h' : some (m ++ [(x, t)]) = some m' := h
      cases h'
      refine ⟨⟨?_, fun q hq => ?_⟩, by simp [T.lv]⟩
      · rw [List.map_append, List.nodup_append]
        refine ⟨o.nd, by simp, fun a ha b hb z => ?_⟩
        rw [List.map_cons, List.map_nil, List.mem_singleton] at hb
        subst hb
        subst z
        exact getS_none hx ha
      · rcases List.mem_append.mp hq with h | h
        · exact o.ok q h
        · rw [List.mem_singleton.mp h]; exact ⟨ot, dt⟩
  | .c s, .c s', m, m', o, ot, dt, h => by
    rw [T.matched] at h
    split at h
    · cases h; exact ⟨o, by simp [T.lv]⟩
    · cases h
  | .c _, .v _, _, _, _, _, _, h => by cases h
  | .c _, .u _ _, _, _, _, _, _, h => by cases h
  | .c _, .b _ _ _, _, _, _, _, _, h => by cases h
  | .u _ _, .v _, _, _, _, _, _, h => by cases h
  | .u _ _, .c _, _, _, _, _, _, h => by cases h
  | .u _ _, .b _ _ _, _, _, _, _, _, h => by cases h
  | .b _ _ _, .v _, _, _, _, _, _, h => by cases h
  | .b _ _ _, .c _, _, _, _, _, _, h => by cases h
  | .b _ _ _, .u _ _, _, _, _, _, _, h => by cases h
  | .u s p, .u s' t, m, m', o, ot, dt, h => by
    rw [T.matched] at h
    split at h
    · exact T.matched_ok (p := p) o ot.2 (by simp [T.dp] at dt; omega) h
    · cases h
  | .b s p p2, .b s' t t2, m, m', o, ot, dt, h => by
    rw [T.matched] at h
    split at h
    · obtain ⟨m1, h1, h2⟩ := Option.bind_eq_some_iff.mp h
      simp [T.dp] at dt
      obtain ⟨a1, a2⟩ := T.matched_ok o ot.2.1 (by omega) h1
      obtain ⟨b1, b2⟩ := T.matched_ok a1 ot.2.2 (by omega) h2
      exact ⟨b1, by simp [T.lv]; omega⟩
    · cases h
def ansM : Option Sub → Ar
  | some m => .k (encSub m)
  | none => .d .none
def R_matched (n : Nat) : List Ar → Ar → Prop := fun as a => ∃ (p t : T) (m : Sub), as = [.d (enc p), .d (enc t), .k (encSub m)] ∧ p.ok ∧ t.ok ∧ p.dp < n ∧ t.dp ≤ 30 ∧ SubOk m ∧ m.length + p.lv ≤ 1000 ∧ a = ansM (p.matched t m)
theorem encSub_keys (m : Sub) : (encSub m).map (·.1) = (m.map (·.1)).map Sum.inr := by
  unfold encSub
  rw [List.map_map, List.map_map]
  rfl
theorem encSub_nodup {m : Sub} (h : (m.map (·.1)).Nodup) : ((encSub m).map (·.1)).Nodup := by
  rw [encSub_keys]
  refine List.Pairwise.map _ (fun a b h z => h ?_) h
  injection z
section
variable {P : Program} {w : World} {K : PySem.W.Frag} {mg : Str → Option Value} {base : Heap} {G : List Addr} {f : Addr} {fd : FuncData}
theorem cl_matched (D : DefF K mg base G "matched" s_matched ["pattern", "term", "table"] f fd) (iv : IV P w K mg base G) (m1 : mg "dict" = none) (m2 : mg "list" = none) (m3 : mg "len" = none) (m4 : mg "zip" = none) : ∀ n, Cl0 P w K mg base (n + 3) "matched" (spB G K (R_matched n))
  | 0 => (D.noneB fun as d ⟨t, _, _, _, _, _, h, _⟩ => Nat.not_lt_zero _ h).mono (Nat.zero_le _)
  | n + 1 => by
    have ih := cl_matched D iv m1 m2 m3 m4 n
    refine D.clB (k := n + 3) sc_matched (fun ds d r => by obtain ⟨t, _, _, rfl, _⟩ := r; rfl) fun c Pt A outer s H vs ds d Q E TB hP hr tG hv r q => ?_
    refine ⟨_, pss_cons (ps_if (pt_val (pe_cl iv (hr.mono (by omega)) rfl (pa_cons (pv 0) pa_nil)))
        (pss_cons (ps_if (pt_cmp (pc_din (hu_of hr) (pv 0) (pv 2))) (pss_one (ps_ret (pe_ifExp (pt_cmpR (op_eqD hr.units) (pe_dget (hu_of hr) (pv 2) (pv 0) (fun _ _ => rfl)) (pv 1) (nomark _)) (pv 2) pe_non))) pss_nil)
        (pss_one (ps_ret (pe_callTy (call_dictP rfl) (by rfl) m1 (by decide +kernel) (pa_cons (pe_op op_cat (pe_listItems rfl (pv 2) (by rfl) m2 (by decide +kernel)) (pe_lst (pa_cons (pe_tup (pa_cons (pv 0) (pa_cons (pv 1) pa_nil))) pa_nil))) pa_nil))))) pss_nil)
      (pss_cons (ps_if (PW.pt (pw_or (pt_val (pe_cl iv (hr.mono (by omega)) rfl (pa_cons (pv 1) pa_nil))) (pw_or (pt_cmpR op_ne (pe_ix ix_tup (pv 0) pe_int (fun _ _ => rfl)) (pe_ix ix_tup (pv 1) pe_int (fun _ _ => rfl)) (nomark _))
        (pw_or1 (pt_cmpR op_ne (pe_callB call_len_seq (by rfl) m3 PySem.boot_len (pa_cons (pe_ix ix_tup (pv 0) pe_int (fun _ _ => rfl)) pa_nil)) (pe_callB call_len_seq (by rfl) m3 PySem.boot_len (pa_cons (pe_ix ix_tup (pv 1) pe_int (fun _ _ => rfl)) pa_nil)) (nomark _)))))) (pss_one (ps_ret pe_non)) pss_nil)
      (pss_cons (ps_for PassesOwn.never rfl (RZ.pi_zipA (by rfl) m4 (pa_cons (pe_ix ix_tup (pv 0) pe_int (fun _ _ => rfl)) (pa_cons (pe_ix ix_tup (pv 1) pe_int (fun _ _ => rfl)) pa_nil)))
          (pg_tup rfl (pgs_cons (pg_name (i := 3) sc_matched.nd rfl (Or.inl rfl)) (pgs_cons (pg_name (i := 4) sc_matched.nd rfl (Or.inl rfl)) pgs_nil)))
        (pss_cons (ps_set (i := 2) sc_matched.nd rfl (Or.inl rfl) (pe_cl ih (hr.mono (by omega)) rfl (pa_cons (pv 3) (pa_cons (pv 4) (pa_cons (pv 2) pa_nil)))))
        (pss_one (ps_if (pt_cmp (pc_isN (pv 2))) (pss_one (ps_ret pe_non)) pss_nil))))
      (pss_one (ps_ret (pv 2))))), ?_⟩
    obtain ⟨p, t, m, rfl, op, ot, dp, dt, om, lm, rfl⟩ := r
    obtain ⟨v, u, z, rfl, rv, ru, rz⟩ := arA_three hv
    have v0 : ∀ {H' a b c}, Ext G H H' → Ed G K (tVar 0) [some v, some u, a, b, c] H' (enc p) := fun y => ed_var (tG.ext y) rfl (dp_ext y tG rv)
    have v1 : ∀ {H' a b c}, Ext G H H' → Ed G K (tVar 1) [some v, some u, a, b, c] H' (enc t) := fun y => ed_var (tG.ext y) rfl (dp_ext y tG ru)
    have v2 : ∀ {H' b c}, Ext G H H' → EdX G K (tVar 2) [some v, some u, some z, b, c] H' (.k (encSub m)) := fun y => edx_var (tG.ext y) rfl (ar_ext y tG rz)
    have rf := Ext.refl G H
    refine s_ifR (edt_val (ed_iv tG op (v0 rf))) (fun h H2 y => ?_) fun h H2 y => ?_
    · have t2 := tG.ext y
      cases p with
      | v x =>
        have v0' : ∀ {H' a b c}, Ext G H H' → Ed G K (tVar 0) [some v, some u, a, b, c] H' (.str x) := v0
        refine s_ifR (edt_val (ed_din t2 (v0' y) (v2 y))) (fun h3 H3 y3 => ?_) fun h3 H3 y3 => ?_
        · rw [valD_encSub] at h3
          cases hx : getS m x with
          | none => rw [hx] at h3; cases h3
          | some r =>
            have x3 := y.trans y3
            have t3 := tG.ext x3
            have or_ := om.ok _ (getS_mem hx)
            have e : T.matched (.v x) t m = if r = t then some m else none := by rw [T.matched, hx]
            refine sx_ret (K := K) (edx_if (a := ansM (T.matched (.v x) t m)) (edt_test (ed_op t3 (ed_dget t3 (v2 x3) (v0' x3) (d := enc r) (by rw [valD_encSub, hx]; rfl)) (v1 x3) (rd_eqT or_.1 ot or_.2 dt))) (fun h4 => edx_is (v2 x3) ?_) fun h4 => edx_is (edx_of ed_non) ?_) fun w H4 y4 rw_ => q w H4 (x3.trans y4) rw_
            · rw [e, if_pos (of_decide_eq_true h4)]
              rfl
            · rw [e, if_neg (of_decide_eq_false h4)]
              rfl
        · rw [valD_encSub] at h3
          have hx : getS m x = none := by
            cases hx : getS m x with
            | none => rfl
            | some r => rw [hx] at h3; cases h3
          have x3 := y.trans y3
          have t3 := tG.ext x3
          have e : T.matched (.v x) t m = some (m ++ [(x, t)]) := by rw [T.matched, hx]
          have em : encSub (m ++ [(x, t)]) = encSub m ++ [(.inr x, enc t)] := by simp [encSub]
          have ob := T.matched_ok om ot dt e
          refine sx_ret (K := K) (edx_is (edx_dictL (es := encSub m ++ [(.inr x, enc t)]) t3 (edl_is (edl_cat t3 (edl_items t3 (v2 x3)) (edl_lst t3 (ed_one (ed_tup t3 (ed_cons t3 (v0' x3) (ed_one (v1 x3))) (by show 2 ≤ sizeLine; decide))) (by show 1 ≤ sizeLine; decide)) ?_) ?_)) ?_) fun w H4 y4 rw_ => q w H4 (x3.trans y4) rw_
          · rw [List.length_map]
            unfold encSub
            rw [List.length_map]
            exact Nat.le_trans (show m.length + 1 ≤ 2000 by omega) (by decide)
          · rw [List.map_append]
            rfl
          · rw [mergeE_nodup (by rw [List.nil_append, ← em]; exact encSub_nodup ob.1.nd), List.nil_append, e, ← em]
            rfl
      | c _ => cases h
      | u _ _ => cases h
      | b _ _ _ => cases h
    · have t2 := tG.ext y
      by_cases hv2 : t.isV = true
      · refine s_ifR (b := true) (edt_or (b := true) (c := true) (edt_is (edt_val (ed_iv t2 ot (v1 y))) hv2) fun z => by cases z) (fun _ H3 y3 => ?_) (fun z => by cases z)
        refine sx_ret (K := K) (edx_of ed_non) fun w H4 y4 rw_ => q w H4 ((y.trans y3).trans y4) ?_
        rw [T.matched_no h (.inl hv2)]
        exact rw_
      have hv2' : t.isV = false := by simpa using hv2
      refine s_ifR (edt_or (b := false) (edt_is (edt_val (ed_iv t2 ot (v1 y))) hv2') fun _ => edt_or (edt_test (ed_op t2 (ed_sgn t2 h (v0 y)) (ed_sgn t2 hv2' (v1 y)) rd_neS)) fun _ =>
        edt_test (ed_op t2 (ed_cb (ed_one (ed_parts t2 h (v0 y))) rdc_len) (ed_cb (ed_one (ed_parts t2 hv2' (v1 y))) rdc_len) rd_neI)) (fun h3 H3 y3 => ?_) fun h3 H3 y3 => ?_
      · refine sx_ret (K := K) (edx_of ed_non) fun w H4 y4 rw_ => q w H4 ((y.trans y3).trans y4) ?_
        rw [T.matched_no h (.inr ?_)]
        · exact rw_
        · simp only [List.length_map] at h3
          by_cases e : p.sgn = t.sgn
          · exact .inr fun z => by simp [e, z] at h3
          · exact .inl e
      · simp only [List.length_map] at h3
        have h4 : p.sgn = t.sgn ∧ p.parts.length = t.parts.length := by
          constructor
          · exact Decidable.byContradiction fun z => by simp [z] at h3
          · refine Decidable.byContradiction fun z => ?_
            have z' : ¬ ((p.parts.length : Nat) : Int) = (t.parts.length : Nat) := by omega
            simp [z'] at h3
        have x3 := y.trans y3
        have t3 := tG.ext x3
        rw [T.matched_n h hv2' h4.1 h4.2] at q
        refine s_forZH (K := K) t3 (ed_cons t3 (ed_parts t3 h (v0 x3)) (ed_one (ed_parts t3 hv2' (v1 x3)))) (by rw [List.length_map, List.length_map, h4.2])
          (fun i σ' H' => ∃ z' b c m', σ' = [some v, some u, some z', b, c] ∧ ArR K H' z' (.k (encSub m')) ∧ SubOk m' ∧ m'.length + ((p.parts.drop i).map T.lv).sum ≤ 1000 ∧ matchA p.parts t.parts m = matchA (p.parts.drop i) (t.parts.drop i) m')
          (fun H4 y4 => ⟨z, none, none, m, rfl, ar_ext (x3.trans y4) tG rz, om, ?_, rfl⟩) ?_ ?_ ?_
        · have : (p.parts.map T.lv).sum = p.lv := by cases p <;> simp [T.parts, T.lv] <;> cases h
          rw [List.drop_zero]
          omega
        · rintro i σ' H4 H5 x4 t4 ⟨z', b, c, m', e1, e2, e3⟩
          exact ⟨z', b, c, m', e1, ar_ext x4 t4 e2, e3⟩
        · rintro i d d2 va ua T2 σ' H4 N hd1 hd2 ⟨z', b0, c0, m', rfl, rz', om', lm', em'⟩ x4 ra rb hT t4 hN
          rw [List.getElem?_map] at hd1 hd2
          obtain ⟨pa, hp, rfl⟩ := Option.map_eq_some_iff.mp hd1
          obtain ⟨tb, hp2, rfl⟩ := Option.map_eq_some_iff.mp hd2
          have mp := List.mem_of_getElem? hp
          have mp2 := List.mem_of_getElem? hp2
          have dr : ∀ {l : List Rh.T} {q : Rh.T}, l[i]? = some q → l.drop i = q :: l.drop (i + 1) := fun hk => by
            obtain ⟨h1, h2⟩ := List.getElem?_eq_some_iff.mp hk
            rw [List.drop_eq_getElem_cons h1, h2]
          rw [dr hp, dr hp2, matchA] at em'
          rw [dr hp, List.map_cons, List.sum_cons] at lm'
          have x5 := x3.trans x4
          have dpp := T.dp_parts mp
          have dpt := T.dp_parts mp2
          refine ⟨T2, [va, ua], rfl, .inl (.inl hT), rfl, va, [ua], rfl, ua, [], rfl, rfl, ?_⟩
          refine sx_set (K := K) (eb_call t4 (ea_cons t4 (edx_of (ed_var t4 rfl ra)) (ea_cons t4 (edx_of (ed_var t4 rfl rb)) (ea_one (edx_var t4 rfl rz')))) (show R_matched n _ (ansM (pa.matched tb m')) from ⟨pa, tb, m', rfl, T.ok_parts op mp, T.ok_parts ot mp2, by omega, by omega, om', by omega, rfl⟩)) fun w1 H5 y5 rw1 => ?_
          have t5 := t4.ext y5
          refine s_if (edt_val (ed_isN (edx_var t5 rfl rw1))) (fun h5 H6 y6 => ?_) fun h5 H6 y6 => ?_
          · have e5 : pa.matched tb m' = none := by
              cases e : pa.matched tb m' with
              | none => rfl
              | some _ => rw [e] at h5; cases h5
            refine sx_ret (K := K) (edx_of ed_non) fun w2 H7 y7 rw2 => q w2 H7 (((x5.trans y5).trans y6).trans y7) ?_
            rw [em', e5]
            exact rw2
          · cases e : pa.matched tb m' with
            | none => rw [e] at h5; cases h5
            | some m2 =>
              have ob := T.matched_ok om' (T.ok_parts ot mp2) (by omega) e
              rw [e] at rw1
              rw [e] at em'
              exact hN _ H6 (y5.trans y6) ⟨w1, some va, some ua, m2, rfl, ar_ext y6 t5 rw1, ob.1, by omega, em'⟩
        · rintro σ' H4 x4 ⟨z', b0, c0, m', rfl, rz', om', lm', em'⟩
          have t4 := t3.ext x4
          refine sx_ret (K := K) (edx_var t4 rfl rz') fun w1 H5 y5 rw1 => q w1 H5 ((x3.trans x4).trans y5) ?_
          rw [em', List.length_map, List.drop_length]
          have : matchA [] (List.drop p.parts.length t.parts) m' = some m' := by cases (List.drop p.parts.length t.parts) <;> rfl
          rw [this]
          exact rw1
end
end Rh
set_option Elab.async false
set_option linter.all false
set_option maxRecDepth 100000
set_option maxHeartbeats 1000000
namespace Dl
open PySem PySem.Spec PyProof.Rows L2 GxR Gx LiI
theorem putE_keys_in {es : List (Key × PyData)} {k : Key} {d : PyData} (h : k ∈ es.map (·.1)) : (putE es k d).map (·.1) = es.map (·.1) := by
  unfold putE
  rw [if_pos, List.map_map]
  · refine List.map_congr_left fun e _ => ?_
    simp only [Function.comp_def]
    split <;> rfl
  · obtain ⟨e, he, rfl⟩ := List.mem_map.mp h
    exact List.any_eq_true.mpr ⟨e, he, decide_eq_true rfl⟩
theorem mergeE_len_eq : ∀ {fs es : List (Key × PyData)}, (es.map (·.1)).Nodup → ((mergeE es fs).length = es.length + fs.length ↔ ((es ++ fs).map (·.1)).Nodup)
  | [], es, h => by
    rw [List.append_nil]
    exact ⟨fun _ => h, fun _ => rfl⟩
  | f :: fs, es, h => by
    show (mergeE (putE es f.1 f.2) fs).length = _ ↔ _
    by_cases hk : f.1 ∈ es.map (·.1)
    · have h1 := putE_keys_in (d := f.2) hk
      have h2 : (putE es f.1 f.2).length = es.length := by
        have := congrArg List.length h1
        rwa [List.length_map, List.length_map] at this
      have h3 := mergeE_len fs (putE es f.1 f.2)
      constructor
      · intro e
        rw [List.length_cons] at e
        omega
      · intro z
        rw [List.map_append, List.map_cons, List.nodup_append] at z
        exact absurd rfl (z.2.2 _ hk _ List.mem_cons_self)
    · rw [putE_new hk]
      have h1 : ((es ++ [(f.1, f.2)]).map (·.1)).Nodup := by
        rw [List.map_append, List.nodup_append]
        refine ⟨h, by simp, fun a ha b hb z => ?_⟩
        rw [List.map_cons, List.map_nil, List.mem_singleton] at hb
        subst hb
        subst z
        exact hk ha
      have ih := mergeE_len_eq (fs := fs) h1
      rw [List.append_assoc] at ih
      rw [List.length_append] at ih
      constructor
      · intro e
        refine ih.mp ?_
        rw [e, List.length_cons]
        simp
        omega
      · intro z
        rw [ih.mpr z, List.length_cons]
        simp
        omega
theorem edx_dnew {G : List Addr} {K : PySem.W.Frag} {σ : L2.St} {H : Hp} : EdX G K tDNewK σ H (.k []) := fun H1 x Q q p hp => q _ _ (Ext.new hp) ⟨p, [], rfl, upd_same, .nil⟩
end Dl
namespace Rh
open PySem PySem.Spec PyProof.Rows L2 GxR Gx Dl LiI
/-- one is the other but for its variables' names -/
def variantB (a b : T) : Bool := match a.matched b [] with
  | some m => m.all (fun q => q.2.isV) && decide (m.map fun q => q.2.sgn).Nodup
  | none => false
def R_variant : List Ar → PyData → Prop := fun as d => ∃ a b : T, as = [.d (enc a), .d (enc b)] ∧ a.ok ∧ b.ok ∧ a.dp < 12 ∧ b.dp ≤ 30 ∧ a.lv ≤ 1000 ∧ d = .bool (variantB a b)
section
variable {P : Program} {w : World} {K : PySem.W.Frag} {mg : Str → Option Value} {base : Heap} {G : List Addr} {f : Addr} {fd : FuncData}
end
end Rh
set_option Elab.async false
set_option linter.all false
set_option maxRecDepth 100000
set_option maxHeartbeats 1000000
namespace Dl
open PySem PySem.Spec PyProof.Rows L2 GxR Gx LiI
theorem rd_addS {G : List Addr} {K : PySem.W.Frag} {H : Hp} {x y : Str} (h : x.length + y.length ≤ sizeLine) : Rd2 G K (fun x y H Q => ∃ i j, x = .str i ∧ y = .str j ∧ i.length + j.length ≤ sizeLine ∧ Q (.str (i ++ j)) H) (.str x) (.str y) (.str (x ++ y)) H := fun H1 _ v u rv ru Q q =>
  ⟨x, y, dp_str rv, dp_str ru, h, q _ H1 (Ext.refl G H1) (.str _)⟩
theorem rdc_strI {G : List Addr} {K : PySem.W.Frag} {H : Hp} {i : Int} (h : i.natAbs.log2 < 1920) : RdC G K (fun xs H Q => ∃ i, xs = [.int i] ∧ i.natAbs.log2 < 1920 ∧ Q (.str (toString i)) H) [.int i] (.str (toString i)) H := fun H1 x vs rs Q q => by
  obtain ⟨v, rfl, rv⟩ := dpA_one rs
  exact ⟨i, by rw [dp_int rv], h, q _ H1 (Ext.refl G H1) (.str _)⟩
theorem s_dput0 {td ty tv : TE} {u : TS} {D : Ends} {σ : L2.St} {H : Hp} (h : tv σ H fun v H1 => td σ H1 fun x H2 => ty σ H2 fun y H3 => ∃ a H4, x = .ref a ∧ DPut H3 a y v H4 ∧ u D σ H4) : tSeq (sDPut td ty tv) u D σ H := h
theorem s_next {D : Ends} {σ : L2.St} {H : Hp} (h : D.nx σ H) : tNext D σ H := h
/-- what was not there at H may change -/
theorem dkR_mut {G : List Addr} {K : PySem.W.Frag} {H' : Hp} {D : Addr} {acc acc2 : List (Key × V)} {ks : List (Key × V)} {es : List (Key × PyData)} (e : H' D = some (.dK acc)) (hp : ∀ e ∈ es, Pu e.2 = true) (r : DkR K H' ks es) : DkR K (upd H' D (.dK acc2)) ks es := dkR_tups (fun _ _ q => sqT_updD e q) hp r
end Dl
namespace Rh
open PySem PySem.Spec PyProof.Rows L2 GxR Gx Dl LiI
def wN (k : Nat) : Str := Str.ofString "w" ++ (toString (k : Int) : String)
def T.occ : T → List Str
  | .v x => [x]
  | .c _ => []
  | .u _ t => t.occ
  | .b _ t r => t.occ ++ r.occ
def renGo : List Str → Sub → Nat → Sub
  | [], m, _ => m
  | x :: r, m, k => if (getS m x).isSome = true then renGo r m k else renGo r (m ++ [(x, .v (wN k))]) (k + 1)
def renS (t : T) (k : Nat) : Sub := renGo t.occ [] k
def T.vAt (t : T) (p : List Nat) : Option Str := match t.at p with
  | some (.v x) => some x
  | _ => none
theorem T.occ_places : ∀ t : T, t.places.filterMap t.vAt = t.occ
  | .v x => rfl
  | .c s => rfl
  | .u s t => by
    have ih := T.occ_places t
    rw [T.places, List.filterMap_cons, List.filterMap_map]
    have e : (T.u s t).vAt ∘ (fun x => 0 :: x) = t.vAt := funext fun p => by
      simp [T.vAt, T.at]
    rw [e, ih]
    rfl
  | .b s t r => by
    have ih := T.occ_places t
    have ih2 := T.occ_places r
    rw [T.places, List.filterMap_cons, List.filterMap_append, List.filterMap_map, List.filterMap_map]
    have e : (T.b s t r).vAt ∘ (fun x => 0 :: x) = t.vAt := funext fun p => by
      simp [T.vAt, T.at]
    have e2 : (T.b s t r).vAt ∘ (fun x => 1 :: x) = r.vAt := funext fun p => by
      simp [T.vAt, T.at]
    rw [e, e2, ih, ih2]
    rfl
theorem T.occ_len : ∀ t : T, t.occ.length = t.lv
  | .v x => rfl
  | .c s => rfl
  | .u s t => T.occ_len t
  | .b s t r => by rw [T.occ, List.length_append, T.occ_len t, T.occ_len r]; rfl
theorem wN_ok {k : Nat} (h : k < 30) : isVarS (wN k) = true ∧ (wN k).length ≤ 10 ∧ PyData.strOk (wN k) = true := by
  have : ∀ k : Fin 30, isVarS (wN k) = true ∧ (wN k).length ≤ 10 ∧ PyData.strOk (wN k) = true := by decide +kernel
  exact this ⟨k, h⟩
def R_renamed : List Ar → PyData → Prop := fun as d => ∃ (t : T) (k : Nat), as = [.d (enc t), .d (.int k)] ∧ t.ok ∧ t.dp < 12 ∧ k + t.lv < 30 ∧ d = enc (t.put (renS t k))
section
variable {P : Program} {w : World} {K : PySem.W.Frag} {mg : Str → Option Value} {base : Heap} {G : List Addr} {f : Addr} {fd : FuncData}
end
end Rh
set_option Elab.async false
set_option linter.all false
set_option maxRecDepth 100000
set_option maxHeartbeats 1000000
namespace Dl
open PySem PySem.Spec PyProof.Rows L2 GxR Gx LiI
theorem s_lockSet {te : TE} {i : Nat} {D : Ends} {σ : L2.St} {H : Hp} (h : tLockE te σ H fun v H' => D.nx (σ.set i (some v)) H') : tLock (tAsg te (gName i)) D σ H := h
theorem s_seq {t u : TS} {D : Ends} {σ : L2.St} {H : Hp} (h : t { D with nx := u D } σ H) : tSeq t u D σ H := h
end Dl
namespace Rh
open PySem PySem.Spec PyProof.Rows L2 GxR Gx Dl LiI
theorem sc_after : FnScope ["first", "then", "name", "term", "found"] ["first", "then"] (defScope s_after) := ⟨rfl, rfl, rfl, by decide +kernel, rfl, by decide +kernel, by decide +kernel⟩
def setD1 (acc : Sub) (q : Str × T) : Sub := if (getS acc q.1).isSome = true then acc else acc ++ [q]
def putAll (m1 m2 : Sub) : Sub := m1.map fun q => (q.1, q.2.put m2)
def setsD (b m : Sub) : Sub := m.foldl setD1 b
theorem putAll_keys (m1 m2 : Sub) : (putAll m1 m2).map (·.1) = m1.map (·.1) := by unfold putAll; rw [List.map_map]; rfl
theorem setD1_some {acc : Sub} {q : Str × T} (h : (getS acc q.1).isSome = true) : setD1 acc q = acc := if_pos h
theorem setD1_none {acc : Sub} {q : Str × T} (h : getS acc q.1 = none) : setD1 acc q = acc ++ [q] := if_neg (by rw [h]; decide)
theorem setD1_len (acc : Sub) (q : Str × T) : (setD1 acc q).length ≤ acc.length + 1 := by
  unfold setD1
  split
  · omega
  · rw [List.length_append]; simp
def afterS (m1 m2 : Sub) : Sub := (setsD (putAll m1 m2) m2).filter fun q => !decide (q.2 = .v q.1)
structure SubB (b : Nat) (m : Sub) : Prop where
  nd : (m.map (·.1)).Nodup
  ok : ∀ q ∈ m, q.2.ok ∧ q.2.dp ≤ b
  nm : ∀ q ∈ m, (T.v q.1).ok
theorem T.put_ok {m : Sub} (h : ∀ q ∈ m, q.2.ok) : ∀ {t : T}, t.ok → (t.put m).ok
  | .v x, o => by
    rw [T.put]
    cases e : getS m x with
    | none => exact o
    | some r => exact h _ (getS_mem e)
  | .c _, o => o
  | .u _ t, o => ⟨o.1, T.put_ok h o.2⟩
  | .b _ t r, o => ⟨o.1, T.put_ok h o.2.1, T.put_ok h o.2.2⟩
theorem T.put_dp {m : Sub} {b : Nat} (h : ∀ q ∈ m, q.2.dp ≤ b) : ∀ {t : T}, (t.put m).dp ≤ t.dp + b
  | .v x => by
    rw [T.put]
    cases e : getS m x with
    | none => simp [T.dp]
    | some r =>
      have := h _ (getS_mem e)
      show r.dp ≤ _
      simp [T.dp]
      exact this
  | .c _ => by simp [T.put, T.dp]
  | .u _ t => by
    have := T.put_dp h (t := t)
    simp only [T.put, T.dp]
    omega
  | .b _ t r => by
    have := T.put_dp h (t := t)
    have := T.put_dp h (t := r)
    simp only [T.put, T.dp]
    omega
theorem getS_some {m : Sub} {x : Str} (h : x ∈ m.map (·.1)) : (getS m x).isSome = true := by
  cases e : getS m x with
  | some _ => rfl
  | none => exact absurd h (getS_none e)
theorem setD1_ok {acc : Sub} {q : Str × T} {b : Nat} (o : SubB b acc) (h1 : q.2.ok) (h2 : q.2.dp ≤ b) (h3 : (T.v q.1).ok) : SubB b (setD1 acc q) := by
  unfold setD1
  split
  · exact o
  · next h =>
    have hn : getS acc q.1 = none := by
      cases e : getS acc q.1 with
      | none => rfl
      | some _ => rw [e] at h; exact absurd rfl h
    refine ⟨?_, fun r hr => ?_, fun r hr => ?_⟩
    · rw [List.map_append, List.nodup_append]
      refine ⟨o.nd, by simp, fun a ha b hb z => ?_⟩
      rw [List.map_cons, List.map_nil, List.mem_singleton] at hb
      subst hb
      subst z
      exact getS_none hn ha
    · rcases List.mem_append.mp hr with z | z
      · exact o.ok r z
      · rw [List.mem_singleton.mp z]; exact ⟨h1, h2⟩
    · rcases List.mem_append.mp hr with z | z
      · exact o.nm r z
      · rw [List.mem_singleton.mp z]; exact h3
def spAfter (G : List Addr) (K : PySem.W.Frag) : Sp := fun vs H Q _ => TabsG G H ∧ ∃ (a1 a2 : Addr) (m1 m2 : Sub), vs = [.ref a1, .ref a2] ∧ a1 ≠ a2 ∧ ArR K H (.ref a1) (.k (encSub m1)) ∧ ArR K H (.ref a2) (.k (encSub m2)) ∧ SubB 5 m1 ∧ SubB 5 m2 ∧ m1.length ≤ 100 ∧ m2.length ≤ 100 ∧
  ∀ v H', Ext G H H' → ArR K H' v (.k (encSub (afterS m1 m2))) → Q v H'
theorem encSub_pu (m : Sub) : ∀ e ∈ encSub m, Pu e.2 = true := fun e he => by
  obtain ⟨p, _, rfl⟩ := List.mem_map.mp he
  exact pu_enc _
section
variable {P : Program} {w : World} {K : PySem.W.Frag} {mg : Str → Option Value} {base : Heap} {G : List Addr} {f : Addr} {fd : FuncData}
theorem cl_after (D : DefF K mg base G "after" s_after ["first", "then"] f fd) (pu : Cl0 P w K mg base 26 "put" (spA G K (R_put 12))) : Cl0 P w K mg base 27 "after" (spAfter G K) := by
  refine D.clS (k := 26) sc_after (fun vs H Q E h => by obtain ⟨_, _, _, _, _, rfl, _⟩ := h; rfl) fun c Pt A outer s H vs Q E TB hP hr h => ?_
  refine ⟨_, pss_cons (ps_lock (ps_setDc (i := 4) (own := [("name", 2), ("term", 3)]) (g := gTup K 2 (gCons (gName 2) (gCons (gName 3) gNil))) (tt := tYes) rfl sc_after.nd rfl rfl (sw_trueD rfl rfl rfl (by decide +kernel)) (pi_items (pv 0)) (blkOk_by (N := ["first", "then", "name", "term", "found"]) (sc := defScope s_after) (by decide +kernel))
      (fun _ _ _ _ _ => pg_tup rfl (pgs_cons (pg_name (i := 2) sc_after.nd rfl (Or.inl rfl)) (pgs_cons (pg_name (i := 3) sc_after.nd rfl (Or.inl rfl)) pgs_nil))) (fun _ _ _ _ _ => pts_nil) (fun _ _ _ _ _ => pv 2) (fun _ _ _ _ _ => pe_cl pu hr rfl (pa_cons (pv 3) (pa_cons (pv 1) pa_nil)))))
    (pss_cons (ps_lock (ps_for PassesOwn.never rfl (pi_items (pv 1)) (pg_tup rfl (pgs_cons (pg_name (i := 2) sc_after.nd rfl (Or.inl rfl)) (pgs_cons (pg_name (i := 3) sc_after.nd rfl (Or.inl rfl)) pgs_nil)))
      (pss_one (ps_expr (pe_dsetd (pv 4) (pv 2) (pv 3) ⟨rfl, rfl, rfl, rfl⟩)))))
    (pss_one (ps_ret (pe_lock (pe_dc (own := [("name", 2), ("term", 3)]) (g := gTup K 2 (gCons (gName 2) (gCons (gName 3) gNil))) (tt := tTest (tOp (rNeD K) (tVar 3) (tVar 2))) rfl sc_after.nd (pi_items (pv 4)) (blkOk_by (N := ["first", "then", "name", "term", "found"]) (sc := defScope s_after) (by decide +kernel))
      (fun _ _ _ _ _ => pg_tup rfl (pgs_cons (pg_name (i := 2) sc_after.nd rfl (Or.inl rfl)) (pgs_cons (pg_name (i := 3) sc_after.nd rfl (Or.inl rfl)) pgs_nil))) (fun _ _ _ _ _ => pts_one (pt_cmpR (op_neD hr.units) (pv 3) (pv 2) (nomark _))) (fun _ _ _ _ _ => pv 2) (fun _ _ _ _ _ => pv 3)))))), ?_⟩
  obtain ⟨tG, a1, a2, m1, m2, rfl, ne, r1, r2, o1, o2, l1, l2, q⟩ := h
  have lz : ∀ {m : Sub}, m.length ≤ 1000 → (encSub m).length ≤ 100000 := fun h => by unfold encSub; rw [List.length_map]; omega
  have dec_fst : ∀ {m : Sub} {e : Key × PyData}, e ∈ encSub m → ∃ p ∈ m, e = (.inr p.1, enc p.2) := fun he => by
    obtain ⟨p, hp, rfl⟩ := List.mem_map.mp he
    exact ⟨p, hp, rfl⟩
  have E1 : EdXN G K (tLockE (tDc (iItems (tVar 0)) (gTup K 2 (gCons (gName 2) (gCons (gName 3) gNil))) tYes (tVar 2) (tCall (spA G K (R_put 12)) [] (fun _ _ _ => False) (tCons (tVar 3) (tCons (tVar 1) tNil))) [2, 3])) (start ["first", "then", "name", "term", "found"] [.ref a1, .ref a2]) H (mergeE [] (dcOut (encSub m1) (fun _ => true) (fun e => e.1) (fun e => enc ((dec e.2).put m2)))) := by
    refine edxn_dcItems (v := .ref a1) tG rfl r1 (by decide) (by decide) (lz (by omega)) (encSub_pu m1) (fun e he => pu_enc _) (fun e u H1 he lk t1 ru => edt_yes) (fun e u H1 he _ lk t1 ru => ?_) fun e u H1 he _ lk t1 ru => ?_
    · obtain ⟨p, hp, rfl⟩ := dec_fst he
      exact ed_var t1 rfl (.str _)
    · obtain ⟨p, hp, rfl⟩ := dec_fst he
      show Ed G K _ _ H1 (enc ((dec (enc p.2)).put m2))
      rw [dec_enc]
      have op := o1.ok p hp
      exact ea_call t1 (ea_cons t1 (edx_of (ed_var t1 rfl ru)) (ea_one (edx_var t1 rfl ((lk a1 rfl).ar tG (Ne.symm ne) (encSub_pu m2) r2)))) ⟨p.2, m2, rfl, op.1, by omega, rfl⟩
  refine s_seq (s_lockSet (E1 H (Ext.refl G H) _ fun F acc0 H2 hF x2 eF dk0 => ?_))
  have e1 : mergeE [] (dcOut (encSub m1) (fun _ => true) (fun e => e.1) (fun e => enc ((dec e.2).put m2))) = encSub (putAll m1 m2) := by
    have e : dcOut (encSub m1) (fun _ => true) (fun e => e.1) (fun e => enc ((dec e.2).put m2)) = encSub (putAll m1 m2) := by
      unfold dcOut
      rw [List.filter_eq_self.mpr fun _ _ => rfl]
      simp [encSub, putAll, dec_enc, Function.comp_def]
    rw [e, mergeE_nodup]
    · rfl
    · rw [List.nil_append]
      refine encSub_nodup ?_
      rw [putAll_keys]
      exact o1.nd
  rw [e1] at dk0
  have t2 := tG.ext x2
  obtain ⟨a2', kvs2, e2', hd2, dk2⟩ := r2
  cases e2'
  have hd22 := x2.at tG hd2 (fun ps z => by cases z)
  have nF2 : F ≠ a2 := fun z => by rw [z, hd2] at hF; cases hF
  refine s_seq ⟨a2, .dK kvs2, hd22, trivial, fun od => ?_⟩
  have xb : Ext G (upd H a2 (.frz od (.dK kvs2))) (upd H2 a2 (.frz od (.dK kvs2))) := ext_lock x2 tG hd2
  have tB := tabs_lock tG hd2 (o := .frz od (.dK kvs2))
  have hF' : (upd H a2 (.frz od (.dK kvs2))) F = none := by rw [upd_ne nF2]; exact hF
  have hB : (upd H a2 (.frz od (.dK kvs2))) a2 = some (.frz od (.dK kvs2)) := upd_same
  have dkB := dkR_tups (fun _ _ q => sqT_updD hd2 q) (encSub_pu m2) dk2 (H' := upd H a2 (.frz od (.dK kvs2)))
  have len := dkR_len dkB
  have len2 : kvs2.length = m2.length := by rw [len]; unfold encSub; rw [List.length_map]
  have ob0 : SubB 10 (putAll m1 m2) := by
    refine ⟨by rw [putAll_keys]; exact o1.nd, fun q hq => ?_, fun q hq => ?_⟩
    · obtain ⟨p, hp, rfl⟩ := List.mem_map.mp hq
      have op := o1.ok p hp
      exact ⟨T.put_ok (fun q hq => (o2.ok q hq).1) op.1, by have := T.put_dp (fun q hq => (o2.ok q hq).2) (t := p.2); show (p.2.put m2).dp ≤ 10; omega⟩
    · obtain ⟨p, hp, rfl⟩ := List.mem_map.mp hq
      exact o1.nm p hp
  refine ⟨.ref a2, rfl, a2, od, kvs2, rfl, upd_same, fun i m σ' H' => m = kvs2.length - i ∧ i ≤ kvs2.length ∧ Ext G (upd H a2 (.frz od (.dK kvs2))) H' ∧ ∃ (b c : Option V) (acc : List (Key × V)), σ' = [some (.ref a1), some (.ref a2), b, c, some (.ref F)] ∧ H' F = some (.dK acc) ∧ DkR K H' acc (encSub (setsD (putAll m1 m2) (m2.take i))) ∧ SubB 10 (setsD (putAll m1 m2) (m2.take i)) ∧ (setsD (putAll m1 m2) (m2.take i)).length ≤ 100 + i,
    ⟨kvs2.length, rfl, Nat.zero_le _, xb, none, none, acc0, rfl, by rw [upd_ne nF2]; exact eF, dkR_tups (fun _ _ q => sqT_updD hd22 q) (encSub_pu _) dk0, ob0, by simp [setsD, putAll]; exact l1⟩, ?_⟩
  rintro i m σ' H' ⟨rfl, hi, y1, b0, c0, acc, rfl, eF', dk', ob, lb⟩
  have hA := y1.at tB hB (fun ps z => by cases z)
  by_cases hlt : i < kvs2.length
  · refine .inr ⟨⟨hA, hlt⟩, fun σ2 H3 => Ext G (upd H a2 (.frz od (.dK kvs2))) H3 ∧ ∃ (b c : Option V) (acc : List (Key × V)), σ2 = [some (.ref a1), some (.ref a2), b, c, some (.ref F)] ∧ H3 F = some (.dK acc) ∧ DkR K H3 acc (encSub (setsD (putAll m1 m2) (m2.take (i + 1)))) ∧ SubB 10 (setsD (putAll m1 m2) (m2.take (i + 1))) ∧ (setsD (putAll m1 m2) (m2.take (i + 1))).length ≤ 100 + (i + 1), fun σ2 H3 z => ⟨kvs2.length - (i + 1), by omega, rfl, hlt, z.1, z.2⟩, fun x H3 hx => ?_⟩
    obtain ⟨T0, kk, vv, ek, rfl, hT, rfl⟩ := hx
    obtain ⟨e, he, e4, rd⟩ := dkR_getV dkB ek
    have me := List.mem_of_getElem? he
    obtain ⟨p, hp, rfl⟩ := dec_fst me
    have hp2 : m2[i]? = some p := by
      unfold encSub at he
      rw [List.getElem?_map] at he
      obtain ⟨p', hp', e'⟩ := Option.map_eq_some_iff.mp he
      have e1 : p'.1 = p.1 := by
        have := congrArg Prod.fst e'
        injection this
      have e2 : p'.2 = p.2 := enc_inj (congrArg Prod.snd e')
      rw [hp', show p' = p from Prod.ext e1 e2]
    have e4' : kk = .inr p.1 := e4
    subst e4'
    have y2 : Ext G H' (upd H' T0 (.tup [kV (.inr p.1), vv])) := Ext.new hT
    have yy := y1.trans y2
    have rdp : Dp K (upd H' T0 (.tup [kV (.inr p.1), vv])) vv (enc p.2) := dp_ext yy tB rd
    have tH := tB.ext y1
    have eF2 := y2.at tH eF' (fun ps z => by cases z)
    have dkF := dkR_ext y2 tH dk'
    have op := o2.ok p hp
    have ob' := setD1_ok (q := p) ob op.1 (by omega) (o2.nm p hp)
    have et : setsD (putAll m1 m2) (m2.take (i + 1)) = setD1 (setsD (putAll m1 m2) (m2.take i)) p := by
      unfold setsD
      rw [take_snoc hp2, List.foldl_append]
      rfl
    have ll : (setD1 (setsD (putAll m1 m2) (m2.take i)) p).length ≤ 100 + (i + 1) := by
      have := setD1_len (setsD (putAll m1 m2) (m2.take i)) p
      omega
    rw [← et] at ob' ll
    have dv := dkR_val (.inr p.1) dkF
    refine ⟨T0, [kV (.inr p.1), vv], rfl, .inl (.inl upd_same), rfl, kV (.inr p.1), [vv], rfl, vv, [], rfl, rfl, ?_⟩
    refine ⟨.ref F, rfl, F, rfl, .inl ⟨acc, .inl eF2⟩, .str p.1, rfl, vv, rfl, acc, .inr p.1, eF2, rfl, ?_, fun v hv => ?_, fun hv => ?_⟩
    · rw [dkR_len dkF]
      unfold encSub
      rw [List.length_map]
      exact Nat.lt_of_lt_of_le (show _ < 1000 by omega) (by decide)
    · refine ⟨yy, some (.str p.1), some vv, acc, rfl, eF2, ?_, ob', ll⟩
      rw [et]
      rw [setD1_some]
      · exact dkF
      · cases e : getS (setsD (putAll m1 m2) (m2.take i)) p.1 with
        | some _ => rfl
        | none =>
          have := dv.1 (by rw [valD_encSub, e]; rfl)
          rw [this] at hv
          cases hv
    · have hn : getS (setsD (putAll m1 m2) (m2.take i)) p.1 = none := by
        cases e : getS (setsD (putAll m1 m2) (m2.take i)) p.1 with
        | none => rfl
        | some r =>
          obtain ⟨v, hv2, _⟩ := dv.2 (enc r) (by rw [valD_encSub, e]; rfl)
          rw [hv2] at hv
          cases hv
      refine ⟨yy.mut hF' eF2 (fun ps z => by cases z), some (.str p.1), some vv, _, rfl, upd_same, ?_, ob', ll⟩
      rw [et]
      rw [setD1_none hn]
      have ePut : putE (encSub (setsD (putAll m1 m2) (m2.take i))) (.inr p.1) (enc p.2) = encSub (setsD (putAll m1 m2) (m2.take i) ++ [p]) := by
        rw [putE_new]
        · unfold encSub
          rw [List.map_append]
          rfl
        · rw [encSub_keys]
          intro z
          obtain ⟨x, hx, ex⟩ := List.mem_map.mp z
          injection ex with ex
          subst ex
          exact getS_none hn hx
      rw [← ePut]
      exact dkR_mut (G := G) eF2 (putE_pu (encSub_pu _) (pu_enc _)) (dkR_put dkF rdp)
  · have ee : i = kvs2.length := by omega
    subst ee
    rw [len2, List.take_length] at dk' ob lb
    refine .inl ⟨⟨hA, Nat.le_refl _⟩, hA, ?_⟩
    have x3 : Ext G H (upd H' a2 (.dK kvs2)) := ext_unlock tG hd2 y1
    have t3 := tG.ext x3
    have eF3 : (upd H' a2 (.dK kvs2)) F = some (.dK acc) := by rw [upd_ne nF2]; exact eF'
    have dk3 : DkR K (upd H' a2 (.dK kvs2)) acc (encSub (setsD (putAll m1 m2) m2)) := dkR_tups (fun a xs qq => by
      rcases qq with qq | qq
      · rcases qq with qq | ⟨ob, qq⟩
        · exact .inl (.inl (by rw [upd_ne (fun z => by rw [z, hA] at qq; cases qq)]; exact qq))
        · exact .inl (.inr ⟨ob, by rw [upd_ne (fun z => by rw [z, hA] at qq; cases qq)]; exact qq⟩)
      · exact .inr qq) (encSub_pu _) dk'
    generalize hm : setsD (putAll m1 m2) m2 = m3 at *
    have E3 : EdXN G K (tLockE (tDc (iItems (tVar 4)) (gTup K 2 (gCons (gName 2) (gCons (gName 3) gNil))) (tTest (tOp (rNeD K) (tVar 3) (tVar 2))) (tVar 2) (tVar 3) [2, 3])) [some (.ref a1), some (.ref a2), b0, c0, some (.ref F)] (upd H' a2 (.dK kvs2)) (mergeE [] (dcOut (encSub m3) (fun e => !decide (dec e.2 = .v (unS (keyD e.1)))) (fun e => e.1) (fun e => e.2))) := by
      refine edxn_dcItems (v := .ref F) t3 rfl ⟨F, acc, rfl, eF3, dk3⟩ (by decide) (by decide) (lz (by omega)) (encSub_pu _) (fun e he => encSub_pu _ e he) (fun e u H1 he lk t1 ru => ?_) (fun e u H1 he _ lk t1 ru => ?_) fun e u H1 he _ lk t1 ru => ed_var t1 rfl ru
      · obtain ⟨p, hp, rfl⟩ := dec_fst he
        have op := ob.ok p hp
        show EdT G _ _ H1 (!decide (dec (enc p.2) = .v p.1))
        rw [dec_enc]
        exact edt_test (ed_op t1 (ed_var t1 rfl ru) (ed_var t1 rfl (show Dp K H1 _ (enc (.v p.1)) from .str _)) (rd_neT op.1 (ob.nm p hp) (by omega) (by simp [T.dp])))
      · obtain ⟨p, hp, rfl⟩ := dec_fst he
        exact ed_var t1 rfl (.str _)
    refine E3 _ (Ext.refl G _) _ fun p kvs H4 _ x4 e4 dk4 => q (.ref p) H4 (x3.trans x4) ⟨p, kvs, rfl, e4, ?_⟩
    have ef : mergeE [] (dcOut (encSub m3) (fun e => !decide (dec e.2 = .v (unS (keyD e.1)))) (fun e => e.1) (fun e => e.2)) = encSub (afterS m1 m2) := by
      have e : dcOut (encSub m3) (fun e => !decide (dec e.2 = .v (unS (keyD e.1)))) (fun e => e.1) (fun e => e.2) = encSub (m3.filter fun q => !decide (q.2 = .v q.1)) := by
        unfold dcOut encSub
        rw [List.filter_map, List.map_map]
        have e0 : ((fun e : Key × PyData => !decide (dec e.2 = .v (unS (keyD e.1)))) ∘ fun p : Str × T => ((.inr p.1 : Key), enc p.2)) = fun q => !decide (q.2 = .v q.1) := funext fun p => by
          show (!decide (dec (enc p.2) = .v p.1)) = _
          rw [dec_enc]
        rw [e0]
        rfl
      rw [e, mergeE_nodup]
      · unfold afterS
        rw [hm]
        rfl
      · rw [List.nil_append]
        refine encSub_nodup ?_
        exact List.Nodup.sublist (List.Sublist.map _ List.filter_sublist) ob.nd
    rw [← ef]
    exact dk4
end
end Rh
set_option Elab.async false
set_option linter.all false
set_option maxRecDepth 100000
set_option maxHeartbeats 1000000
namespace Rh
open PySem PySem.Spec PyProof.Rows L2 GxR Gx Dl LiI TL
/-- a term's text, sign by sign -/
def T.txt : T → List Nat
  | .v x => tl x
  | .c s => tl s
  | .u s t => tl s ++ 40 :: (t.txt ++ [41])
  | .b s t r => tl s ++ 40 :: (t.txt ++ 44 :: 32 :: (r.txt ++ [41]))
def T.told (t : T) : Str := ⟨t.txt.toArray⟩
theorem T.tl_told (t : T) : tl t.told = t.txt := by simp [tl, T.told]
theorem T.told_len (t : T) : t.told.length = t.txt.length := by rw [len_tl, T.tl_told]
theorem T.told_v {t : T} (h : t.parts = []) : t.told = t.sgn := by
  refine ext_tl ?_
  rw [T.tl_told]
  cases t <;> first | rfl | cases h
theorem T.told_n {t : T} (h2 : t.parts ≠ []) : t.told = t.sgn ++ Str.ofString "(" ++ Txt.join (Str.ofString ", ") (t.parts.map T.told) ++ Str.ofString ")" := by
  refine ext_tl ?_
  rw [T.tl_told, tl_append, tl_append, tl_append, join_eq, tl_join]
  cases t with
  | v x => exact absurd rfl h2
  | c s => exact absurd rfl h2
  | u s t =>
    simp only [T.parts, List.map_cons, List.map_nil, joinL, T.tl_told, T.sgn, T.txt]
    rw [show tl (Str.ofString "(") = [40] from by decide +kernel, show tl (Str.ofString ")") = [41] from by decide +kernel]
    simp
  | b s t r =>
    simp only [T.parts, List.map_cons, List.map_nil, joinL, T.tl_told, T.sgn, T.txt]
    rw [show tl (Str.ofString "(") = [40] from by decide +kernel, show tl (Str.ofString ")") = [41] from by decide +kernel, show tl (Str.ofString ", ") = [44, 32] from by decide +kernel]
    simp
theorem T.txt_parts {t p : T} (h : p ∈ t.parts) : p.txt.length ≤ t.txt.length := by
  cases t with
  | v x => cases h
  | c s => cases h
  | u s t =>
    rw [T.parts, List.mem_singleton] at h
    subst h
    simp [T.txt]; omega
  | b s t r =>
    rw [T.parts, List.mem_cons, List.mem_singleton] at h
    rcases h with h | h <;> subst h <;> simp [T.txt] <;> omega
theorem T.sgn_txt (t : T) : t.sgn.length ≤ t.txt.length := by
  rw [len_tl]
  cases t <;> simp [T.sgn, T.txt]
theorem can_enc : ∀ t : T, t.ok → PyData.canLay0 (enc t) = true := fun t => by
  induction t with
  | v x => intro o; simp [enc, PyData.canLay0, o.2.2]
  | c s => intro o; simp [enc, PyData.canLay0, PyData.canLayAll0, show PyData.strOk s = true from o]
  | u s t ih => intro o; simp [enc, PyData.canLay0, PyData.canLayAll0, ih o.2, o.1]
  | b s t r ih ih2 => intro o; simp [enc, PyData.canLay0, PyData.canLayAll0, ih o.2.1, ih2 o.2.2, o.1]
theorem depth_enc : ∀ t : T, (enc t).depth ≤ 2 * t.dp + 2 := fun t => by
  induction t with
  | v x => simp [enc, PyData.depth]
  | c s => simp [enc, PyData.depth, PyData.depthAll]
  | u s t ih => simp [enc, PyData.depth, PyData.depthAll, T.dp]; omega
  | b s t r ih ih2 => simp [enc, PyData.depth, PyData.depthAll, T.dp]; omega
theorem shaped_parts {t : T} (o : t.ok) (h : t.dp ≤ 28) : SeqAt.shaped (.tuple (t.parts.map enc)) = true := by
  unfold SeqAt.shaped
  rw [Bool.and_eq_true, decide_eq_true_eq]
  cases t with
  | v x => exact ⟨rfl, by simp [T.parts, PyData.depth, PyData.depthAll]⟩
  | c s => exact ⟨rfl, by simp [T.parts, PyData.depth, PyData.depthAll]⟩
  | u s t =>
    have := depth_enc t
    simp only [T.dp] at h
    exact ⟨by simp [T.parts, PyData.canLay0, PyData.canLayAll0, can_enc t o.2], by simp [T.parts, PyData.depth, PyData.depthAll]; omega⟩
  | b s t r =>
    have := depth_enc t
    have := depth_enc r
    simp only [T.dp] at h
    exact ⟨by simp [T.parts, PyData.canLay0, PyData.canLayAll0, can_enc t o.2.1, can_enc r o.2.2], by simp [T.parts, PyData.depth, PyData.depthAll]; omega⟩
def R_told (n : Nat) : List Ar → PyData → Prop := fun as d => ∃ t : T, as = [.d (enc t)] ∧ t.ok ∧ t.dp < n ∧ n ≤ 20 ∧ t.txt.length ≤ 2000 ∧ d = .str t.told
section
variable {P : Program} {w : World} {K : PySem.W.Frag} {mg : Str → Option Value} {base : Heap} {G : List Addr} {f : Addr} {fd : FuncData}
end
end Rh
set_option Elab.async false
set_option linter.all false
set_option maxRecDepth 100000
set_option maxHeartbeats 1000000
namespace Dl
open PySem PySem.Spec PyProof.Rows L2 GxR Gx LiI TL
theorem rdc_lenS {G : List Addr} {K : PySem.W.Frag} {H : Hp} {z : Str} (h : z.length ≤ sizeLine) : RdC G K (fun xs H Q => ∃ z, xs = [.str z] ∧ z.length ≤ sizeLine ∧ Q (.int z.length) H) [.str z] (.int z.length) H := fun H1 x vs rs Q q => by
  obtain ⟨v, rfl, rv⟩ := dpA_one rs
  exact ⟨z, by rw [dp_str rv], h, q _ H1 (Ext.refl G H1) (.int _)⟩
theorem one_eq {c e : Nat} {s : Str} (hs : tl s = [e]) : decide ((⟨#[c]⟩ : Str) = s) = decide (c = e) := by
  refine decide_eq_decide.mpr ⟨fun h => ?_, fun h => ?_⟩
  · have := congrArg tl h
    rw [hs] at this
    simpa [tl] using this
  · refine ext_tl ?_
    rw [hs, h]
def scanL (p : Nat → Bool) (l : List Nat) (k : Nat) : Nat := k + ((l.drop k).takeWhile p).length
theorem scanL_step {p : Nat → Bool} {l : List Nat} {k c : Nat} (h : l[k]? = some c) (hp : p c = true) : scanL p l (k + 1) = scanL p l k := by
  obtain ⟨h1, h2⟩ := List.getElem?_eq_some_iff.mp h
  unfold scanL
  rw [List.drop_eq_getElem_cons h1, h2, List.takeWhile_cons, if_pos hp, List.length_cons]
  omega
theorem scanL_stop {p : Nat → Bool} {l : List Nat} {k : Nat} (h : ∀ c, l[k]? = some c → p c = false) : scanL p l k = k := by
  unfold scanL
  cases e : l[k]? with
  | none =>
    rw [List.drop_eq_nil_of_le (List.getElem?_eq_none_iff.mp e)]
    rfl
  | some c =>
    obtain ⟨h1, h2⟩ := List.getElem?_eq_some_iff.mp e
    rw [List.drop_eq_getElem_cons h1, h2, List.takeWhile_cons, if_neg (by rw [h c e]; decide)]
    rfl
theorem scanL_app {p : Nat → Bool} {pre m post : List Nat} (h : ∀ c ∈ m, p c = true) (h2 : ∀ c, post.head? = some c → p c = false) : scanL p (pre ++ (m ++ post)) pre.length = pre.length + m.length := by
  unfold scanL
  rw [List.drop_left]
  congr 1
  rw [List.takeWhile_append_of_pos h]
  cases post with
  | nil => simp
  | cons c r => rw [List.takeWhile_cons, if_neg (by rw [h2 c rfl]; decide)]; simp
theorem scanL_le {p : Nat → Bool} {l : List Nat} {k : Nat} (h : k ≤ l.length) : scanL p l k ≤ l.length := by
  unfold scanL
  have := (List.takeWhile_sublist p (l := l.drop k)).length_le
  rw [List.length_drop] at this
  omega
end Dl
namespace Rh
open PySem PySem.Spec PyProof.Rows L2 GxR Gx Dl LiI TL
theorem sc_skip : FnScope ["text", "k"] ["text", "k"] (defScope s_skip) := ⟨rfl, rfl, rfl, by decide +kernel, rfl, by decide +kernel, by decide +kernel⟩
theorem sc_term_at : FnScope ["text", "k", "deep", "start", "name", "parts", "part"] ["text", "k", "deep"] (defScope s_term_at) := ⟨rfl, rfl, rfl, by decide +kernel, rfl, by decide +kernel, by decide +kernel⟩
theorem sc_read : FnScope ["text", "term", "k"] ["text"] (defScope s_read) := ⟨rfl, rfl, rfl, by decide +kernel, rfl, by decide +kernel, by decide +kernel⟩
def isSp (c : Nat) : Bool := decide (c = 32)
def R_skip : List Ar → PyData → Prop := fun as d => ∃ (z : Str) (k : Nat), as = [.d (.str z), .d (.int k)] ∧ z.length ≤ 100000 ∧ k ≤ z.length ∧ d = .int (scanL isSp (tl z) k)
section
variable {P : Program} {w : World} {K : PySem.W.Frag} {mg : Str → Option Value} {base : Heap} {G : List Addr} {f : Addr} {fd : FuncData}
theorem cl_skip (D : DefF K mg base G "skip" s_skip ["text", "k"] f fd) (m : mg "len" = none) : Cl0 P w K mg base 1 "skip" (spA G K R_skip) := by
  refine D.cl (k := 0) sc_skip (fun ds d r => by obtain ⟨_, _, rfl, _⟩ := r; rfl) fun c Pt A outer s H vs ds d Q E TB hP hr tG hv r q => ?_
  refine ⟨_, pss_cons (ps_while PassesOwn.never (PW.pt (pw_and (pt_cmpR op_lt (pv 1) (pe_callB call_len_str (by rfl) m PySem.boot_len (pa_cons (pv 0) pa_nil)) (nomark _)) (pw_and1 (pt_cmpR op_eq (pe_ix ix_str (pv 0) (pv 1) (fun _ _ => rfl)) pe_str (nomark _)))))
      (pss_one (ps_aug sc_skip.nd rfl (.inl rfl) pe_int ip_add (i := 1)))) (pss_one (ps_ret (pv 1))), ?_⟩
  obtain ⟨z, k, rfl, hz, hk, rfl⟩ := r
  obtain ⟨v, u, rfl, rv, ru⟩ := arA_two hv
  rw [dp_str (show Dp K H v (.str z) from rv), dp_int (show Dp K H u (.int k) from ru)]
  have hz2 : z.length ≤ sizeLine := Nat.le_trans hz (by decide)
  rw [len_tl] at hk
  refine s_whileG (α := Nat) tG (fun j σ' H' => σ' = [some (.str z), some (.int j)] ∧ k ≤ j ∧ j ≤ (tl z).length ∧ scanL isSp (tl z) j = scanL isSp (tl z) k) (fun j => (tl z).length - j) (fun j => decide ((tl z)[j]? = some 32)) k ⟨rfl, Nat.le_refl _, hk, rfl⟩ ?_ ?_ ?_ ?_
  · rintro j σ' H' ⟨rfl, h1, h2, _⟩ t1
    have v0 : Ed G K (tVar 0) [some (.str z), some (.int j)] H' (.str z) := ed_var t1 rfl (.str z)
    have v1 : Ed G K (tVar 1) [some (.str z), some (.int j)] H' (.int j) := ed_var t1 rfl (.int _)
    by_cases hj : j < (tl z).length
    · have hc : (tl z)[j]? = some (tl z)[j] := List.getElem?_eq_getElem hj
      refine edt_is (edt_and (b := true) (c := decide ((tl z)[j] = 32)) (edt_is (edt_test (ed_op t1 v1 (ed_cb (ed_one v0) (rdc_lenS hz2)) rd_ltI)) (decide_eq_true (by rw [len_tl]; omega))) fun _ => edt_is (edt_test (ed_op t1 (ed_op t1 v0 v1 (rd_ixS (c := (tl z)[j]) hz2 (by omega) (by rw [Int.toNat_natCast]; exact hc))) ed_str rd_eqS)) (one_eq (by decide +kernel))) ?_
      rw [Bool.true_and, hc]
      exact decide_eq_decide.mpr (by simp)
    · refine edt_is (edt_and (b := false) (c := true) (edt_is (edt_test (ed_op t1 v1 (ed_cb (ed_one v0) (rdc_lenS hz2)) rd_ltI)) (decide_eq_false (by rw [len_tl]; omega))) fun z => by cases z) ?_
      rw [List.getElem?_eq_none (by omega)]
      rfl
  · rintro j σ' H' N ⟨rfl, h1, h2, h3⟩ y hb t1 hN
    have hc : (tl z)[j]? = some 32 := of_decide_eq_true hb
    have hj := (List.getElem?_eq_some_iff.mp hc).1
    refine ⟨.int j, rfl, ?_⟩
    refine ⟨j, 1, rfl, rfl, ?_⟩
    refine hN (j + 1) _ H' (Ext.refl G H') ⟨?_, by omega, by omega, ?_⟩ (by omega)
    · show ([some (.str z), some (.int ((j : Int) + 1))] : L2.St) = _
      rw [show (j : Int) + 1 = ((j + 1 : Nat) : Int) by omega]
    · rw [scanL_step hc (by decide)]; exact h3
  · exact fun a σ' H1 H2 y t1 h => h
  · rintro j σ' H' y ⟨rfl, h1, h2, h3⟩ hb
    have hs : scanL isSp (tl z) j = j := scanL_stop fun c hc => by
      rw [hc] at hb
      have : ¬ c = 32 := fun e => by rw [e] at hb; simp at hb
      exact decide_eq_false this
    refine s_ret (K := K) (ed_var (tG.ext y) rfl (.int j)) fun w' H2 y2 rw_ => q w' H2 (y.trans y2) ?_
    rw [← h3, hs]
    exact rw_
end
end Rh
set_option Elab.async false
set_option linter.all false
set_option maxRecDepth 100000
set_option maxHeartbeats 1000000
namespace Rh
open PySem PySem.Spec PyProof.Rows L2 GxR Gx Dl LiI TL
def SMs : Str := Str.ofString "abcdefghijklmnopqrstuvwxyzABCDEFGHIJKLMNOPQRSTUVWXYZ0123456789_+*"
def isSm (c : Nat) : Bool := decide (c ∈ tl SMs)
structure sgOk (s : Str) : Prop where
  ne : tl s ≠ []
  sm : ∀ c ∈ tl s, isSm c = true
def T.wf : T → Prop
  | .v x => sgOk x
  | .c s => sgOk s ∧ isVarS s = false
  | .u s t => sgOk s ∧ isVarS s = false ∧ t.wf
  | .b s t r => sgOk s ∧ isVarS s = false ∧ t.wf ∧ r.wf
theorem T.wf_sgn {t : T} (h : t.wf) : sgOk t.sgn := by cases t <;> first | exact h | exact h.1
theorem T.wf_parts {t p : T} (o : t.wf) (h : p ∈ t.parts) : p.wf := by
  cases t with
  | v x => cases h
  | c s => cases h
  | u s t => rw [T.parts, List.mem_singleton] at h; subst h; exact o.2.2
  | b s t r =>
    rw [T.parts, List.mem_cons, List.mem_singleton] at h
    rcases h with h | h <;> subst h
    · exact o.2.2.1
    · exact o.2.2.2
def joinT : List T → List Nat
  | [] => []
  | [p] => p.txt
  | p :: q :: r => p.txt ++ 44 :: 32 :: joinT (q :: r)
theorem T.txt_n {t : T} (h : t.parts ≠ []) : t.txt = tl t.sgn ++ (40 :: (joinT t.parts ++ [41])) := by
  cases t with
  | v x => exact absurd rfl h
  | c s => exact absurd rfl h
  | u s t => rfl
  | b s t r => simp [T.txt, T.parts, T.sgn, joinT]
theorem T.txt_leaf {t : T} (h : t.parts = []) : t.txt = tl t.sgn := by cases t <;> first | rfl | cases h
def postOk (post : List Nat) : Prop := ∀ c, post.head? = some c → isSm c = false ∧ c ≠ 40
theorem T.txt_head {t : T} (o : t.wf) : ∃ c r, t.txt = c :: r ∧ isSm c = true := by
  have h := T.wf_sgn o
  have e : ∃ r, t.txt = tl t.sgn ++ r := by cases t <;> simp [T.txt, T.sgn]
  obtain ⟨r, e⟩ := e
  cases hs : tl t.sgn with
  | nil => exact absurd hs h.ne
  | cons c q => exact ⟨c, q ++ r, by rw [e, hs]; rfl, h.sm c (by rw [hs]; exact List.mem_cons_self)⟩
theorem sm_not_sp {c : Nat} (h : isSm c = true) : isSp c = false := by
  unfold isSp
  refine decide_eq_false fun e => ?_
  rw [e] at h
  revert h
  decide +kernel
def R_term_at (n : Nat) : List Ar → PyData → Prop := fun as d => ∃ (z : Str) (t : T) (pre sp post : List Nat) (e : Nat), as = [.d (.str z), .d (.int pre.length), .d (.int e)] ∧ z.length ≤ 100000 ∧ tl z = pre ++ (sp ++ (t.txt ++ post)) ∧ (∀ c ∈ sp, isSp c = true) ∧ postOk post ∧ t.wf ∧ t.ok ∧ t.dp < n ∧ e + t.dp ≤ 60 ∧ n ≤ 100 ∧
  d = .tuple [enc t, .int ((pre.length + sp.length + t.txt.length : Nat) : Int)]
theorem sgLen {t : T} (o : t.ok) (h : t.txt.length ≤ 100000) : t.sgn.length ≤ 100000 := Nat.le_trans t.sgn_txt h
theorem tl_cut (z : Str) (a b : Nat) (h : a ≤ b) (h2 : b ≤ (tl z).length) : tl (cutS z (some (a : Int)) (some (b : Int))) = ((tl z).drop a).take (b - a) := by
  have l := len_tl z
  unfold cutS
  rw [HT.sIx_nat, HT.sIx_nat, Nat.min_eq_left (by omega), Nat.min_eq_left (by omega)]
theorem s_asgG {G : List Addr} {K : PySem.W.Frag} {σ : L2.St} {H : Hp} {te : TE} {g : TG} {d : PyData} {D : Ends} (h : Ed G K te σ H d) (q : ∀ v H', Ext G H H' → Dp K H' v d → g v σ H' D.nx) : tAsg te g D σ H := h H (Ext.refl G H) _ fun v H2 x2 r => q v H2 x2 r
/-- between two parts -/
def TAW (G : List Addr) (K : PySem.W.Frag) (z : Str) (t : T) (e ks : Nat) (L : Addr) (post : List Nat) (H : Hp) (m : Nat) (σ' : L2.St) (H' : Hp) : Prop := ∃ (ds rs : List T) (pre' sp' : List Nat) (vs : List V) (pt : Option V), m = rs.length ∧ rs ≠ [] ∧ ds ++ rs = t.parts ∧
  σ' = [some (.str z), some (.int pre'.length), some (.int e), some (.int ks), some (.str t.sgn), some (.ref L), pt] ∧ Ext G H H' ∧ H' L = some (.lst vs) ∧ DpAll K H' vs (ds.map enc) ∧ tl z = pre' ++ (sp' ++ (joinT rs ++ 41 :: post)) ∧ ∀ c ∈ sp', isSp c = true
section
variable {P : Program} {w : World} {K : PySem.W.Frag} {mg : Str → Option Value} {base : Heap} {G : List Addr} {f : Addr} {fd : FuncData} {tks : Tok}
theorem ed_ivS {σ : L2.St} {H : Hp} {te : TE} {x : Str} (tG : TabsG G H) (o : x.length ≤ 100000) (h : Ed G K te σ H (.str x)) : Ed G K (tCall (spA G K R_iv) [] (fun _ _ _ => False) (tCons te tNil)) σ H (.bool (isVarS x)) := ea_call tG (ea_one (edx_of h)) (.inl ⟨x, rfl, o, rfl⟩)
theorem cl_term_at (D : DefF K mg base G "term_at" s_term_at ["text", "k", "deep"] f fd) (iv : IV P w K mg base G) (sk : Cl0 P w K mg base 1 "skip" (spA G K R_skip)) (m1 : mg "len" = none) (m2 : mg "tuple" = none) (hSM : mg "SMALL" = some (.str SMs tks)) : ∀ n, Cl0 P w K mg base (n + 3) "term_at" (spA G K (R_term_at n))
  | 0 => (D.none fun as d ⟨_, t, _, _, _, _, _, _, _, _, _, _, _, h, _⟩ => Nat.not_lt_zero _ h).mono (Nat.zero_le _)
  | n + 1 => by
    have ih := cl_term_at D iv sk m1 m2 hSM n
    refine D.cl (k := n + 3) sc_term_at (fun ds d r => by obtain ⟨_, _, _, _, _, _, rfl, _⟩ := r; rfl) fun c Pt A outer s H vs ds d Q E TB hP hr tG hv r q => ?_
    refine ⟨_, pss_cons (ps_set (i := 1) sc_term_at.nd rfl (Or.inl rfl) (pe_cl sk (hr.mono (by omega)) rfl (pa_cons (pv 0) (pa_cons (pv 1) pa_nil))))
      (pss_cons (ps_set (i := 3) sc_term_at.nd rfl (Or.inl rfl) (pv 1))
      (pss_cons (ps_while PassesOwn.never (PW.pt (pw_and (pt_cmpR op_lt (pv 1) (pe_callB call_len_str (by rfl) m1 PySem.boot_len (pa_cons (pv 0) pa_nil)) (nomark _)) (pw_and1 (pt_cmpR op_in_sign (pe_ix ix_str (pv 0) (pv 1) (fun _ _ => rfl)) (pe_glob (v := .str SMs) rfl hSM ⟨tks, rfl⟩) rfl)))) (pss_one (ps_aug sc_term_at.nd rfl (.inl rfl) pe_int ip_add (i := 1))))
      (pss_cons (ps_set (i := 4) sc_term_at.nd rfl (Or.inl rfl) (pe_slice sl_str (pv 0) (po_some (pv 3)) (po_some (pv 1))))
      (pss_cons (ps_if (PW.pt (pw_or (pt_cmpR op_eq (pv 4) pe_str (nomark _)) (pw_or1 (pt_cmpR op_gt (pv 2) pe_int (nomark _))))) (pss_one ps_never) pss_nil)
      (pss_cons (ps_if (PW.pt (pw_or (pt_cmpR op_ge (pv 1) (pe_callB call_len_str (by rfl) m1 PySem.boot_len (pa_cons (pv 0) pa_nil)) (nomark _)) (pw_or1 (pt_cmpR op_ne (pe_ix ix_str (pv 0) (pv 1) (fun _ _ => rfl)) pe_str (nomark _)))))
          (pss_one (ps_ret (pe_tup (pa_cons (pe_ifExp (pt_val (pe_cl iv (hr.mono (by omega)) rfl (pa_cons (pv 4) pa_nil))) (pv 4) (pe_tup (pa_cons (pv 4) (pa_cons (pe_tup pa_nil) pa_nil)))) (pa_cons (pv 1) pa_nil))))) pss_nil)
      (pss_cons (ps_if (pt_val (pe_cl iv (hr.mono (by omega)) rfl (pa_cons (pv 4) pa_nil))) (pss_one ps_never) pss_nil)
      (pss_cons (ps_par (i := 5) (j := 1) (by rfl) sc_term_at.nd rfl rfl (by decide) rfl rfl (pa_cons (pe_lst pa_nil) (pa_cons (pe_op op_add (pv 1) pe_int) pa_nil)) (by rfl))
      (pss_one (ps_while PassesOwn.never (pt_val pe_bl)
        (pss_cons (ps_asg (pe_cl ih (hr.mono (by omega)) rfl (pa_cons (pv 0) (pa_cons (pv 1) (pa_cons (pe_op op_add (pv 2) pe_int) pa_nil)))) (pg_tup rfl (pgs_cons (pg_name (i := 6) sc_term_at.nd rfl (Or.inl rfl)) (pgs_cons (pg_name (i := 1) sc_term_at.nd rfl (Or.inl rfl)) pgs_nil))))
        (pss_cons (ps_expr (pe_bm PySem.F.plainAttrs_list PySem.F.slot_list_append PySem.F.type_list_append mt_append (pv 5) (pa_cons (pv 6) pa_nil)))
        (pss_cons (ps_set (i := 1) sc_term_at.nd rfl (Or.inl rfl) (pe_cl sk (hr.mono (by omega)) rfl (pa_cons (pv 0) (pa_cons (pv 1) pa_nil))))
        (pss_cons (ps_if (PW.pt (pw_and (pt_cmpR op_lt (pv 1) (pe_callB call_len_str (by rfl) m1 PySem.boot_len (pa_cons (pv 0) pa_nil)) (nomark _)) (pw_and1 (pt_cmpR op_eq (pe_ix ix_str (pv 0) (pv 1) (fun _ _ => rfl)) pe_str (nomark _)))))
            (pss_one (ps_ret (pe_tup (pa_cons (pe_tup (pa_cons (pv 4) (pa_cons (pe_callTy call_tuple_of (by rfl) m2 (by decide +kernel) (pa_cons (pv 5) pa_nil)) pa_nil))) (pa_cons (pe_op op_add (pv 1) pe_int) pa_nil))))) pss_nil)
        (pss_cons (ps_if (PW.pt (pw_or (pt_cmpR op_ge (pv 1) (pe_callB call_len_str (by rfl) m1 PySem.boot_len (pa_cons (pv 0) pa_nil)) (nomark _)) (pw_or1 (pt_cmpR op_ne (pe_ix ix_str (pv 0) (pv 1) (fun _ _ => rfl)) pe_str (nomark _))))) (pss_one ps_never) pss_nil)
        (pss_one (ps_aug sc_term_at.nd rfl (.inl rfl) pe_int ip_add (i := 1))))))))))))))))), ?_⟩
    obtain ⟨z, t, pre, sp, post, e, rfl, hz, ez, hsp, hpo, wf, ok, hd, he, hn, rfl⟩ := r
    obtain ⟨v, u, y0, rfl, rv, ru, ry⟩ := arA_three hv
    rw [dp_str (show Dp K H v (.str z) from rv), dp_int (show Dp K H u (.int _) from ru), dp_int (show Dp K H y0 (.int _) from ry)]
    have hz2 : z.length ≤ sizeLine := Nat.le_trans hz (by decide)
    have lz : (tl z).length = pre.length + (sp.length + (t.txt.length + post.length)) := by rw [ez]; simp
    have hzl : (tl z).length ≤ 100000 := by rw [← len_tl]; exact hz
    obtain ⟨c0, r0, et0, hc0⟩ := T.txt_head wf
    have rf := Ext.refl G H
    have v0 : ∀ {H' a b c d e f}, TabsG G H' → Ed G K (tVar 0) [some (.str z), a, b, c, d, e, f] H' (.str z) := fun t => ed_var t rfl (.str z)
    have hsk : scanL isSp (tl z) pre.length = pre.length + sp.length := by
      rw [ez]
      refine scanL_app hsp fun c hc => ?_
      rw [et0] at hc
      cases hc
      exact sm_not_sp hc0
    refine s_set (K := K) (ea_call tG (ea_cons tG (edx_of (v0 tG)) (ea_one (edx_of (ed_var tG rfl (.int _))))) (show R_skip _ (.int (scanL isSp (tl z) pre.length)) from ⟨z, pre.length, rfl, hz, by rw [len_tl]; omega, rfl⟩)) fun w1 H1 y1 rw1 => ?_
    rw [dp_int rw1, hsk]
    have t1 := tG.ext y1
    refine s_set (K := K) (d := .int ((pre.length + sp.length : Nat) : Int)) (ed_var t1 rfl (.int _)) fun w2 H2 y2 rw2 => ?_
    rw [dp_int rw2]
    have x2 := y1.trans y2
    have t2 := tG.ext x2
    -- the name
    have hsg := T.wf_sgn wf
    have esg : ∃ rest, t.txt = tl t.sgn ++ rest ∧ ∀ c, (rest ++ post).head? = some c → isSm c = false := by
      by_cases hp : t.parts = []
      · exact ⟨[], by rw [T.txt_leaf hp, List.append_nil], fun c hc => (hpo c hc).1⟩
      · exact ⟨_, T.txt_n hp, fun c hc => by cases hc; decide +kernel⟩
    obtain ⟨rest, erest, hrest⟩ := esg
    have ez2 : tl z = (pre ++ sp) ++ (tl t.sgn ++ (rest ++ post)) := by rw [ez, erest]; simp
    have lps : (pre ++ sp).length = pre.length + sp.length := List.length_append
    have hsn : scanL isSm (tl z) (pre.length + sp.length) = pre.length + sp.length + (tl t.sgn).length := by
      rw [ez2, ← lps]
      exact scanL_app hsg.sm hrest
    refine s_seq ?_
    refine s_whileG (α := Nat) t2 (fun j σ' H' => σ' = [some (.str z), some (.int j), some (.int e), some (.int ((pre.length + sp.length : Nat) : Int)), none, none, none] ∧ j ≤ (tl z).length ∧ scanL isSm (tl z) j = pre.length + sp.length + (tl t.sgn).length) (fun j => (tl z).length - j) (fun j => match (tl z)[j]? with | some c => isSm c | none => false) (pre.length + sp.length) ⟨rfl, by omega, hsn⟩ ?_ ?_ ?_ ?_
    · rintro j σ' H' ⟨rfl, h2, _⟩ t3
      by_cases hj : j < (tl z).length
      · have hc : (tl z)[j]? = some (tl z)[j] := List.getElem?_eq_getElem hj
        refine edt_is (edt_and (b := true) (c := isSm (tl z)[j]) (edt_is (edt_test (K := K) (ed_op t3 (ed_var t3 rfl (.int j)) (ed_cb (ed_one (v0 t3)) (rdc_lenS hz2)) rd_ltI)) (decide_eq_true (by rw [len_tl]; omega))) fun _ => edt_test (K := K) (ed_op t3 (ed_op t3 (v0 t3) (ed_var t3 rfl (.int j)) (rd_ixS (c := (tl z)[j]) hz2 (by omega) (by rw [Int.toNat_natCast]; exact hc))) ed_str rd_inSign)) ?_
        rw [Bool.true_and, hc]
      · refine edt_is (edt_and (b := false) (c := true) (edt_is (edt_test (K := K) (ed_op t3 (ed_var t3 rfl (.int j)) (ed_cb (ed_one (v0 t3)) (rdc_lenS hz2)) rd_ltI)) (decide_eq_false (by rw [len_tl]; omega))) fun z => by cases z) ?_
        rw [List.getElem?_eq_none (by omega)]
        rfl
    · rintro j σ' H' N ⟨rfl, h2, h3⟩ y hb t3 hN
      cases hc : (tl z)[j]? with
      | none => rw [hc] at hb; cases hb
      | some c =>
        rw [hc] at hb
        have hj := (List.getElem?_eq_some_iff.mp hc).1
        refine ⟨.int j, rfl, ?_⟩
        refine ⟨j, 1, rfl, rfl, ?_⟩
        refine hN (j + 1) _ H' (Ext.refl G H') ⟨?_, by omega, by rw [scanL_step hc hb]; exact h3⟩ (by omega)
        show ([some (.str z), some (.int ((j : Int) + 1)), some (.int e), some (.int ((pre.length + sp.length : Nat) : Int)), none, none, none] : L2.St) = _
        rw [show (j : Int) + 1 = ((j + 1 : Nat) : Int) by omega]
    · exact fun a σ' H1 H2 y t1 h => h
    rintro j σ' H3 y3 ⟨rfl, h2, h3⟩ hb
    have hj : j = pre.length + sp.length + (tl t.sgn).length := by
      rw [← h3]
      refine (scanL_stop fun c hc => ?_).symm
      rw [hc] at hb
      exact hb
    subst hj
    have x3 := x2.trans y3
    have t3 := tG.ext x3
    have ecut : cutS z (some ((pre.length + sp.length : Nat) : Int)) (some ((pre.length + sp.length + (tl t.sgn).length : Nat) : Int)) = t.sgn := by
      refine ext_tl ?_
      rw [tl_cut z _ _ (by omega) (by omega)]
      rw [ez2, ← lps, List.drop_left, Nat.add_sub_cancel_left, List.take_left]
    refine s_set (K := K) (ed_slS hz2 (v0 t3) (fun H' x Q q => ⟨_, rfl, _, rfl, q⟩) (fun H' x Q q => ⟨_, rfl, _, rfl, q⟩)) fun w4 H4 y4 rw4 => ?_
    rw [ecut] at rw4
    rw [dp_str rw4]
    have x4 := x3.trans y4
    have t4 := tG.ext x4
    have lsg : t.sgn.length ≤ 100000 := sgLen ok (by omega)
    have nsg : ¬ t.sgn = Str.ofString "" := fun h => hsg.ne (by rw [h]; decide +kernel)
    refine s_ifR (b := false) (edt_is (edt_or (b := false) (c := false) (edt_is (edt_test (K := K) (ed_op t4 (ed_var t4 rfl (.str t.sgn)) ed_str rd_eqS)) (decide_eq_false nsg)) fun _ => edt_is (edt_test (K := K) (ed_op t4 (ed_var t4 rfl (.int e)) ed_int rd_gtI)) (decide_eq_false (by omega))) rfl) (fun h => by cases h) fun _ H5 y5 => ?_
    have x5 := x4.trans y5
    have t5 := tG.ext x5
    by_cases hp : t.parts = []
    · -- a leaf
      have etx : t.txt = tl t.sgn := T.txt_leaf hp
      have ez3 : tl z = (pre ++ sp ++ tl t.sgn) ++ post := by rw [ez, etx]; simp
      have l3 : (pre ++ sp ++ tl t.sgn).length = pre.length + sp.length + (tl t.sgn).length := by rw [List.length_append, List.length_append]
      have test : EdT G (tOr (tTest (tOp (rI0 fun i j => .bl (decide (j ≤ i))) (tVar 1) (tCB (fun xs H Q => ∃ z, xs = [.str z] ∧ z.length ≤ sizeLine ∧ Q (.int z.length) H) (tCons (tVar 0) tNil)))) (tTest (tOp rNe (tOp rIxS (tVar 0) (tVar 1)) (tC (.str (Str.ofString "(")))))) [some (.str z), some (.int ((pre.length + sp.length + (tl t.sgn).length : Nat) : Int)), some (.int e), some (.int ((pre.length + sp.length : Nat) : Int)), some (.str t.sgn), none, none] H5 true := by
        cases hpost : post with
        | nil =>
          refine edt_or (b := true) (c := true) (edt_is (edt_test (K := K) (ed_op t5 (ed_var t5 rfl (.int _)) (ed_cb (ed_one (v0 t5)) (rdc_lenS hz2)) rd_geI)) (decide_eq_true ?_)) fun z => by cases z
          rw [len_tl, ez3, hpost, List.append_nil, l3]
          exact Int.le_refl _
        | cons c r =>
          have hc := hpo c (by rw [hpost]; rfl)
          have ec : (tl z)[pre.length + sp.length + (tl t.sgn).length]? = some c := by
            rw [ez3, ← l3, hpost, List.getElem?_append_right (Nat.le_refl _), Nat.sub_self]
            rfl
          refine edt_or (b := false) (c := true) (edt_is (edt_test (K := K) (ed_op t5 (ed_var t5 rfl (.int _)) (ed_cb (ed_one (v0 t5)) (rdc_lenS hz2)) rd_geI)) (decide_eq_false ?_)) fun _ => edt_is (edt_test (K := K) (ed_op t5 (ed_op t5 (v0 t5) (ed_var t5 rfl (.int _)) (rd_ixS (c := c) hz2 (by omega) (by rw [Int.toNat_natCast]; exact ec))) ed_str rd_neS)) ?_
          · have := (List.getElem?_eq_some_iff.mp ec).1
            rw [len_tl]
            omega
          · rw [one_eq (e := 40) (by decide +kernel), decide_eq_false hc.2]
            rfl
      refine s_ifR (b := true) test (fun _ H6 y6 => ?_) (fun h => by cases h)
      have x6 := x5.trans y6
      have t6 := tG.ext x6
      refine s_ret (K := K) (ed_tup t6 (ed_cons t6 (ed_if (d := enc t) (edt_val (ed_ivS t6 lsg (ed_var t6 rfl (.str t.sgn)))) (fun h => ed_is (ed_var t6 rfl (.str t.sgn)) ?_) fun h => ed_is (ed_tup t6 (ed_cons t6 (ed_var t6 rfl (.str t.sgn)) (ed_one (ed_tup t6 ed_nil (by show 0 ≤ sizeLine; decide)))) (by show 2 ≤ sizeLine; decide)) ?_) (ed_one (ed_var t6 rfl (.int _)))) (by show 2 ≤ sizeLine; decide)) fun w7 H7 y7 rw7 => q w7 H7 (x6.trans y7) ?_
      · cases t with
        | v x => rfl
        | c s =>
          have : isVarS s = false := wf.2
          have h' : isVarS s = true := h
          rw [h'] at this; cases this
        | u _ _ => cases hp
        | b _ _ _ => cases hp
      · cases t with
        | v x =>
          have : isVarS x = true := ok.1
          have h' : isVarS x = false := h
          rw [h'] at this; cases this
        | c s => rfl
        | u _ _ => cases hp
        | b _ _ _ => cases hp
      · rw [etx]
        exact rw7
    · have etx := T.txt_n hp
      have ez3 : tl z = (pre ++ sp ++ tl t.sgn) ++ 40 :: (joinT t.parts ++ 41 :: post) := by rw [ez, etx]; simp
      have l3 : (pre ++ sp ++ tl t.sgn).length = pre.length + sp.length + (tl t.sgn).length := by rw [List.length_append, List.length_append]
      have ec : (tl z)[pre.length + sp.length + (tl t.sgn).length]? = some 40 := by
        rw [ez3, ← l3, List.getElem?_append_right (Nat.le_refl _), Nat.sub_self]
        rfl
      have hjl := (List.getElem?_eq_some_iff.mp ec).1
      refine s_ifR (b := false) (edt_is (edt_or (b := false) (c := false) (edt_is (edt_test (K := K) (ed_op t5 (ed_var t5 rfl (.int _)) (ed_cb (ed_one (v0 t5)) (rdc_lenS hz2)) rd_geI)) (decide_eq_false (by rw [len_tl]; omega))) fun _ => edt_is (edt_test (K := K) (ed_op t5 (ed_op t5 (v0 t5) (ed_var t5 rfl (.int _)) (rd_ixS (c := 40) hz2 (by omega) (by rw [Int.toNat_natCast]; exact ec))) ed_str rd_neS)) (by decide +kernel)) rfl) (fun h => by cases h) fun _ H6 y6 => ?_
      have x6 := x5.trans y6
      have t6 := tG.ext x6
      have hnv : t.isV = false := by cases t <;> first | rfl | exact absurd rfl hp
      have hvs : isVarS t.sgn = false := by
        cases t with
        | v x => cases hnv
        | c s => exact wf.2
        | u s t => exact wf.2.1
        | b s t r => exact wf.2.1
      refine s_ifR (b := false) (edt_is (edt_val (ed_ivS t6 lsg (ed_var t6 rfl (.str t.sgn)))) hvs) (fun h => by cases h) fun _ H7 y7 => ?_
      have x7 := x6.trans y7
      have t7 := tG.ext x7
      refine s_seq ?_
      refine ⟨by show 0 ≤ sizeLine; decide, fun L hL7 => ?_⟩
      have hL : H L = none := x7.fresh tG hL7
      have x8 : Ext G H (upd H7 L (.lst [])) := x7.trans (Ext.new hL7)
      refine ⟨_, rfl, ((pre.length + sp.length + (tl t.sgn).length : Nat) : Int), 1, rfl, rfl, ?_⟩
      refine ⟨.ref L, _, rfl, ?_⟩
      have l4 : (pre ++ sp ++ tl t.sgn ++ [40]).length = pre.length + sp.length + (tl t.sgn).length + 1 := by simp; omega
      refine ⟨TAW G K z t e (pre.length + sp.length) L post H, ⟨_, [], t.parts, pre ++ sp ++ tl t.sgn ++ [40], [], [], none, rfl, hp, rfl, ?_, x8, upd_same, .nil, by rw [ez3]; simp, fun c hc => by cases hc⟩, ?_⟩
      · rw [l4]
        show ([some (.str z), some (.int (((pre.length + sp.length + (tl t.sgn).length : Nat) : Int) + 1)), some (.int e), some (.int ((pre.length + sp.length : Nat) : Int)), some (.str t.sgn), some (.ref L), none] : L2.St) = _
        rw [show ((pre.length + sp.length + (tl t.sgn).length : Nat) : Int) + 1 = ((pre.length + sp.length + (tl t.sgn).length + 1 : Nat) : Int) by omega]
      rintro m σ' H' ⟨ds, rs, pre', sp', vs, pt, rfl, hne, eds, rfl, xx, eL, rvs, ez', hsp'⟩
      have tH := tG.ext xx
      refine ⟨true, rfl, ?_⟩
      dsimp only
      rw [if_pos rfl]
      refine ⟨fun σ2 H2 => ∃ m', m' < rs.length ∧ TAW G K z t e (pre.length + sp.length) L post H m' σ2 H2, fun _ _ h => h, ?_⟩
      cases rs with
      | nil => exact absurd rfl hne
      | cons p rr =>
        have mp : p ∈ t.parts := by rw [← eds]; simp
        have hle := t.parts_len
        have hds : ds.length ≤ 2 := by have := congrArg List.length eds; simp at this; omega
        obtain ⟨post', epost, hp1⟩ : ∃ post', joinT (p :: rr) ++ 41 :: post = p.txt ++ post' ∧ ((rr = [] ∧ post' = 41 :: post) ∨ (rr ≠ [] ∧ post' = 44 :: 32 :: (joinT rr ++ 41 :: post))) := by
          cases rr with
          | nil => exact ⟨_, rfl, .inl ⟨rfl, rfl⟩⟩
          | cons q r2 => exact ⟨_, by simp [joinT], .inr ⟨by simp, rfl⟩⟩
        have hpo' : postOk post' := fun c hc => by
          rcases hp1 with ⟨_, h⟩ | ⟨_, h⟩ <;> (rw [h] at hc; cases hc; decide +kernel)
        have wp := T.wf_parts wf mp
        have op := T.ok_parts ok mp
        have dpp := T.dp_parts mp
        have ez4 : tl z = pre' ++ (sp' ++ (p.txt ++ post')) := by rw [ez', epost]
        have ee : (e : Int) + 1 = ((e + 1 : Nat) : Int) := by omega
        refine s_seq (s_asgG (K := K) (ea_call tH (ea_cons tH (edx_of (v0 tH)) (ea_cons tH (edx_of (ed_var tH rfl (.int _))) (ea_one (edx_of (ed_is (ed_op tH (ed_var tH rfl (.int e)) ed_int rd_add) (congrArg PyData.int ee)))))) (show R_term_at n _ (.tuple [enc p, .int ((pre'.length + sp'.length + p.txt.length : Nat) : Int)]) from ⟨z, p, pre', sp', post', e + 1, rfl, hz, ez4, hsp', hpo', wp, op, by omega, by omega, by omega, rfl⟩)) fun w8 H8 y8 rw8 => ?_)
        obtain ⟨a8, us, rfl, hs8, hr8⟩ := dp_tup rw8
        obtain ⟨u1, u2, rfl, ru1, ru2⟩ := dpA_two hr8
        rw [dp_int ru2] at hs8
        refine ⟨a8, [u1, _], rfl, hs8, rfl, u1, [_], rfl, _, [], rfl, rfl, ?_⟩
        have t8 := tH.ext y8
        have eL8 := y8.at tH eL (fun ps z => by cases z)
        have len := dpA_len rvs
        rw [List.length_map] at len
        refine s_seq ⟨.ref L, rfl, .inl ⟨rfl, _, SqL.of eL8⟩, u1, rfl, L, vs, u1, rfl, rfl, eL8, by rw [len]; exact Nat.lt_of_lt_of_le (show ds.length < 10 by omega) (by decide), ?_⟩
        have x9 : Ext G H (upd H8 L (.lst (vs ++ [u1]))) := (xx.trans y8).mut hL eL8 (fun ps z => by cases z)
        have t9 := tG.ext x9
        have eL9 : (upd H8 L (.lst (vs ++ [u1]))) L = some (.lst (vs ++ [u1])) := upd_same
        have rv9 : DpAll K (upd H8 L (.lst (vs ++ [u1]))) (vs ++ [u1]) ((ds ++ [p]).map enc) := by
          rw [List.map_append]
          refine dpA_tups (fun a xs q => sqT_upd eL8 q) (puA_all.mpr fun d hd => ?_) (dpA_app (dpA_ext y8 tH rvs) (.cons ru1 .nil))
          rw [← List.map_append] at hd
          obtain ⟨x, _, rfl⟩ := List.mem_map.mp hd
          exact pu_enc x
        generalize upd H8 L (.lst (vs ++ [u1])) = H9 at *
        have l5 : (pre' ++ sp' ++ p.txt).length = pre'.length + sp'.length + p.txt.length := by rw [List.length_append, List.length_append]
        have ez5 : tl z = (pre' ++ sp' ++ p.txt) ++ post' := by rw [ez4]; simp
        have ecp : ∀ c, post'.head? = some c → (tl z)[pre'.length + sp'.length + p.txt.length]? = some c := fun c hc => by
          rw [ez5, ← l5, List.getElem?_append_right (Nat.le_refl _), Nat.sub_self]
          cases post' with
          | nil => cases hc
          | cons x r => exact hc
        have lzz : (tl z).length = pre'.length + sp'.length + p.txt.length + post'.length := by rw [ez5, List.length_append, l5]
        have lz0 : (tl z).length = pre.length + sp.length + t.txt.length + post.length := by omega
        have hsk9 : scanL isSp (tl z) (pre'.length + sp'.length + p.txt.length) = pre'.length + sp'.length + p.txt.length := by
          refine scanL_stop fun c hc => ?_
          rcases hp1 with ⟨_, h⟩ | ⟨_, h⟩
          · have := ecp 41 (by rw [h]; rfl)
            rw [this] at hc; cases hc; decide
          · have := ecp 44 (by rw [h]; rfl)
            rw [this] at hc; cases hc; decide
        refine s_set (K := K) (ea_call t9 (ea_cons t9 (edx_of (v0 t9)) (ea_one (edx_of (ed_var t9 rfl (.int _))))) (show R_skip _ (.int (scanL isSp (tl z) (pre'.length + sp'.length + p.txt.length))) from ⟨z, _, rfl, hz, by rw [len_tl]; omega, rfl⟩)) fun w10 H10 y10 rw10 => ?_
        rw [dp_int rw10, hsk9]
        have x10 := x9.trans y10
        have t10 := tG.ext x10
        have eL10 := y10.at t9 eL9 (fun ps z => by cases z)
        have rv10 := dpA_ext y10 t9 rv9
        rcases hp1 with ⟨hrr, hpp⟩ | ⟨hrr, hpp⟩
        · have ec1 := ecp 41 (by rw [hpp]; rfl)
          have hlt := (List.getElem?_eq_some_iff.mp ec1).1
          refine s_ifR (b := true) (edt_is (edt_and (b := true) (c := true) (edt_is (edt_test (K := K) (ed_op t10 (ed_var t10 rfl (.int _)) (ed_cb (ed_one (v0 t10)) (rdc_lenS hz2)) rd_ltI)) (decide_eq_true (by rw [len_tl]; omega))) fun _ => edt_is (edt_test (K := K) (ed_op t10 (ed_op t10 (v0 t10) (ed_var t10 rfl (.int _)) (rd_ixS (c := 41) hz2 (by omega) (by rw [Int.toNat_natCast]; exact ec1))) ed_str rd_eqS)) (by decide +kernel)) rfl) (fun _ H11 y11 => ?_) (fun h => by cases h)
          have x11 := x10.trans y11
          have t11 := tG.ext x11
          have rL : Dp K H11 (.ref L) (.list ((ds ++ [p]).map enc)) := .lst (.inl (.inl (y11.at t10 eL10 (fun ps z => by cases z)))) (dpA_ext y11 t10 rv10)
          refine s_ret (K := K) (ed_is (ed_tup t11 (ed_cons t11 (ed_tup t11 (ed_cons t11 (ed_var t11 rfl (.str t.sgn)) (ed_one (ed_cb (ed_one (ed_var t11 rfl rL)) (rdc_tuple t11)))) (by show 2 ≤ sizeLine; decide)) (ed_one (ed_op t11 (ed_var t11 rfl (.int _)) ed_int rd_add))) (by show 2 ≤ sizeLine; decide)) ?_) fun w12 H12 y12 rw12 => q w12 H12 (x11.trans y12) rw12
          have e1 : ds ++ [p] = t.parts := by rw [← eds, hrr]
          have e2 : ((pre'.length + sp'.length + p.txt.length : Nat) : Int) + 1 = ((pre.length + sp.length + t.txt.length : Nat) : Int) := by
            rw [hpp, List.length_cons] at lzz
            omega
          rw [e1, e2, ← enc_n hnv]
        · have ec1 := ecp 44 (by rw [hpp]; rfl)
          have hlt := (List.getElem?_eq_some_iff.mp ec1).1
          refine s_ifR (b := false) (edt_is (edt_and (b := true) (c := false) (edt_is (edt_test (K := K) (ed_op t10 (ed_var t10 rfl (.int _)) (ed_cb (ed_one (v0 t10)) (rdc_lenS hz2)) rd_ltI)) (decide_eq_true (by rw [len_tl]; omega))) fun _ => edt_is (edt_test (K := K) (ed_op t10 (ed_op t10 (v0 t10) (ed_var t10 rfl (.int _)) (rd_ixS (c := 44) hz2 (by omega) (by rw [Int.toNat_natCast]; exact ec1))) ed_str rd_eqS)) (by decide +kernel)) rfl) (fun h => by cases h) fun _ H11 y11 => ?_
          have x11 := x10.trans y11
          have t11 := tG.ext x11
          refine s_ifR (b := false) (edt_is (edt_or (b := false) (c := false) (edt_is (edt_test (K := K) (ed_op t11 (ed_var t11 rfl (.int _)) (ed_cb (ed_one (v0 t11)) (rdc_lenS hz2)) rd_geI)) (decide_eq_false (by rw [len_tl]; omega))) fun _ => edt_is (edt_test (K := K) (ed_op t11 (ed_op t11 (v0 t11) (ed_var t11 rfl (.int _)) (rd_ixS (c := 44) hz2 (by omega) (by rw [Int.toNat_natCast]; exact ec1))) ed_str rd_neS)) (by decide +kernel)) rfl) (fun h => by cases h) fun _ H12 y12 => ?_
          have x12 := x11.trans y12
          have t12 := tG.ext x12
          refine ⟨.int ((pre'.length + sp'.length + p.txt.length : Nat) : Int), rfl, ?_⟩
          refine ⟨((pre'.length + sp'.length + p.txt.length : Nat) : Int), 1, rfl, rfl, ?_⟩
          have y1012 := y11.trans y12
          refine ⟨rr.length, by simp, ds ++ [p], rr, pre' ++ sp' ++ p.txt ++ [44], [32], vs ++ [u1], some u1, rfl, hrr, by rw [← eds]; simp, ?_, x12, y1012.at t10 eL10 (fun ps z => by cases z), dpA_ext y1012 t10 rv10, by rw [ez5, hpp]; simp, fun c hc => by rw [List.mem_singleton.mp hc]; decide⟩
          have l6 : (pre' ++ sp' ++ p.txt ++ [44]).length = pre'.length + sp'.length + p.txt.length + 1 := by rw [List.length_append, l5]; rfl
          rw [l6]
          show ([some (.str z), some (.int (((pre'.length + sp'.length + p.txt.length : Nat) : Int) + 1)), some (.int e), some (.int ((pre.length + sp.length : Nat) : Int)), some (.str t.sgn), some (.ref L), some u1] : L2.St) = _
          rw [show ((pre'.length + sp'.length + p.txt.length : Nat) : Int) + 1 = ((pre'.length + sp'.length + p.txt.length + 1 : Nat) : Int) by omega]
end
end Rh
set_option Elab.async false
set_option linter.all false
set_option maxRecDepth 100000
set_option maxHeartbeats 1000000
namespace Dl
open PySem PySem.Spec PyProof.Rows L2 GxR Gx
/-- a def that may raise -/
structure ClX (P : Program) (w : World) (K : PySem.W.Frag) (mg : Str → Option Value) (base : Heap) (k : Nat) (x : Str) (sp : Sp) : Prop where
  ex : ∃ f fd ps, FnOk P w K mg base (L2.CX P w) k f fd ps sp ∧ mg x = some (.ref f) ∧ PySem.W.keepIn K (.ref f) = true ∧ Binds K fd ps []
section
variable {X : Cx} {k : Nat} {x : Str} {sp : Sp} {E : XK} {p pos : Pos} {e : Expr} {es : List Expr} {t : TA} {P : Program} {w : World} {K : PySem.W.Frag} {mg : Str → Option Value} {base : Heap} {G : List Addr}
theorem pe_clX (C : ClX X.prog X.w X.K X.mg X.base k x sp) (hr : Room k X.A) (hg : Gl X x) (hx : Passes (L2.CX X.prog X.w) X E) (ha : PA X (e :: es) t) (hdb : (x == ("__debug__" : Str)) = false := by decide)
    (he : starEach (e :: es) X.env = (false, eval e X.env) :: starEach es X.env := by rfl) (hpl : (backTo pos (starEach es X.env)).any (·.1) = false := by rfl) :
    PE X (.Call (.Name x p) (e :: es) [] pos) (tCall sp [] E t) := by
  obtain ⟨f, fd, ps, F, m, kp, b⟩ := C.ex
  exact pe_call F hr hg m kp b .nil hx ha hdb he hpl
theorem DefF.clX {st : Stmt} {f : Addr} {fd : FuncData} {N ps : List Str} {R : List Ar → Prop} {C : Addr} (D : DefF K mg base G x st ps f fd) (S : FnScope N ps (defScope st)) (len : ∀ ds, R ds → ds.length = ps.length)
    (hbody : ∀ (c Pt : Addr) (A : Around) (outer : List Env) (s : Shared) (H : Hp) (vs : List V) (ds : List Ar) (Q : VK) (E : XK), TabB base mg c Pt → Pt ∈ G → Room k (A.deeper (envOfC x (defScope st) s.heap.objs.size f (.ref c))) →
      TabsG G H → ArA K H vs ds → R ds → (∀ H', Ext G H H' → E (.ref C) Option.none H') →
      ∃ t, PSs (cxOf (L2.CX P w) P w K mg base N x (defScope st) f (.ref c) A outer s H E) (defBody st) t ∧ t { nx := fun _ H' => Q .non H', rt := Q } (start N vs) H) : ClX P w K mg base (k + 1) x (spE G K R C) := by
  obtain ⟨c, Pt, F, TB, hP⟩ := D.cP
  refine ⟨f, fd, ps, ?_, D.m, F.kp, D.b⟩
  obtain ⟨oc, od, kV, doc, pm, an, ct, osl, rfl, lk, hcd⟩ := F.ex
  refine fn_of lk hcd S (fun vs H Q E ⟨_, ds, h1, h2, _⟩ => (arA_len h1).trans (len ds h2)) fun A outer s H vs Q E hr hsp => ?_
  obtain ⟨tG, ds, h1, h2, q⟩ := hsp
  exact hbody c Pt A outer s H vs ds Q E TB hP hr tG h1 h2 q
end
end Dl
namespace Rh
open PySem PySem.Spec PyProof.Rows L2 GxR Gx Dl LiI LamX
theorem sc_check_term : FnScope ["thing"] ["thing"] (defScope s_check_term) := ⟨rfl, rfl, rfl, by decide +kernel, rfl, by decide +kernel, by decide +kernel⟩
def R_chkE (n : Nat) : List Ar → Prop := fun as => ∃ e, as = [.d e] ∧ okDn n e = true ∧ isTn n e = false
def R_atE : List Ar → Prop := fun as => ∃ t : T, as = [.d (enc t), .d (encP [9])] ∧ t.ok
section
variable {P : Program} {w : World} {K : PySem.W.Frag} {mg : Str → Option Value} {base : Heap} {G : List Addr} {f : Addr} {fd : FuncData} {CB : Addr}
theorem clx_check {n : Nat} (D : DefF K mg base G "check_term" s_check_term ["thing"] f fd) (it : Cl0 P w K mg base (2 * n + 2) "is_term" (spA G K (R_isT n)))
    (mk : ∀ {X : Cx} {m : Str} {j : Nat} {p p2 pos : Pos}, X.K = K → X.mg = mg → Gl X "BadTerm" → PMk X (.Call (.Name "BadTerm" p) [.Constant (.str m) j p2] [] pos) (fun _ H Q => Q (.ref CB) none H)) :
    ClX P w K mg base (2 * n + 3) "check_term" (spE G K (R_chkE n) CB) := by
  refine D.clX (k := 2 * n + 2) sc_check_term (fun ds r => by obtain ⟨_, rfl, _⟩ := r; rfl) fun c Pt A outer s H vs ds Q E TB hP hr tG hv r q => ?_
  refine ⟨_, pss_one (ps_if (PT.nox (pt_not (pt_val (pe_cl it hr rfl (pa_cons (pv 0) pa_nil))))) (pss_one (ps_raise rfl (takes_of rfl rfl rfl rfl) (mk rfl rfl rfl))) pss_nil), ?_⟩
  obtain ⟨e, rfl, h1, h2⟩ := r
  obtain ⟨v, rfl, rv⟩ := arA_one hv
  refine s_if (b := true) (edt_not (b := false) (edt_is (edt_val (ea_call tG (ea_one (edx_of (ed_var (i := 0) (σ := [some v]) tG rfl (show Dp K H v e from rv)))) (show R_isT n _ (.bool (isTn n e)) from ⟨e, rfl, h1, rfl⟩))) h2)) (fun _ H2 y => ?_) (fun h => by cases h)
  exact q H2 y
theorem clx_at (D : DefF K mg base G "at" s_at ["term", "place"] f fd) (iv : IV P w K mg base G) (m : mg "len" = none)
    (mk : ∀ {X : Cx} {m : Str} {j : Nat} {p p2 pos : Pos}, X.K = K → X.mg = mg → Gl X "BadTerm" → PMk X (.Call (.Name "BadTerm" p) [.Constant (.str m) j p2] [] pos) (fun _ H Q => Q (.ref CB) none H)) :
    ClX P w K mg base 3 "at" (spE G K R_atE CB) := by
  refine D.clX (k := 2) sc_at (fun ds r => by obtain ⟨_, rfl, _⟩ := r; rfl) fun c Pt A outer s H vs ds Q E TB hP hr tG hv r q => ?_
  refine ⟨_, pss_cons (ps_for (passes_of rfl) rfl (pi_tup (pv 1)) (pg_name (i := 2) sc_at.nd rfl (Or.inl rfl)) (pss_cons (ps_if (PT.nox (PW.pt (pw_or (pt_val (pe_cl iv hr rfl (pa_cons (pv 0) pa_nil)))
      (pw_or1 (pt_not (pt_chain op_le op_lt pe_int (pv 2) (pe_callB call_len_seq (by rfl) m PySem.boot_len (pa_cons (pe_ix ix_tup (pv 0) pe_int (fun _ _ => rfl)) pa_nil)))))))) (pss_one (ps_raise rfl (takes_of rfl rfl rfl rfl) (mk rfl rfl rfl))) pss_nil)
      (pss_one ps_never)))
    (pss_one ps_never), ?_⟩
  obtain ⟨t, rfl, o⟩ := r
  obtain ⟨v, z, rfl, rv, rz⟩ := arA_two hv
  refine s_forTH (K := K) (ds := [9].map fun (n : Nat) => PyData.int n) tG (ed_var tG rfl (show Dp K H z (encP [9]) from rz)) (fun i σ' H' => i = 0 ∧ σ' = [some v, some z, none])
    (fun H1 y => ⟨rfl, rfl⟩) ?_ ?_
  · rintro i d kv σ' H' N hd ⟨rfl, rfl⟩ y rk t1 hN
    cases hd
    have u0 : ∀ {H2}, Ext G H' H2 → Ed G K (tVar 0) [some v, some z, some kv] H2 (enc t) := fun x => ed_var (t1.ext x) rfl (dp_ext (y.trans x) tG rv)
    have uk : ∀ {H2}, Ext G H' H2 → Ed G K (tVar 2) [some v, some z, some kv] H2 (.int 9) := fun y => ed_var (t1.ext y) rfl (dp_ext y t1 rk)
    refine s_ifR (b := true) ?_ (fun _ H2 y2 => q H2 (y.trans y2)) (fun h => by cases h)
    by_cases hnv : t.isV = true
    · exact edt_is (edt_or (c := true) (edt_val (ed_iv t1 o (u0 (Ext.refl G H')))) fun h => by rw [hnv] at h; cases h) (by rw [hnv]; rfl)
    · have hnv : t.isV = false := by simpa using hnv
      refine edt_is (edt_or (edt_val (ed_iv t1 o (u0 (Ext.refl G H')))) fun _ => edt_not (edt_test (ed_chain t1 ed_int (uk (Ext.refl G H')) rd_leI (ed_cb (ed_one (ed_parts t1 hnv (u0 (Ext.refl G H')))) rdc_len) rd_ltI))) ?_
      rw [hnv]
      have e2 : decide ((9 : Int) < ((t.parts.map enc).length : Nat)) = false := decide_eq_false (by rw [List.length_map]; have := t.parts_len; omega)
      rw [e2]
      simp
  · rintro σ' H' y ⟨h, _⟩
    cases h
end
end Rh
set_option Elab.async false
set_option linter.all false
set_option maxRecDepth 100000
set_option maxHeartbeats 1000000
/-! k34's _law_told -/
namespace Rh
open PySem PySem.Spec PyProof.Rows L2 GxR Gx Dl LiI LamX
theorem sc_told_law : FnScope ["what", "e", "some"] ["what"] (defScope s_told_law) := ⟨rfl, rfl, rfl, by decide +kernel, rfl, by decide +kernel, by decide +kernel⟩
theorem s_setSeqL {G : List Addr} {K : PySem.W.Frag} {σ : L2.St} {H : Hp} {te : TE} {u : TS} {En : Ends} {i : Nat} {ds : List PyData} (h : EdL G K te σ H ds) (q : ∀ p vs H', Ext G H H' → H' p = some (.lst vs) → DpAll K H' vs ds → u En (σ.set i (some (.ref p))) H') : tSeq (tAsg te (gName i)) u En σ H :=
  h H (Ext.refl G H) _ fun p vs H2 x2 e r => q p vs H2 x2 e r
/-- the classes by their numbers -/
structure Cs where
  t : Addr
  r : Addr
  x : Addr
  p : Addr
  n : Addr
  l : Addr
  d : Addr
  f : Addr
structure CsOk (mg : Str → Option Value) (c : Cs) : Prop where
  t : mg "BadTerm" = some (.ref c.t)
  r : mg "BadRule" = some (.ref c.r)
  x : mg "BadText" = some (.ref c.x)
  p : mg "BadPaper" = some (.ref c.p)
  n : mg "NoWay" = some (.ref c.n)
  l : mg "TooLarge" = some (.ref c.l)
  d : mg "BadDeed" = some (.ref c.d)
  f : mg "RewriteFault" = some (.ref c.f)
  isi : mg "isinstance" = none
  ve : mg "ValueError" = none
/-- isinstance of an exception of the class D -/
structure Kin (K : PySem.W.Frag) (c : Cs) (D : Addr) (b : List Bool) : Prop where
  ec : ExcC K D
  rf : PySem.W.exmOne K (.ref D) (.ref c.f) = some true
  k0 : PySem.W.kitOne K (.ref D) (.ref c.t) = some (b.getD 0 false)
  k1 : PySem.W.kitOne K (.ref D) (.ref c.r) = some (b.getD 1 false)
  k2 : PySem.W.kitOne K (.ref D) (.ref c.x) = some (b.getD 2 false)
  k3 : PySem.W.kitOne K (.ref D) (.ref c.p) = some (b.getD 3 false)
  k4 : PySem.W.kitOne K (.ref D) (.ref c.n) = some (b.getD 4 false)
  k5 : PySem.W.kitOne K (.ref D) (.ref c.l) = some (b.getD 5 false)
  k6 : PySem.W.kitOne K (.ref D) (.ref c.d) = some (b.getD 6 false)
  k7 : PySem.W.kitOne K (.ref D) (.type "ValueError") = some (b.getD 7 false)
def tIs (K : PySem.W.Frag) (D a : Addr) (d : Option Addr) (v : V) : TE := tCB (rIsX K D a d) (tCons (tVar 1) (tCons (tC v) tNil))
def tSui (K : PySem.W.Frag) (c : Cs) (D a : Addr) (d : Option Addr) : TS := tSeq (tAsg (tLst (tCons (tIs K D a d (.ref c.t)) (tCons (tIs K D a d (.ref c.r)) (tCons (tIs K D a d (.ref c.x)) (tCons (tIs K D a d (.ref c.p)) tNil))))) (gName 2))
  (tRet (tOp rCat (tVar 2) (tLst (tCons (tIs K D a d (.ref c.n)) (tCons (tIs K D a d (.ref c.l)) (tCons (tIs K D a d (.ref c.d)) (tCons (tIs K D a d (.ty "ValueError")) tNil)))))))
/-- what _law_told makes of what raises -/
def TTk (G : List Addr) (K : PySem.W.Frag) (c : Cs) : (XK → Hp → VK → Prop) → Hp → VK → Prop := fun tl H Q =>
  tl (fun cls d H' => ∃ D b, cls = .ref D ∧ Kin K c D b ∧ (∀ dx, d = some dx → ∃ fs, H' dx = some (.xd fs)) ∧ TabsG G H' ∧ ∀ v H2, Ext G H' H2 → Dp K H2 v (.list (([0, 1, 2, 3, 4, 5, 6, 7] : List Nat).map fun i => .bool (b.getD i false))) → Q v H2) H
    (fun _ H' => tRet (tLst tNil) { nx := fun _ H' => Q .non H', rt := Q } [] H')
theorem told_kin {G : List Addr} {X : Cx} {q : Str} {g : Addr} {cdg : Value} {c : Cs} (M : CsOk X.mg c) : GivesTo X ["what", "e", "some"] "_law_told" (defScope s_told_law) g cdg (defBody s_told_law) "what" q (TTk G X.K c) := by
  intro f c' s H Q tl act hc h
  refine' ⟨_, pss_cons (L2.ps_try_as (X := (cxOf C8.CX0 X.prog X.w X.K X.mg X.base ["what", "e", "some"] "_law_told" (defScope s_told_law) g cdg X.A X.stack s H C8.E0).nox) (i := 1) (c := .ref c.f) (Wout := fun _ _ _ _ => False)
      (tb := fun W D σ H => ∃ Ech : XK, (∀ cls d σ' H', Ech cls d H' → W cls d σ' H') ∧ σ[0]? = some (some (.ref f)) ∧ H c' = some (CodeO c' q) ∧ tl Ech H fun _ H' => D.nx σ H')
      (ts := fun a cls d En σ H => ∃ D, cls = .ref D ∧ ExcC X.K D ∧ (σ.length = 3 → tSui X.K c D a d En σ H)) rfl rfl sc_told_law.nd rfl rfl ⟨rfl, by decide, .inl M.f⟩ LamX.takes0 ?hb ?hsu) (pss_one (ps_ret (pe_lst pa_nil))), ?fin⟩
  case hb =>
    intro W pn xe tk _
    exact ⟨fun pins s' σ H' D I ⟨Ech, hW, h1, h2, h3⟩ => (pss_one (ps_expr (act W pn xe Ech _ _ tk hW))).run pins s' σ H' D I ⟨h1, h2, h3⟩⟩
  case hsu =>
    intro a oe cls d pn hz hf
    refine ⟨fun pins s' σ H' D I ⟨D0, ec, EC, h3⟩ => ?_⟩
    subst ec
    have h3 := h3 I.len
    have one : ∀ {x : Str} {v : V} {u : Value} {p p2 p3 p4 : Pos}, X.mg x = some u → RelV v u → Gl (cxOf C8.CX0 X.prog X.w X.K X.mg X.base ["what", "e", "some"] "_law_told" (defScope s_told_law) g cdg X.A X.stack s H C8.E0).nox x → (x == ("__debug__" : Str)) = false →
        PE ((cxOf C8.CX0 X.prog X.w X.K X.mg X.base ["what", "e", "some"] "_law_told" (defScope s_told_law) g cdg X.A X.stack s H C8.E0).nox.suite a ((a, oe) :: pn)) (.Call (.Name "isinstance" p) [.Name "e" p2, .Name x p3] [] p4) (tIs X.K D0 a d v) := fun hm r hg hd =>
      pe_callB (call_isX EC hz hf) (by rfl) M.isi (by decide +kernel) (pa_cons (pv 1) (pa_cons (pe_glob hg hm r hd) pa_nil))
    exact (pss_cons (ps_set (i := 2) sc_told_law.nd rfl (Or.inl rfl) (pe_lst (pa_cons (one (v := .ref c.t) M.t rfl rfl (by decide)) (pa_cons (one (v := .ref c.r) M.r rfl rfl (by decide)) (pa_cons (one (v := .ref c.x) M.x rfl rfl (by decide)) (pa_cons (one (v := .ref c.p) M.p rfl rfl (by decide)) pa_nil))))))
      (pss_one (ps_ret (pe_op op_cat (pv 2) (pe_lst (pa_cons (one (v := .ref c.n) M.n rfl rfl (by decide)) (pa_cons (one (v := .ref c.l) M.l rfl rfl (by decide)) (pa_cons (one (v := .ref c.d) M.d rfl rfl (by decide)) (pa_cons (pe_callB (call_isX EC hz hf) (by rfl) M.isi (by decide +kernel) (pa_cons (pv 1) (pa_cons (pe_bltn (v := .ty "ValueError") (by rfl) M.ve (by decide +kernel) rfl) pa_nil))) pa_nil))))))))).run pins s' σ H' D I h3
  case fin =>
    refine ⟨_, fun cls d σ' H' hE => ?_, rfl, hc, h⟩
    obtain ⟨D, b, rfl, kk, hx, tG, q⟩ := hE
    refine ⟨true, kk.rf, fun _ a na => ?_, fun z => Bool.noConfusion z⟩
    refine ⟨D, rfl, kk.ec, fun hl => ?_⟩
    dsimp only
    have hl : σ'.length = 3 := by rw [List.length_set] at hl; exact hl
    obtain ⟨x, y, z, rfl⟩ : ∃ x y z : Option V, σ' = [x, y, z] := by
      match σ', hl with
      | [x, y, z], _ => exact ⟨x, y, z, rfl⟩
    have is : ∀ {i : Nat} {v : V} {H2 : Hp} {x z : Option V}, i < 8 → (∃ cv, (∀ u, RelV v u → u = cv) ∧ PySem.W.kitOne X.K (.ref D) cv = some (b.getD i false)) → Ext G H' H2 → Ed G X.K (tIs X.K D a d v) [x, some (.ref a), z] H2 (.bool (b.getD i false)) := fun hi ⟨cv, e1, e2⟩ y H1 x1 Q q =>
      ⟨.ref a, rfl, _, cv, _, rfl, e1, e2, fun dx hd => by
        obtain ⟨fs, e⟩ := hx dx hd
        exact ⟨fs, (y.trans x1).at tG e fun ps z => by cases z⟩, q _ H1 (Ext.refl G H1) (.bl _)⟩
    have cl : ∀ {C : Addr} (u : Value), RelV (.ref C) u → u = .ref C := fun u r => r
    have rf := Ext.refl G H'
    have sz : ∀ n, n ≤ 8 → n ≤ sizeLine := fun n h => Nat.le_trans h (by decide)
    refine s_setSeqL (edl_lst (K := X.K) tG (ed_cons tG (is (i := 0) (by decide) ⟨_, cl, kk.k0⟩ rf) (ed_cons tG (is (i := 1) (by decide) ⟨_, cl, kk.k1⟩ rf) (ed_cons tG (is (i := 2) (by decide) ⟨_, cl, kk.k2⟩ rf) (ed_one (is (i := 3) (by decide) ⟨_, cl, kk.k3⟩ rf))))) (sz _ (by show 4 ≤ 8; decide))) fun p vs H1 y1 e1 r1 => ?_
    have t1 := tG.ext y1
    have v2 : EdL G X.K (tVar 2) [x, some (.ref a), some (.ref p)] H1 _ := fun H2 x2 Q q => ⟨_, rfl, q p vs H2 (Ext.refl G H2) (x2.at t1 e1 fun ps z => by cases z) (dpA_ext x2 t1 r1)⟩
    refine s_ret (K := X.K) (G := G) ((edl_cat t1 v2 (edl_lst t1 (ed_cons t1 (is (i := 4) (by decide) ⟨_, cl, kk.k4⟩ y1) (ed_cons t1 (is (i := 5) (by decide) ⟨_, cl, kk.k5⟩ y1) (ed_cons t1 (is (i := 6) (by decide) ⟨_, cl, kk.k6⟩ y1) (ed_one (is (i := 7) (v := .ty "ValueError") (by decide) ⟨.type "ValueError", fun u r => r, kk.k7⟩ y1))))) (sz _ (by show 4 ≤ 8; decide))) (sz _ (by show 8 ≤ 8; decide))).ed) fun v2 H2 y2 r2 => ?_
    exact q v2 H2 (y1.trans y2) r2
end Rh
set_option Elab.async false
set_option linter.all false
set_option maxRecDepth 100000
set_option maxHeartbeats 1000000
/-! k34: solve and unified where they end at once -/
namespace Rh
open PySem PySem.Spec PyProof.Rows L2 GxR Gx Dl LiI LamX
theorem s_parR {ta : TA} {i j : Nat} {En : Ends} {σ : L2.St} {H : Hp} (h : ta σ H fun vs H2 => ∃ v w, vs = [v, w] ∧ En.nx ((σ.set i (some v)).set j (some w)) H2) : tPar i j ta En σ H := h
theorem s_par2 {G : List Addr} {K : PySem.W.Frag} {σ : L2.St} {H : Hp} {ta : TA} {d e : PyData} {i j : Nat} {D : Ends} (h : EdA G K ta σ H [d, e]) (q : ∀ v w H', Ext G H H' → Dp K H' v d → Dp K H' w e → D.nx ((σ.set i (some v)).set j (some w)) H') : tPar i j ta D σ H :=
  h H (Ext.refl G H) _ fun vs H2 x2 rs => by
    obtain ⟨v, w, rfl, r1, r2⟩ := dpA_two rs
    exact ⟨v, w, rfl, q v w H2 x2 r1 r2⟩
theorem s_asgR {te : TE} {g : TG} {En : Ends} {σ : L2.St} {H : Hp} (h : te σ H fun v H2 => g v σ H2 En.nx) : tAsg te g En σ H := h
theorem g_two {K : PySem.W.Frag} {i j : Nat} {p : Addr} {x y : V} {σ : L2.St} {H : Hp} {N : L2.St → Hp → Prop} (hs : SqT K H p [x, y]) (h : N ((σ.set i (some x)).set j (some y)) H) : gTup K 2 (gCons (gName i) (gCons (gName j) gNil)) (.ref p) σ H N := ⟨p, [x, y], rfl, hs, rfl, x, [y], rfl, y, [], rfl, rfl, h⟩
theorem sc_solve : FnScope ["pairs", "table", "left", "one", "other"] ["pairs"] (defScope s_solve) := ⟨rfl, rfl, rfl, by decide +kernel, rfl, by decide +kernel, by decide +kernel⟩
theorem sc_unified : FnScope ["one", "other", "table"] ["one", "other"] (defScope s_unified) := ⟨rfl, rfl, rfl, by decide +kernel, rfl, by decide +kernel, by decide +kernel⟩
def pairU (x s : Str) : PyData := .tuple [enc (.v x), enc (.u s (.v x))]
def R_solve : List Ar → PyData → Prop := fun as d => ∃ x s : Str, as = [.d (.list [pairU x s])] ∧ (T.u s (.v x)).ok ∧ d = .none
def R_uni : List Ar → Prop := fun as => ∃ x s : Str, as = [.d (enc (.v x)), .d (enc (.u s (.v x)))] ∧ (T.u s (.v x)).ok
theorem pu_pairU (x s : Str) : Pu (pairU x s) = true := puA_all.mpr fun d hd => by
  simp only [List.mem_cons, List.not_mem_nil, or_false] at hd
  rcases hd with rfl | rfl <;> exact pu_enc _
theorem shaped_pairU {x s : Str} (o : (T.u s (.v x)).ok) : SeqAt.shaped (.list [pairU x s]) = true := by
  have c1 := can_enc (.v x) o.2
  have c2 := can_enc (.u s (.v x)) o
  unfold SeqAt.shaped
  rw [Bool.and_eq_true, decide_eq_true_eq]
  constructor
  · show (PyData.canLay0 (.tuple [enc (.v x), enc (.u s (.v x))]) && true) = true
    show ((PyData.canLay0 (enc (.v x)) && (PyData.canLay0 (enc (.u s (.v x))) && true)) && true) = true
    rw [c1, c2]
    rfl
  · simp [pairU, enc, PyData.depth, PyData.depthAll]
section
variable {P : Program} {w : World} {K : PySem.W.Frag} {mg : Str → Option Value} {base : Heap} {G : List Addr} {f : Addr} {fd : FuncData} {CN : Addr}
theorem cl_solve (D : DefF K mg base G "solve" s_solve ["pairs"] f fd) (iv : IV P w K mg base G) (pu : Cl0 P w K mg base 26 "put" (spA G K (R_put 12))) (va : Cl0 P w K mg base 26 "variables" (spA G K (R_vars 12))) (m : mg "list" = none) : Cl0 P w K mg base 30 "solve" (spA G K R_solve) := by
  refine D.cl (k := 29) sc_solve (fun ds d r => by obtain ⟨_, _, rfl, _⟩ := r; rfl) fun c Pt A outer s H vs ds d Q E TB hP hr tG hv r q => ?_
  refine ⟨_, pss_cons (ps_par (i := 1) (j := 2) (by rfl) sc_solve.nd rfl rfl (by decide) rfl rfl (pa_cons pe_dnewK (pa_cons (pe_callTy call_list_of (by rfl) m (by decide +kernel) (pa_cons (pv 0) pa_nil)) pa_nil)) (by rfl))
    (pss_cons (ps_while PassesOwn.never (pt_cmpR (op_neD hr.units) (pv 2) (pe_lst pa_nil) (nomark _))
      (pss_cons (ps_asg (pe_bm0 PySem.F.plainAttrs_list PySem.F.slot_list_pop PySem.F.type_list_pop mt_pop (pv 2)) (pg_tup rfl (pgs_cons (pg_name (i := 3) sc_solve.nd rfl (Or.inl rfl)) (pgs_cons (pg_name (i := 4) sc_solve.nd rfl (Or.inl rfl)) pgs_nil))))
      (pss_cons (ps_par (i := 3) (j := 4) (by rfl) sc_solve.nd rfl rfl (by decide) rfl rfl (pa_cons (pe_cl pu (hr.mono (by omega)) rfl (pa_cons (pv 3) (pa_cons (pv 1) pa_nil))) (pa_cons (pe_cl pu (hr.mono (by omega)) rfl (pa_cons (pv 4) (pa_cons (pv 1) pa_nil))) pa_nil)) (by rfl))
      (pss_cons (ps_if (pt_cmpR (op_eqD hr.units) (pv 3) (pv 4) (nomark _)) pss_never pss_nil)
      (pss_cons (ps_if (PW.pt (pw_and (pt_not (pt_val (pe_cl iv (hr.mono (by omega)) rfl (pa_cons (pv 3) pa_nil)))) (pw_and1 (pt_val (pe_cl iv (hr.mono (by omega)) rfl (pa_cons (pv 4) pa_nil)))))) pss_never pss_nil)
      (pss_one (ps_if (pt_val (pe_cl iv (hr.mono (by omega)) rfl (pa_cons (pv 3) pa_nil))) (pss_cons (ps_if (pt_cmpR op_in_seq (pv 3) (pe_cl va (hr.mono (by omega)) rfl (pa_cons (pv 4) pa_nil)) rfl) (pss_one (ps_ret pe_non)) pss_nil) pss_never) pss_never)))))))
    pss_never), ?_⟩
  obtain ⟨x, z, rfl, o, rfl⟩ := r
  obtain ⟨v, rfl, rv⟩ := arA_one hv
  obtain ⟨ap, xs, rfl, hs, hr1⟩ := dp_lst (show Dp K H v (.list [pairU x z]) from rv)
  obtain ⟨y, rfl, ry⟩ := dpA_one hr1
  refine s_seq (s_parR fun p hp => ⟨_, rfl, ap, [y], rfl, .inl ((Ext.new (G := G) hp).sqL tG hs), fun l hl => ⟨_, _, rfl, ?_⟩⟩)
  have x1 : Ext G H (upd H p (.dK [])) := Ext.new hp
  have t1 := tG.ext x1
  have x2 : Ext G (upd H p (.dK [])) (upd (upd H p (.dK [])) l (.lst [y])) := Ext.new hl
  have x12 := x1.trans x2
  have t2 := tG.ext x12
  have npl : p ≠ l := fun e => by rw [← e, upd_same] at hl; cases hl
  have hn : H l = none := by rw [← hl, upd_ne (fun e => npl e.symm)]
  have ed : upd (upd H p (.dK [])) l (.lst [y]) p = some (.dK []) := by rw [upd_ne npl, upd_same]
  have el : upd (upd H p (.dK [])) l (.lst [y]) l = some (.lst [y]) := upd_same
  have ry2 : Dp K (upd (upd H p (.dK [])) l (.lst [y])) y (pairU x z) := dp_ext x12 tG ry
  generalize upd (upd H p (.dK [])) l (.lst [y]) = H2 at x12 t2 ed el ry2 ⊢
  show tSeq (tWhile _ _) _ _ [some (.ref ap), some (.ref p), some (.ref l), none, none] H2
  refine s_seq (s_whileG (α := Unit) t2 (fun _ σ' H' => σ' = [some (.ref ap), some (.ref p), some (.ref l), none, none] ∧ Ext G H2 H') (fun _ => 0) (fun _ => true) () ⟨rfl, Ext.refl G H2⟩ ?_ ?_ (fun a σ' H1 H2 y _ h => ⟨h.1, h.2.trans y⟩) (fun a σ' H' _ _ h => by cases h))
  · rintro _ σ' H' ⟨rfl, y3⟩ t3
    have e3 := y3.at t2 el fun ps z => by cases z
    refine edt_is (edt_test (K := K) (ed_op t3 (ed_var (i := 2) t3 rfl (.lst (SqL.of e3) (.cons (dp_ext y3 t2 ry2) .nil))) (ed_lst t3 ed_nil (by show 0 ≤ sizeLine; decide)) (rd_neD (shaped_pairU o) (by decide +kernel)))) ?_
    rfl
  · rintro _ σ' H' N ⟨rfl, y3⟩ _ _ t3 _
    have e3 := y3.at t2 el fun ps z => by cases z
    have ry3 := dp_ext y3 t2 ry2
    refine s_seq (s_asgR ⟨_, rfl, .inl ⟨rfl, _, SqL.of e3⟩, l, [y], y, rfl, rfl, e3, rfl, ?_⟩)
    have xm : Ext G H (upd H' l (.lst [])) := Ext.mut (x12.trans y3) hn e3 fun ps z => by cases z
    have t4 := tG.ext xm
    have ry4 : Dp K (upd H' l (.lst [])) y (pairU x z) := dp_tups (fun _ _ q => sqT_upd e3 q) (pu_pairU x z) ry3
    have ed4 : upd H' l (.lst []) p = some (.dK []) := by rw [upd_ne npl]; exact y3.at t2 ed fun ps z => by cases z
    show gTup K 2 _ y _ (upd H' l (.lst [])) _
    generalize upd H' l (.lst []) = H4 at xm t4 ry4 ed4 ⊢
    obtain ⟨pp, zs, rfl, hs4, hr4⟩ := dp_tup ry4
    obtain ⟨v1, v2, rfl, r1, r2⟩ := dpA_two hr4
    refine g_two hs4 ?_
    have ka : ArR K H4 (.ref p) (.k (encSub [])) := ⟨p, [], rfl, ed4, .nil⟩
    have e1 : ∀ {te : TE} {t : T} {σ'' : L2.St}, t.ok → t.dp < 12 → Ed G K te σ'' H4 (enc t) → σ''[1]? = some (some (.ref p)) → Ed G K (tCall (spA G K (R_put 12)) [] (fun _ _ _ => False) (tCons te (tCons (tVar 1) tNil))) σ'' H4 (enc (t.put [])) := fun o d h h1 => ea_call t4 (ea_cons t4 (edx_of h) (ea_one (edx_var t4 h1 ka))) ⟨_, [], rfl, o, d, rfl⟩
    refine s_seq (s_par2 (K := K) (d := enc (.v x)) (e := enc (.u z (.v x))) (ed_cons t4 (e1 (t := .v x) o.2 (by show 0 < 12; decide) (ed_var (i := 3) t4 rfl r1) rfl) (ed_one (e1 (t := .u z (.v x)) o (by show 0 + 1 < 12; decide) (ed_var (i := 4) t4 rfl r2) rfl))) fun w1 w2 H5 y5 q1 q2 => ?_)
    have t5 := t4.ext y5
    have u3 : ∀ {H6}, Ext G H5 H6 → Ed G K (tVar 3) [some (.ref ap), some (.ref p), some (.ref l), some w1, some w2] H6 (enc (.v x)) := fun y => ed_var (t5.ext y) rfl (dp_ext y t5 q1)
    have u4 : ∀ {H6}, Ext G H5 H6 → Ed G K (tVar 4) [some (.ref ap), some (.ref p), some (.ref l), some w1, some w2] H6 (enc (.u z (.v x))) := fun y => ed_var (t5.ext y) rfl (dp_ext y t5 q2)
    have rf := Ext.refl G H5
    refine s_ifR (b := false) (edt_is (edt_test (K := K) (ed_op t5 (u3 rf) (u4 rf) (rd_eqT (t := .v x) (r := .u z (.v x)) o.2 o (by show 0 ≤ 30; decide) (by show 0 + 1 ≤ 30; decide)))) (decide_eq_false fun e => by cases e)) (fun h => by cases h) fun _ H6 y6 => ?_
    have t6 := t5.ext y6
    refine s_ifR (b := false) (edt_is (edt_and (b := false) (c := true) (edt_is (edt_not (edt_val (ed_iv t6 o.2 (u3 y6)))) rfl) (fun h => by cases h)) rfl) (fun h => by cases h) fun _ H7 y7 => ?_
    have y67 := y6.trans y7
    have t7 := t5.ext y67
    refine s_if (G := G) (b := true) (edt_is (edt_val (ed_iv t7 o.2 (u3 y67))) rfl) (fun _ H8 y8 => ?_) (fun h => by cases h)
    have y68 := y67.trans y8
    have t8 := t5.ext y68
    refine s_ifR (G := G) (b := true) (edt_is (edt_test (K := K) (ed_op t8 (u3 y68) (ea_call t8 (ea_one (edx_of (u4 y68))) (show R_vars 12 _ (.tuple ((T.u z (.v x)).vars.map PyData.str)) from ⟨_, rfl, o, by show 0 + 1 < 12; decide, by show 1 < 64; decide, rfl⟩)) rd_inT)) (decide_eq_true ?_)) (fun _ H9 y9 => ?_) (fun h => by cases h)
    · show x ∈ (T.u z (.v x)).vars
      show x ∈ srtS (ddS [x])
      exact srtS_mem.mpr (by simp [ddS, addS])
    · exact s_ret (K := K) ed_non fun v9 H10 y10 r10 => q v9 H10 (((xm.trans y5).trans y68).trans (y9.trans y10)) r10
end
end Rh
set_option Elab.async false
set_option linter.all false
set_option maxRecDepth 100000
set_option maxHeartbeats 1000000
/-! defs that answer or raise an exception with a number -/
namespace Dl
open PySem PySem.Spec PyProof.Rows L2 GxR Gx LiI TL
/-- a promise: R tells the answer, or the number of the exception of the class at C -/
def spR2 (G : List Addr) (K : PySem.W.Frag) (C : Addr) (f : Str) (R : List Ar → Except Nat PyData → Prop) : Sp := fun vs H Q E => TabsG G H ∧ ∃ as r, ArA K H vs as ∧ R as r ∧ (∀ d, r = .ok d → ∀ v H', Ext G H H' → Dp K H' v d → Q v H') ∧
  ∀ k, r = .error k → ∀ dx H', Ext G H H' → H' dx = some (.xd [(f, V.int (k : Nat))]) → E (.ref C) (some dx) H'
/-- a def whose exceptions are told by CX -/
structure ClC (CX : Program → World → CXT) (P : Program) (w : World) (K : PySem.W.Frag) (mg : Str → Option Value) (base : Heap) (k : Nat) (x : Str) (sp : Sp) : Prop where
  ex : ∃ f fd ps, FnOk P w K mg base (CX P w) k f fd ps sp ∧ mg x = some (.ref f) ∧ PySem.W.keepIn K (.ref f) = true ∧ Binds K fd ps []
section
variable {CX : Program → World → CXT} {X : Cx} {k : Nat} {x : Str} {sp : Sp} {E : XK} {p pos : Pos} {e : Expr} {es : List Expr} {t : TA} {P : Program} {w : World} {K : PySem.W.Frag} {mg : Str → Option Value} {base : Heap} {G : List Addr}
theorem ClC.mono (C : ClC CX P w K mg base k x sp) {j : Nat} (h : k ≤ j) : ClC CX P w K mg base j x sp := by
  obtain ⟨f, fd, ps, a, b⟩ := C.ex
  exact ⟨f, fd, ps, a.mono h, b⟩
theorem pe_clC (C : ClC CX X.prog X.w X.K X.mg X.base k x sp) (hr : Room k X.A) (hg : Gl X x) (hx : Passes (CX X.prog X.w) X E) (ha : PA X (e :: es) t) (hdb : (x == ("__debug__" : Str)) = false := by decide)
    (he : starEach (e :: es) X.env = (false, eval e X.env) :: starEach es X.env := by rfl) (hpl : (backTo pos (starEach es X.env)).any (·.1) = false := by rfl) :
    PE X (.Call (.Name x p) (e :: es) [] pos) (tCall sp [] E t) := by
  obtain ⟨f, fd, ps, F, m, kp, b⟩ := C.ex
  exact pe_call F hr hg m kp b .nil hx ha hdb he hpl
theorem pe_clCS {ES : L2.St → XK} (C : ClC CX X.prog X.w X.K X.mg X.base k x sp) (hr : Room k X.A) (hg : Gl X x) (hx : ∀ σ, PassesAt (CX X.prog X.w) X σ (ES σ)) (ha : PA X (e :: es) t) (hdb : (x == ("__debug__" : Str)) = false := by decide)
    (he : starEach (e :: es) X.env = (false, eval e X.env) :: starEach es X.env := by rfl) (hpl : (backTo pos (starEach es X.env)).any (·.1) = false := by rfl) :
    PE X (.Call (.Name x p) (e :: es) [] pos) (tCallS sp ES t) := by
  obtain ⟨f, fd, ps, F, m, kp, b⟩ := C.ex
  exact pe_callS F hr hg m kp b hx ha hdb he hpl
theorem DefF.clC {st : Stmt} {f : Addr} {fd : FuncData} {N ps : List Str} {R : List Ar → Except Nat PyData → Prop} {C : Addr} {fl : Str} (D : DefF K mg base G x st ps f fd) (S : FnScope N ps (defScope st)) (len : ∀ ds r, R ds r → ds.length = ps.length)
    (hbody : ∀ (c Pt : Addr) (A : Around) (outer : List Env) (s : Shared) (H : Hp) (vs : List V) (ds : List Ar) (r : Except Nat PyData) (Q : VK) (E : XK), TabB base mg c Pt → Pt ∈ G → Room k (A.deeper (envOfC x (defScope st) s.heap.objs.size f (.ref c))) →
      TabsG G H → ArA K H vs ds → R ds r → (∀ d, r = .ok d → ∀ v H', Ext G H H' → Dp K H' v d → Q v H') → (∀ k, r = .error k → ∀ dx H', Ext G H H' → H' dx = some (.xd [(fl, V.int (k : Nat))]) → E (.ref C) (some dx) H') →
      ∃ t, PSs (cxOf (CX P w) P w K mg base N x (defScope st) f (.ref c) A outer s H E) (defBody st) t ∧ t { nx := fun _ H' => Q .non H', rt := Q } (start N vs) H) : ClC CX P w K mg base (k + 1) x (spR2 G K C fl R) := by
  obtain ⟨c, Pt, F, TB, hP⟩ := D.cP
  refine ⟨f, fd, ps, ?_, D.m, F.kp, D.b⟩
  obtain ⟨oc, od, kV, doc, pm, an, ct, osl, rfl, lk, hcd⟩ := F.ex
  refine fn_of lk hcd S (fun vs H Q E ⟨_, ds, r, h1, h2, _⟩ => (arA_len h1).trans (len ds r h2)) fun A outer s H vs Q E hr hsp => ?_
  obtain ⟨tG, ds, r, h1, h2, q1, q2⟩ := hsp
  exact hbody c Pt A outer s H vs ds r Q E TB hP hr tG h1 h2 q1 q2
/-- an exception whose context is None is one -/
theorem cxN_cx {o : List Env} {H : Hp} {s s' : Shared} {u : Value} (h : L2N.CX P w o H s E u s') : L2.CX P w o H s E u s' := by
  obtain ⟨a, B, H', cls, d, h1, fl, r⟩ := h
  exact ⟨a, B, H', cls, d, h1, L2H.flyingZ_imp (fun o z => ⟨z.1, z.2.1⟩) fl, r⟩
end
section
variable {G : List Addr} {K : PySem.W.Frag} {σ : L2.St} {H H' : Hp} {ta tb te : TE} {tA : TA} {d e f : PyData} {C : Addr} {fl : Str} {R : List Ar → Except Nat PyData → Prop} {as : List Ar} {r : Except Nat PyData}
theorem r2_call {E : XK} {Q : VK} (tG : TabsG G H) (h : EdXA G K tA σ H as) (hR : R as r) (q1 : ∀ d, r = .ok d → ∀ v H', Ext G H H' → Dp K H' v d → Q v H') (q2 : ∀ k, r = .error k → ∀ dx H', Ext G H H' → H' dx = some (.xd [(fl, V.int (k : Nat))]) → E (.ref C) (some dx) H') :
    tCall (spR2 G K C fl R) [] E tA σ H Q := h H (Ext.refl G H) _ fun vs H2 x2 rs => by
  show spR2 G K C fl R (vs ++ []) H2 Q E
  rw [List.append_nil]
  exact ⟨tG.ext x2, as, r, rs, hR, fun d e v H' x rv => q1 d e v H' (x2.trans x) rv, fun k e dx H' x g => q2 k e dx H' (x2.trans x) g⟩
theorem r2_callS {E : L2.St → XK} {Q : VK} (tG : TabsG G H) (h : EdXA G K tA σ H as) (hR : R as r) (q1 : ∀ d, r = .ok d → ∀ v H', Ext G H H' → Dp K H' v d → Q v H') (q2 : ∀ k, r = .error k → ∀ dx H', Ext G H H' → H' dx = some (.xd [(fl, V.int (k : Nat))]) → E σ (.ref C) (some dx) H') :
    tCallS (spR2 G K C fl R) E tA σ H Q := h H (Ext.refl G H) _ fun vs H2 x2 rs =>
  ⟨tG.ext x2, as, r, rs, hR, fun d e v H' x rv => q1 d e v H' (x2.trans x) rv, fun k e dx H' x g => q2 k e dx H' (x2.trans x) g⟩
/-- C(e) -/
theorem s_mkS {Q : XK} {i : Int} (h : Ed G K te σ H (.int i)) (q : ∀ dx H', Ext G H H' → H' dx = some (.xd [(fl, V.int i)]) → Q (.ref C) (some dx) H') : tMkS C fl (tCons te tNil) σ H Q :=
  h H (Ext.refl G H) _ fun v H2 x2 rv => ⟨v, rfl, fun dx hd => by
    rw [dp_int rv]
    exact q dx _ (x2.trans (Ext.new hd)) upd_same⟩
end
end Dl
set_option Elab.async false
set_option linter.all false
set_option maxRecDepth 100000
set_option maxHeartbeats 1000000
/-! what term_at reads or where it refuses -/
namespace Rh
open PySem PySem.Spec PyProof.Rows L2 GxR Gx Dl LiI TL
def pLoop (rec : Nat → Except Nat (PyData × Nat)) (l : List Nat) : Nat → Nat → List PyData → Except Nat (List PyData × Nat)
  | 0, k, _ => .error k
  | m + 1, k, ds => match rec k with
    | .error p => .error p
    | .ok (d, k1) =>
      if l[scanL isSp l k1]? = some 41 then .ok (ds ++ [d], scanL isSp l k1 + 1)
      else if l[scanL isSp l k1]? = some 44 then pLoop rec l m (scanL isSp l k1 + 1) (ds ++ [d])
      else .error (scanL isSp l k1)
def nmS (l : List Nat) (s e : Nat) : Str := ⟨((l.drop s).take (e - s)).toArray⟩
def leafD (nm : Str) : PyData := if isVarS nm then .str nm else .tuple [.str nm, .tuple []]
def pD : Nat → List Nat → Nat → Nat → Except Nat (PyData × Nat)
  | 0, _, k, _ => .error k
  | n + 1, l, k, deep =>
    if nmS l (scanL isSp l k) (scanL isSm l (scanL isSp l k)) = Str.ofString "" ∨ deep > 60 then .error (scanL isSp l k)
    else if l[scanL isSm l (scanL isSp l k)]? ≠ some 40 then .ok (leafD (nmS l (scanL isSp l k) (scanL isSm l (scanL isSp l k))), scanL isSm l (scanL isSp l k))
    else if isVarS (nmS l (scanL isSp l k) (scanL isSm l (scanL isSp l k))) then .error (scanL isSm l (scanL isSp l k))
    else match pLoop (fun k => pD n l k (deep + 1)) l (l.length + 1) (scanL isSm l (scanL isSp l k) + 1) [] with
      | .error p => .error p
      | .ok (ds, k1) => .ok (.tuple [.str (nmS l (scanL isSp l k) (scanL isSm l (scanL isSp l k))), .tuple ds], k1)
theorem scanL_ge {p : Nat → Bool} {l : List Nat} {k : Nat} : k ≤ scanL p l k := Nat.le_add_right _ _
theorem get_lt {l : List Nat} {k c : Nat} (h : l[k]? = some c) : k < l.length := (List.getElem?_eq_some_iff.mp h).1
theorem tl_nmS (l : List Nat) (s e : Nat) : tl (nmS l s e) = (l.drop s).take (e - s) := by simp [tl, nmS]
theorem pLoop_ok {rec : Nat → Except Nat (PyData × Nat)} {l : List Nat} (hr : ∀ k d k1, rec k = .ok (d, k1) → k ≤ l.length → k < k1 ∧ k1 ≤ l.length ∧ Pu d = true) : ∀ m k ds es k1, pLoop rec l m k ds = .ok (es, k1) → k ≤ l.length → (∀ d ∈ ds, Pu d = true) → k < k1 ∧ k1 ≤ l.length ∧ ∀ d ∈ es, Pu d = true
  | 0, k, ds, es, k1, h, _, _ => by cases h
  | m + 1, k, ds, es, k1, h, hk, hp => by
    rw [pLoop] at h
    cases e : rec k with
    | error p => rw [e] at h; cases h
    | ok q =>
      obtain ⟨d, k2⟩ := q
      rw [e] at h
      dsimp only at h
      obtain ⟨h1, h2, h3⟩ := hr k d k2 e hk
      have hs : k2 ≤ scanL isSp l k2 := scanL_ge
      have hp2 : ∀ d' ∈ ds ++ [d], Pu d' = true := fun d' hd => by
        rcases List.mem_append.mp hd with hd | hd
        · exact hp d' hd
        · rw [List.mem_singleton.mp hd]; exact h3
      split at h
      · rename_i hc
        have := get_lt hc
        cases h
        exact ⟨by omega, by omega, hp2⟩
      · split at h
        · rename_i hc
          have := get_lt hc
          have := pLoop_ok hr m _ _ _ _ h (by omega) hp2
          exact ⟨by omega, this.2⟩
        · cases h
theorem pD_ok : ∀ n l k deep d k1, pD n l k deep = .ok (d, k1) → k ≤ l.length → k < k1 ∧ k1 ≤ l.length ∧ Pu d = true
  | 0, l, k, deep, d, k1, h, _ => by cases h
  | n + 1, l, k, deep, d, k1, h, hk => by
    rw [pD] at h
    have a1 : k ≤ scanL isSp l k := scanL_ge
    have a2 : scanL isSp l k ≤ scanL isSm l (scanL isSp l k) := scanL_ge
    have a3 : scanL isSp l k ≤ l.length := scanL_le hk
    have a4 := scanL_le (p := isSm) a3
    split at h
    · cases h
    · rename_i hc
      have hne : nmS l (scanL isSp l k) (scanL isSm l (scanL isSp l k)) ≠ Str.ofString "" := fun z => hc (.inl z)
      have hlt : scanL isSp l k < scanL isSm l (scanL isSp l k) := by
        refine Nat.lt_of_le_of_ne a2 fun z => hne ?_
        rw [← z]
        unfold nmS
        rw [Nat.sub_self, List.take_zero]
        rfl
      split at h
      · cases h
        refine ⟨by omega, a4, ?_⟩
        unfold leafD
        split <;> rfl
      · rename_i hc2
        have hc3 : l[scanL isSm l (scanL isSp l k)]? = some 40 := Classical.not_not.mp hc2
        have := get_lt hc3
        split at h
        · cases h
        · cases e : pLoop (fun k => pD n l k (deep + 1)) l (l.length + 1) (scanL isSm l (scanL isSp l k) + 1) [] with
          | error p => rw [e] at h; cases h
          | ok q =>
            obtain ⟨ds, k2⟩ := q
            rw [e] at h
            cases h
            have z := pLoop_ok (fun k d k1 => pD_ok n l k (deep + 1) d k1) _ _ _ _ _ e (by omega) (fun _ hd => by cases hd)
            exact ⟨by omega, z.2.1, by simp [Pu, PuA, puA_all.mpr z.2.2]⟩
def R_ta (n : Nat) : List Ar → Except Nat PyData → Prop := fun as r => ∃ (z : Str) (k deep : Nat), as = [.d (.str z), .d (.int k), .d (.int deep)] ∧ z.length ≤ 100000 ∧ k ≤ z.length ∧ deep + n = 62 ∧ deep ≤ 61 ∧
  r = (pD n (tl z) k deep).map fun p => .tuple [p.1, .int (p.2 : Nat)]
section
variable {G : List Addr} {K : PySem.W.Frag} {σ : L2.St} {H : Hp} {tz tk : TE}
theorem edt_isAt {z s : Str} {k c : Nat} (tG : TabsG G H) (hl : z.length ≤ sizeLine) (hs : tl s = [c]) (hz : Ed G K tz σ H (.str z)) (hk : Ed G K tk σ H (.int k)) :
    EdT G (tAnd (tTest (tOp (rI0 fun i j => .bl (decide (i < j))) tk (tCB (fun xs H Q => ∃ z, xs = [.str z] ∧ z.length ≤ sizeLine ∧ Q (.int z.length) H) (tCons tz tNil)))) (tTest (tOp rEq (tOp rIxS tz tk) (tC (.str s))))) σ H (decide ((tl z)[k]? = some c)) := by
  by_cases hj : k < (tl z).length
  · have hc : (tl z)[k]? = some (tl z)[k] := List.getElem?_eq_getElem hj
    refine edt_is (edt_and (b := true) (c := decide ((tl z)[k] = c)) (edt_is (edt_test (ed_op tG hk (ed_cb (ed_one hz) (rdc_lenS hl)) rd_ltI)) (decide_eq_true (by rw [len_tl]; omega))) fun _ => edt_is (edt_test (ed_op tG (ed_op tG hz hk (rd_ixS (c := (tl z)[k]) hl (by omega) (by rw [Int.toNat_natCast]; exact hc))) ed_str rd_eqS)) (one_eq hs)) ?_
    rw [hc, Bool.true_and]
    exact decide_eq_decide.mpr ⟨fun e => by rw [e], fun e => Option.some.inj e⟩
  · refine edt_is (edt_and (b := false) (c := false) (edt_is (edt_test (ed_op tG hk (ed_cb (ed_one hz) (rdc_lenS hl)) rd_ltI)) (decide_eq_false (by rw [len_tl]; omega))) fun e => by cases e) ?_
    rw [List.getElem?_eq_none (by omega)]
    rfl
theorem edt_isNot {z s : Str} {k c : Nat} (tG : TabsG G H) (hl : z.length ≤ sizeLine) (hs : tl s = [c]) (hz : Ed G K tz σ H (.str z)) (hk : Ed G K tk σ H (.int k)) :
    EdT G (tOr (tTest (tOp (rI0 fun i j => .bl (decide (j ≤ i))) tk (tCB (fun xs H Q => ∃ z, xs = [.str z] ∧ z.length ≤ sizeLine ∧ Q (.int z.length) H) (tCons tz tNil)))) (tTest (tOp rNe (tOp rIxS tz tk) (tC (.str s))))) σ H (!decide ((tl z)[k]? = some c)) := by
  by_cases hj : k < (tl z).length
  · have hc : (tl z)[k]? = some (tl z)[k] := List.getElem?_eq_getElem hj
    refine edt_is (edt_or (b := false) (c := !decide ((tl z)[k] = c)) (edt_is (edt_test (ed_op tG hk (ed_cb (ed_one hz) (rdc_lenS hl)) rd_geI)) (decide_eq_false (by rw [len_tl]; omega))) fun _ => edt_is (edt_test (ed_op tG (ed_op tG hz hk (rd_ixS (c := (tl z)[k]) hl (by omega) (by rw [Int.toNat_natCast]; exact hc))) ed_str rd_neS)) (by rw [one_eq hs])) ?_
    rw [hc, Bool.false_or]
    congr 1
    exact decide_eq_decide.mpr ⟨fun e => by rw [e], fun e => Option.some.inj e⟩
  · refine edt_is (edt_or (b := true) (c := true) (edt_is (edt_test (ed_op tG hk (ed_cb (ed_one hz) (rdc_lenS hl)) rd_geI)) (decide_eq_true (by rw [len_tl]; omega))) fun e => by cases e) ?_
    rw [List.getElem?_eq_none (by omega)]
    rfl
end
end Rh
set_option Elab.async false
set_option linter.all false
set_option maxRecDepth 100000
set_option maxHeartbeats 1000000
namespace Rh
open PySem PySem.Spec PyProof.Rows L2 GxR Gx Dl LiI TL
section
variable {P : Program} {w : World} {K : PySem.W.Frag} {mg : Str → Option Value} {base : Heap} {G : List Addr} {f : Addr} {fd : FuncData} {tks : Tok} {CB : Addr}
abbrev NX : Program → World → CXT := fun P w => L2N.CX P w
theorem rm1 {k : Nat} {A : Around} (h : Room k A) : A.depth + 1 < recursionLimit := by have := h.dp; omega
/-- between two parts -/
def TWs (G : List Addr) (K : PySem.W.Frag) (n : Nat) (z : Str) (e ks : Nat) (nm : Str) (L : Addr) (res : Except Nat (List PyData × Nat)) (H : Hp) (m : Nat) (σ' : L2.St) (H' : Hp) : Prop := ∃ (k : Nat) (ds : List PyData) (vs : List V) (pt : Option V),
  σ' = [some (.str z), some (.int k), some (.int e), some (.int ks), some (.str nm), some (.ref L), pt] ∧ Ext G H H' ∧ H' L = some (.lst vs) ∧ DpAll K H' vs ds ∧ (∀ d ∈ ds, Pu d = true) ∧ ds.length ≤ k ∧ k ≤ (tl z).length ∧ (tl z).length + 1 ≤ m + k ∧ pLoop (fun k => pD n (tl z) k (e + 1)) (tl z) m k ds = res
theorem cl_ta_step {n : Nat} (D : DefF K mg base G "term_at" s_term_at ["text", "k", "deep"] f fd) (iv : IV P w K mg base G) (sk : Cl0 P w K mg base 1 "skip" (spA G K R_skip)) (m1 : mg "len" = none) (m2 : mg "tuple" = none) (hSM : mg "SMALL" = some (.str SMs tks)) (S : Sup.SupK P K mg CB "place") (mB : mg "BadText" = some (.ref CB))
    (ih : ClC NX P w K mg base (n + 3) "term_at" (spR2 G K CB "place" (R_ta n))) : ClC NX P w K mg base (n + 4) "term_at" (spR2 G K CB "place" (R_ta (n + 1))) := by
    refine D.clC (k := n + 3) sc_term_at (fun ds d r => by obtain ⟨_, _, _, rfl, _⟩ := r; rfl) fun c Pt A outer s H vs ds r Q E TB hP hr tG hv hR q1 q2 => ?_
    refine ⟨_, pss_cons (ps_set (i := 1) sc_term_at.nd rfl (Or.inl rfl) (pe_cl sk (hr.mono (by omega)) rfl (pa_cons (pv 0) (pa_cons (pv 1) pa_nil))))
      (pss_cons (ps_set (i := 3) sc_term_at.nd rfl (Or.inl rfl) (pv 1))
      (pss_cons (ps_while (passes_of rfl) (PW.pt (pw_and (pt_cmpR op_lt (pv 1) (pe_callB call_len_str (by rfl) m1 PySem.boot_len (pa_cons (pv 0) pa_nil)) (nomark _)) (pw_and1 (pt_cmpR op_in_sign (pe_ix ix_str (pv 0) (pv 1) (fun _ _ => rfl)) (pe_glob (v := .str SMs) rfl hSM ⟨tks, rfl⟩) rfl)))) (pss_one (ps_aug sc_term_at.nd rfl (.inl rfl) pe_int ip_add (i := 1))))
      (pss_cons (ps_set (i := 4) sc_term_at.nd rfl (Or.inl rfl) (pe_slice sl_str (pv 0) (po_some (pv 3)) (po_some (pv 1))))
      (pss_cons (ps_if (PW.pt (pw_or (pt_cmpR op_eq (pv 4) pe_str (nomark _)) (pw_or1 (pt_cmpR op_gt (pv 2) pe_int (nomark _))))) (pss_one (L2N.ps_raise rfl (L2N.takes_of rfl rfl rfl rfl) (pmk_sup S (rm1 hr) rfl mB (pa_cons (pv 3) pa_nil)))) pss_nil)
      (pss_cons (ps_if (PW.pt (pw_or (pt_cmpR op_ge (pv 1) (pe_callB call_len_str (by rfl) m1 PySem.boot_len (pa_cons (pv 0) pa_nil)) (nomark _)) (pw_or1 (pt_cmpR op_ne (pe_ix ix_str (pv 0) (pv 1) (fun _ _ => rfl)) pe_str (nomark _)))))
          (pss_one (ps_ret (pe_tup (pa_cons (pe_ifExp (pt_val (pe_cl iv (hr.mono (by omega)) rfl (pa_cons (pv 4) pa_nil))) (pv 4) (pe_tup (pa_cons (pv 4) (pa_cons (pe_tup pa_nil) pa_nil)))) (pa_cons (pv 1) pa_nil))))) pss_nil)
      (pss_cons (ps_if (pt_val (pe_cl iv (hr.mono (by omega)) rfl (pa_cons (pv 4) pa_nil))) (pss_one (L2N.ps_raise rfl (L2N.takes_of rfl rfl rfl rfl) (pmk_sup S (rm1 hr) rfl mB (pa_cons (pv 1) pa_nil)))) pss_nil)
      (pss_cons (ps_par (i := 5) (j := 1) (by rfl) sc_term_at.nd rfl rfl (by decide) rfl rfl (pa_cons (pe_lst pa_nil) (pa_cons (pe_op op_add (pv 1) pe_int) pa_nil)) (by rfl))
      (pss_one (ps_while (passes_of rfl) (pt_val pe_bl)
        (pss_cons (ps_asg (pe_clC ih (hr.mono (by omega)) rfl (L2N.passes_call (L2N.takes_of rfl rfl rfl rfl) fun _ _ _ _ h => h) (pa_cons (pv 0) (pa_cons (pv 1) (pa_cons (pe_op op_add (pv 2) pe_int) pa_nil)))) (pg_tup rfl (pgs_cons (pg_name (i := 6) sc_term_at.nd rfl (Or.inl rfl)) (pgs_cons (pg_name (i := 1) sc_term_at.nd rfl (Or.inl rfl)) pgs_nil))))
        (pss_cons (ps_expr (pe_bm PySem.F.plainAttrs_list PySem.F.slot_list_append PySem.F.type_list_append mt_append (pv 5) (pa_cons (pv 6) pa_nil)))
        (pss_cons (ps_set (i := 1) sc_term_at.nd rfl (Or.inl rfl) (pe_cl sk (hr.mono (by omega)) rfl (pa_cons (pv 0) (pa_cons (pv 1) pa_nil))))
        (pss_cons (ps_if (PW.pt (pw_and (pt_cmpR op_lt (pv 1) (pe_callB call_len_str (by rfl) m1 PySem.boot_len (pa_cons (pv 0) pa_nil)) (nomark _)) (pw_and1 (pt_cmpR op_eq (pe_ix ix_str (pv 0) (pv 1) (fun _ _ => rfl)) pe_str (nomark _)))))
            (pss_one (ps_ret (pe_tup (pa_cons (pe_tup (pa_cons (pv 4) (pa_cons (pe_callTy call_tuple_of (by rfl) m2 (by decide +kernel) (pa_cons (pv 5) pa_nil)) pa_nil))) (pa_cons (pe_op op_add (pv 1) pe_int) pa_nil))))) pss_nil)
        (pss_cons (ps_if (PW.pt (pw_or (pt_cmpR op_ge (pv 1) (pe_callB call_len_str (by rfl) m1 PySem.boot_len (pa_cons (pv 0) pa_nil)) (nomark _)) (pw_or1 (pt_cmpR op_ne (pe_ix ix_str (pv 0) (pv 1) (fun _ _ => rfl)) pe_str (nomark _))))) (pss_one (L2N.ps_raise rfl (L2N.takes_of rfl rfl rfl rfl) (pmk_sup S (rm1 hr) rfl mB (pa_cons (pv 1) pa_nil)))) pss_nil)
        (pss_one (ps_aug sc_term_at.nd rfl (.inl rfl) pe_int ip_add (i := 1))))))))))))))))), ?_⟩
    obtain ⟨z, k, e, rfl, hz, hk, hen, he61, rfl⟩ := hR
    obtain ⟨v, u, y0, rfl, rv, ru, ry⟩ := arA_three hv
    rw [dp_str (show Dp K H v (.str z) from rv), dp_int (show Dp K H u (.int _) from ru), dp_int (show Dp K H y0 (.int _) from ry)]
    have hz2 : z.length ≤ sizeLine := Nat.le_trans hz (by decide)
    have hk' : k ≤ (tl z).length := by rw [← len_tl]; exact hk
    have hzl : (tl z).length ≤ 100000 := by rw [← len_tl]; exact hz
    have rf := Ext.refl G H
    have v0 : ∀ {H' a b c d e f}, TabsG G H' → Ed G K (tVar 0) [some (.str z), a, b, c, d, e, f] H' (.str z) := fun t => ed_var t rfl (.str z)
    rw [pD] at q1 q2
    refine s_set (K := K) (ea_call tG (ea_cons tG (edx_of (v0 tG)) (ea_one (edx_of (ed_var tG rfl (.int _))))) (show R_skip _ (.int (scanL isSp (tl z) k)) from ⟨z, k, rfl, hz, hk, rfl⟩)) fun w1 H1 y1 rw1 => ?_
    rw [dp_int rw1]
    have l1 := scanL_le (p := isSp) hk'
    generalize scanL isSp (tl z) k = ks at q1 q2 l1 ⊢
    have t1 := tG.ext y1
    refine s_set (K := K) (d := .int (ks : Nat)) (ed_var t1 rfl (.int _)) fun w2 H2 y2 rw2 => ?_
    rw [dp_int rw2]
    have x2 := y1.trans y2
    have t2 := tG.ext x2
    have l2 := scanL_le (p := isSm) l1
    have g2 : ks ≤ scanL isSm (tl z) ks := scanL_ge
    refine s_seq ?_
    refine s_whileG (α := Nat) t2 (fun j σ' H' => σ' = [some (.str z), some (.int j), some (.int e), some (.int (ks : Nat)), none, none, none] ∧ j ≤ (tl z).length ∧ scanL isSm (tl z) j = scanL isSm (tl z) ks) (fun j => (tl z).length - j) (fun j => match (tl z)[j]? with | some c => isSm c | none => false) ks ⟨rfl, l1, rfl⟩ ?_ ?_ ?_ ?_
    · rintro j σ' H' ⟨rfl, h2, _⟩ t3
      by_cases hj : j < (tl z).length
      · have hc : (tl z)[j]? = some (tl z)[j] := List.getElem?_eq_getElem hj
        refine edt_is (edt_and (b := true) (c := isSm (tl z)[j]) (edt_is (edt_test (K := K) (ed_op t3 (ed_var t3 rfl (.int j)) (ed_cb (ed_one (v0 t3)) (rdc_lenS hz2)) rd_ltI)) (decide_eq_true (by rw [len_tl]; omega))) fun _ => edt_test (K := K) (ed_op t3 (ed_op t3 (v0 t3) (ed_var t3 rfl (.int j)) (rd_ixS (c := (tl z)[j]) hz2 (by omega) (by rw [Int.toNat_natCast]; exact hc))) ed_str rd_inSign)) ?_
        rw [Bool.true_and, hc]
      · refine edt_is (edt_and (b := false) (c := true) (edt_is (edt_test (K := K) (ed_op t3 (ed_var t3 rfl (.int j)) (ed_cb (ed_one (v0 t3)) (rdc_lenS hz2)) rd_ltI)) (decide_eq_false (by rw [len_tl]; omega))) fun z => by cases z) ?_
        rw [List.getElem?_eq_none (by omega)]
        rfl
    · rintro j σ' H' N ⟨rfl, h2, h3⟩ y hb t3 hN
      cases hc : (tl z)[j]? with
      | none => rw [hc] at hb; cases hb
      | some c =>
        rw [hc] at hb
        have hj := (List.getElem?_eq_some_iff.mp hc).1
        refine ⟨.int j, rfl, ?_⟩
        refine ⟨j, 1, rfl, rfl, ?_⟩
        refine hN (j + 1) _ H' (Ext.refl G H') ⟨?_, by omega, by rw [scanL_step hc hb]; exact h3⟩ (by omega)
        show ([some (.str z), some (.int ((j : Int) + 1)), some (.int e), some (.int (ks : Nat)), none, none, none] : L2.St) = _
        rw [show (j : Int) + 1 = ((j + 1 : Nat) : Int) by omega]
    · exact fun a σ' H1 H2 y t1 h => h
    rintro j σ' H3 y3 ⟨rfl, h2, h3⟩ hb
    have hj : j = scanL isSm (tl z) ks := by
      rw [← h3]
      refine (scanL_stop fun c hc => ?_).symm
      rw [hc] at hb
      exact hb
    subst hj
    generalize scanL isSm (tl z) ks = je at q1 q2 l2 g2 ⊢
    have x3 := x2.trans y3
    have t3 := tG.ext x3
    have ecut : cutS z (some (ks : Int)) (some (je : Int)) = nmS (tl z) ks je := by
      refine ext_tl ?_
      rw [tl_cut z _ _ g2 l2, tl_nmS]
    refine s_set (K := K) (ed_slS hz2 (v0 t3) (fun H' x Q q => ⟨_, rfl, _, rfl, q⟩) (fun H' x Q q => ⟨_, rfl, _, rfl, q⟩)) fun w4 H4 y4 rw4 => ?_
    rw [ecut] at rw4
    rw [dp_str rw4]
    have hnm : (nmS (tl z) ks je).length ≤ 100000 := by
      rw [len_tl, tl_nmS]
      have := List.length_take_le (je - ks) ((tl z).drop ks)
      omega
    generalize nmS (tl z) ks je = nm at q1 q2 hnm ⊢
    have x4 := x3.trans y4
    have t4 := tG.ext x4
    have vn : ∀ {H' a b c d e f}, TabsG G H' → Ed G K (tVar 4) [a, b, c, d, some (.str nm), e, f] H' (.str nm) := fun t => ed_var t rfl (.str nm)
    have ve : ∀ {H' a b c d f g}, TabsG G H' → Ed G K (tVar 2) [a, b, some (.int e), c, d, f, g] H' (.int e) := fun t => ed_var t rfl (.int e)
    dsimp only
    refine s_ifR (G := G) (b := decide (nm = Str.ofString "") || decide (60 < (e : Int))) ?_ (fun hb H5 y5 => ?_) fun hb H5 y5 => ?_
    · exact edt_or (edt_test (K := K) (ed_op t4 (vn t4) ed_str rd_eqS)) fun _ => edt_test (K := K) (ed_op t4 (ve t4) ed_int rd_gtI)
    · have hc : nm = Str.ofString "" ∨ e > 60 := by
        rw [Bool.or_eq_true, decide_eq_true_eq, decide_eq_true_eq] at hb
        exact hb.imp id fun h => by omega
      rw [if_pos hc] at q2
      have x5 := x4.trans y5
      exact s_mkS (K := K) (ed_var (tG.ext x5) rfl (.int (ks : Nat))) fun dx H' x g => q2 ks rfl dx H' (x5.trans x) g
    have hc : ¬ (nm = Str.ofString "" ∨ e > 60) := by
      rw [Bool.or_eq_false_iff, decide_eq_false_iff_not, decide_eq_false_iff_not] at hb
      exact fun h => h.elim hb.1 fun h => hb.2 (by omega)
    rw [if_neg hc] at q1 q2
    have x5 := x4.trans y5
    have t5 := tG.ext x5
    refine s_ifR (edt_isNot (c := 40) t5 hz2 (by decide +kernel) (v0 t5) (ed_var t5 rfl (.int je))) (fun hb2 H6 y6 => ?_) fun hb2 H6 y6 => ?_
    · have hc2 : (tl z)[je]? ≠ some 40 := by simpa using hb2
      rw [if_pos hc2] at q1
      have x6 := x5.trans y6
      have t6 := tG.ext x6
      refine s_ret (K := K) (ed_tup t6 (ed_cons t6 (d := leafD nm) (ed_if (edt_val (ed_ivS t6 hnm (vn t6))) (fun h => ed_is (vn t6) (by unfold leafD; rw [if_pos h])) fun h => ed_is (ed_tup t6 (ed_cons t6 (vn t6) (ed_one (ed_tup t6 ed_nil (by show 0 ≤ sizeLine; decide)))) (by show 2 ≤ sizeLine; decide)) (by unfold leafD; rw [if_neg (by rw [h]; decide)])) (ed_one (ed_var t6 rfl (.int _)))) (by show 2 ≤ sizeLine; decide)) fun w7 H7 y7 rw7 => q1 _ rfl w7 H7 (x6.trans y7) rw7
    have hc2 : (tl z)[je]? = some 40 := by simpa using hb2
    rw [if_neg (fun h => h hc2)] at q1 q2
    have x6 := x5.trans y6
    have t6 := tG.ext x6
    refine s_ifR (edt_val (ed_ivS t6 hnm (vn t6))) (fun hv H7 y7 => ?_) fun hv H7 y7 => ?_
    · rw [if_pos hv] at q2
      have x7 := x6.trans y7
      exact s_mkS (K := K) (ed_var (tG.ext x7) rfl (.int (je : Nat))) fun dx H' x g => q2 je rfl dx H' (x7.trans x) g
    rw [if_neg (by rw [hv]; decide)] at q1 q2
    have hjl := get_lt hc2
    generalize hres : pLoop (fun k => pD n (tl z) k (e + 1)) (tl z) ((tl z).length + 1) (je + 1) [] = res at q1 q2
    have x7 := x6.trans y7
    have t7 := tG.ext x7
    refine s_seq ?_
    refine ⟨by show 0 ≤ sizeLine; decide, fun L hL7 => ?_⟩
    have hL : H L = none := x7.fresh tG hL7
    have x8 : Ext G H (upd H7 L (.lst [])) := x7.trans (Ext.new hL7)
    refine ⟨_, rfl, (je : Int), 1, rfl, rfl, ?_⟩
    refine ⟨.ref L, _, rfl, ?_⟩
    refine ⟨TWs G K n z e ks nm L res H, ⟨(tl z).length + 1, je + 1, [], [], none, ?_, x8, upd_same, .nil, fun _ hd => (List.not_mem_nil hd).elim, Nat.zero_le _, by omega, by omega, hres⟩, ?_⟩
    · show ([some (.str z), some (.int ((je : Int) + 1)), some (.int e), some (.int (ks : Nat)), some (.str nm), some (.ref L), none] : L2.St) = _
      rw [show (je : Int) + 1 = ((je + 1 : Nat) : Int) by omega]
    rintro m σ' H' ⟨k', ds, vs, pt, rfl, xx, eL, rvs, hpu, hdl, hk2, hm, hpl⟩
    have tH := tG.ext xx
    refine ⟨true, rfl, ?_⟩
    dsimp only
    rw [if_pos rfl]
    refine ⟨fun σ2 H2 => ∃ m', m' < m ∧ TWs G K n z e ks nm L res H m' σ2 H2, fun _ _ h => h, ?_⟩
    cases m with
    | zero => omega
    | succ m =>
    rw [pLoop] at hpl
    have ee : (e : Int) + 1 = ((e + 1 : Nat) : Int) := by omega
    refine s_seq (r2_call (K := K) (r := (pD n (tl z) k' (e + 1)).map fun p => .tuple [p.1, .int (p.2 : Nat)]) tH (ea_cons tH (edx_of (v0 tH)) (ea_cons tH (edx_of (ed_var tH rfl (.int (k' : Nat)))) (ea_one (edx_of (ed_is (ed_op tH (ed_var tH rfl (.int e)) ed_int rd_add) (congrArg PyData.int ee)))))) ⟨z, k', e + 1, rfl, hz, by rw [len_tl]; exact hk2, by omega, by omega, rfl⟩ (fun dd hdd w8 H8 y8 rw8 => ?_) fun p hp dx H' x g => ?_)
    · cases hD : pD n (tl z) k' (e + 1) with
      | error p => rw [hD] at hdd; cases hdd
      | ok pr =>
        obtain ⟨d, k1⟩ := pr
        rw [hD] at hdd hpl
        cases hdd
        dsimp only at hpl
        obtain ⟨p1, p2, p3⟩ := pD_ok n (tl z) k' (e + 1) d k1 hD hk2
        obtain ⟨a8, us, rfl, hs8, hr8⟩ := dp_tup rw8
        obtain ⟨u1, u2, rfl, ru1, ru2⟩ := dpA_two hr8
        rw [dp_int ru2] at hs8
        refine ⟨a8, [u1, _], rfl, hs8, rfl, u1, [_], rfl, _, [], rfl, rfl, ?_⟩
        have t8 := tH.ext y8
        have eL8 := y8.at tH eL (fun ps z => by cases z)
        have len := dpA_len rvs
        refine s_seq ⟨.ref L, rfl, .inl ⟨rfl, _, SqL.of eL8⟩, u1, rfl, L, vs, u1, rfl, rfl, eL8, by rw [len]; exact Nat.lt_of_lt_of_le (show ds.length < 100001 by omega) (by decide), ?_⟩
        have x9 : Ext G H (upd H8 L (.lst (vs ++ [u1]))) := (xx.trans y8).mut hL eL8 (fun ps z => by cases z)
        have t9 := tG.ext x9
        have eL9 : (upd H8 L (.lst (vs ++ [u1]))) L = some (.lst (vs ++ [u1])) := upd_same
        have hpu9 : ∀ d' ∈ ds ++ [d], Pu d' = true := fun d' hd => by
          rcases List.mem_append.mp hd with hd | hd
          · exact hpu d' hd
          · rw [List.mem_singleton.mp hd]; exact p3
        have rv9 : DpAll K (upd H8 L (.lst (vs ++ [u1]))) (vs ++ [u1]) (ds ++ [d]) :=
          dpA_tups (fun a xs q => sqT_upd eL8 q) (puA_all.mpr hpu9) (dpA_app (dpA_ext y8 tH rvs) (.cons ru1 .nil))
        generalize upd H8 L (.lst (vs ++ [u1])) = H9 at *
        refine s_set (K := K) (ea_call t9 (ea_cons t9 (edx_of (v0 t9)) (ea_one (edx_of (ed_var t9 rfl (.int (k1 : Nat)))))) (show R_skip _ (.int (scanL isSp (tl z) k1)) from ⟨z, k1, rfl, hz, by rw [len_tl]; exact p2, rfl⟩)) fun w10 H10 y10 rw10 => ?_
        rw [dp_int rw10]
        have g10 : k1 ≤ scanL isSp (tl z) k1 := scanL_ge
        have l10 := scanL_le (p := isSp) p2
        generalize scanL isSp (tl z) k1 = k2 at hpl g10 l10 ⊢
        have x10 := x9.trans y10
        have t10 := tG.ext x10
        have eL10 := y10.at t9 eL9 (fun ps z => by cases z)
        have rv10 := dpA_ext y10 t9 rv9
        refine s_ifR (edt_isAt (c := 41) t10 hz2 (by decide +kernel) (v0 t10) (ed_var t10 rfl (.int (k2 : Nat)))) (fun hb H11 y11 => ?_) fun hb H11 y11 => ?_
        · have hc41 : (tl z)[k2]? = some 41 := by simpa using hb
          rw [if_pos hc41] at hpl
          subst hpl
          have x11 := x10.trans y11
          have t11 := tG.ext x11
          have rL : Dp K H11 (.ref L) (.list (ds ++ [d])) := .lst (.inl (.inl (y11.at t10 eL10 (fun ps z => by cases z)))) (dpA_ext y11 t10 rv10)
          refine s_ret (K := K) (ed_tup t11 (ed_cons t11 (ed_tup t11 (ed_cons t11 (vn t11) (ed_one (ed_cb (ed_one (ed_var t11 rfl rL)) (rdc_tuple t11)))) (by show 2 ≤ sizeLine; decide)) (ed_one (ed_op t11 (ed_var t11 rfl (.int (k2 : Nat))) ed_int rd_add))) (by show 2 ≤ sizeLine; decide)) fun w12 H12 y12 rw12 => q1 _ (by
            show Except.ok _ = _
            rw [show (k2 : Int) + 1 = ((k2 + 1 : Nat) : Int) by omega]) w12 H12 (x11.trans y12) rw12
        have hc41 : ¬ (tl z)[k2]? = some 41 := by simpa using hb
        rw [if_neg hc41] at hpl
        have x11 := x10.trans y11
        have t11 := tG.ext x11
        refine s_ifR (edt_isNot (c := 44) t11 hz2 (by decide +kernel) (v0 t11) (ed_var t11 rfl (.int (k2 : Nat)))) (fun hb H12 y12 => ?_) fun hb H12 y12 => ?_
        · have hc44 : ¬ (tl z)[k2]? = some 44 := by simpa using hb
          rw [if_neg hc44] at hpl
          subst hpl
          have x12 := x11.trans y12
          exact s_mkS (K := K) (ed_var (tG.ext x12) rfl (.int (k2 : Nat))) fun dx H' x g => q2 k2 rfl dx H' (x12.trans x) g
        have hc44 : (tl z)[k2]? = some 44 := by simpa using hb
        rw [if_pos hc44] at hpl
        have hlt := get_lt hc44
        have x12 := x11.trans y12
        have y1012 := y11.trans y12
        refine ⟨.int (k2 : Nat), rfl, ?_⟩
        refine ⟨(k2 : Nat), 1, rfl, rfl, ?_⟩
        refine ⟨m, Nat.lt_succ_self m, k2 + 1, ds ++ [d], vs ++ [u1], some u1, ?_, x12, y1012.at t10 eL10 (fun ps z => by cases z), dpA_ext y1012 t10 rv10, hpu9, by rw [List.length_append]; show ds.length + 1 ≤ _; omega, by omega, by omega, hpl⟩
        show ([some (.str z), some (.int ((k2 : Int) + 1)), some (.int e), some (.int (ks : Nat)), some (.str nm), some (.ref L), some u1] : L2.St) = _
        rw [show (k2 : Int) + 1 = ((k2 + 1 : Nat) : Int) by omega]
    · cases hD : pD n (tl z) k' (e + 1) with
      | ok pr => rw [hD] at hp; cases hp
      | error p' =>
        rw [hD] at hp hpl
        cases hp
        dsimp only at hpl
        subst hpl
        exact q2 p rfl dx H' (xx.trans x) g
theorem cl_ta (D : DefF K mg base G "term_at" s_term_at ["text", "k", "deep"] f fd) (iv : IV P w K mg base G) (sk : Cl0 P w K mg base 1 "skip" (spA G K R_skip)) (m1 : mg "len" = none) (m2 : mg "tuple" = none) (hSM : mg "SMALL" = some (.str SMs tks)) (S : Sup.SupK P K mg CB "place") (mB : mg "BadText" = some (.ref CB)) : ∀ n, ClC NX P w K mg base (n + 3) "term_at" (spR2 G K CB "place" (R_ta n))
  | 0 => by
    obtain ⟨f', fd', ps', F, m, kp, b⟩ := (D.clC (CX := NX) (P := P) (w := w) (k := 2) (C := CB) (fl := "place") (R := fun _ _ => False) sc_term_at (fun _ _ h => h.elim) fun _ _ _ _ _ _ _ _ _ _ _ _ _ _ _ _ h => h.elim).ex
    exact ⟨f', fd', ps', F.imp fun vs H Q E ⟨tG, as, r, h1, h2, _⟩ => by
      obtain ⟨z, k, deep, _, _, _, h, h', _⟩ := h2
      omega, m, kp, b⟩
  | n + 1 => cl_ta_step D iv sk m1 m2 hSM S mB (cl_ta D iv sk m1 m2 hSM S mB n)
end
end Rh
set_option Elab.async false
set_option linter.all false
set_option maxRecDepth 100000
set_option maxHeartbeats 1000000
namespace Rh
open PySem PySem.Spec PyProof.Rows L2 GxR Gx Dl LiI TL
def readL (l : List Nat) : Except Nat PyData := if l.length > 2000 then .error 0 else match pD 62 l 0 0 with
  | .error p => .error p
  | .ok (d, k) => if scanL isSp l k < l.length then .error (scanL isSp l k) else .ok d
def pairL (l m : List Nat) : Except Nat PyData := match pD 62 l 0 0 with
  | .error p => .error p
  | .ok (d, k) => if (l.drop (scanL isSp l k)).take m.length ≠ m then .error (scanL isSp l k) else match pD 62 l (scanL isSp l k + m.length) 0 with
    | .error p => .error p
    | .ok (e, k2) => if scanL isSp l k2 < l.length then .error (scanL isSp l k2) else .ok (.tuple [d, e])
def R_rd : List Ar → Except Nat PyData → Prop := fun as r => (as = [.d .none] ∧ r = .error 0) ∨ ∃ z : Str, as = [.d (.str z)] ∧ z.length ≤ 100000 ∧ r = readL (tl z)
def R_pair : List Ar → Except Nat PyData → Prop := fun as r => ∃ z m : Str, as = [.d (.str z), .d (.str m)] ∧ z.length ≤ 100000 ∧ m.length ≤ 100 ∧ r = pairL (tl z) (tl m)
theorem tl_cut2 (z : Str) (a b : Nat) (h : a ≤ b) (h2 : a ≤ (tl z).length) : tl (cutS z (some (a : Int)) (some (b : Int))) = ((tl z).drop a).take (b - a) := by
  have l := len_tl z
  by_cases hb : b ≤ z.length
  · exact tl_cut z a b h (by omega)
  · unfold cutS
    have e1 : min a z.length = a := Nat.min_eq_left (by omega)
    have e2 : min b z.length = z.length := Nat.min_eq_right (by omega)
    rw [HT.sIx_nat, HT.sIx_nat, e1, e2]
    show (((tl z).drop a).take (z.length - a)).toArray.toList = _
    have e3 : ((tl z).drop a).take (z.length - a) = (tl z).drop a := List.take_of_length_le (by rw [List.length_drop]; omega)
    have e4 : ((tl z).drop a).take (b - a) = (tl z).drop a := List.take_of_length_le (by rw [List.length_drop]; omega)
    rw [e3, e4]
section
variable {P : Program} {w : World} {K : PySem.W.Frag} {mg : Str → Option Value} {base : Heap} {G : List Addr} {f : Addr} {fd : FuncData} {tks : Tok} {CB : Addr}
theorem cl_rd (D : DefF K mg base G "read" s_read ["text"] f fd) (ta : ClC NX P w K mg base 65 "term_at" (spR2 G K CB "place" (R_ta 62))) (sk : Cl0 P w K mg base 1 "skip" (spA G K R_skip)) (m1 : mg "len" = none) (m2 : mg "isinstance" = none) (m3 : mg "str" = none) (S : Sup.SupK P K mg CB "place") (mB : mg "BadText" = some (.ref CB)) :
    ClC NX P w K mg base 66 "read" (spR2 G K CB "place" R_rd) := by
  refine D.clC (k := 65) sc_read (fun ds d r => by rcases r with ⟨rfl, _⟩ | ⟨_, rfl, _⟩ <;> rfl) fun c Pt A outer s H vs ds r Q E TB hP hr tG hv hR q1 q2 => ?_
  refine ⟨_, pss_cons (ps_if (PW.pt (pw_or (pt_not (pt_val (pe_callB call_isi (by rfl) m2 (by decide +kernel) (pa_cons (pv 0) (pa_cons (pe_bltn (v := .ty "str") (by rfl) m3 (by decide +kernel) rfl) pa_nil)))))
      (pw_or1 (pt_cmpR op_gt (pe_callB call_len_str (by rfl) m1 PySem.boot_len (pa_cons (pv 0) pa_nil)) pe_int (nomark _))))) (pss_one (L2N.ps_raise rfl (L2N.takes_of rfl rfl rfl rfl) (pmk_sup S (rm1 hr) rfl mB (pa_cons pe_int pa_nil)))) pss_nil)
    (pss_cons (ps_asg (pe_clC ta hr rfl (L2N.passes_call (L2N.takes_of rfl rfl rfl rfl) fun _ _ _ _ h => h) (pa_cons (pv 0) (pa_cons pe_int (pa_cons pe_int pa_nil)))) (pg_tup rfl (pgs_cons (pg_name (i := 1) sc_read.nd rfl (Or.inl rfl)) (pgs_cons (pg_name (i := 2) sc_read.nd rfl (Or.inl rfl)) pgs_nil))))
    (pss_cons (ps_set (i := 2) sc_read.nd rfl (Or.inl rfl) (pe_cl sk (hr.mono (by omega)) rfl (pa_cons (pv 0) (pa_cons (pv 2) pa_nil))))
    (pss_cons (ps_if (pt_cmpR op_lt (pv 2) (pe_callB call_len_str (by rfl) m1 PySem.boot_len (pa_cons (pv 0) pa_nil)) (nomark _)) (pss_one (L2N.ps_raise rfl (L2N.takes_of rfl rfl rfl rfl) (pmk_sup S (rm1 hr) rfl mB (pa_cons (pv 2) pa_nil)))) pss_nil)
    (pss_one (ps_ret (pv 1)))))), ?_⟩
  have rf := Ext.refl G H
  rcases hR with ⟨rfl, rfl⟩ | ⟨z, rfl, hz, rfl⟩
  · obtain ⟨v, rfl, rv⟩ := arA_one hv
    rw [dp_non (show Dp K H v .none from rv)]
    refine s_ifR (b := true) (edt_or (b := true) (c := true) (edt_not (b := false) (edt_val (ed_isi (ed_var (i := 0) tG rfl .non) (kit_ty (show kitB "NoneType" "str" = some false by decide +kernel))))) fun h => by cases h) (fun _ H1 y1 => ?_) (fun h => by cases h)
    exact s_mkS (K := K) (ed_int (i := 0)) fun dx H' x g => q2 0 rfl dx H' (y1.trans x) g
  obtain ⟨v, rfl, rv⟩ := arA_one hv
  rw [dp_str (show Dp K H v (.str z) from rv)]
  have hz2 : z.length ≤ sizeLine := Nat.le_trans hz (by decide)
  have v0 : ∀ {H' a b}, TabsG G H' → Ed G K (tVar 0) [some (.str z), a, b] H' (.str z) := fun t => ed_var t rfl (.str _)
  have lz := len_tl z
  unfold readL at q1 q2
  refine s_ifR (b := decide (2000 < (z.length : Int))) (edt_is (edt_or (b := false) (c := decide (2000 < (z.length : Int))) (edt_not (b := true) (edt_val (ed_isi (v0 tG) (kit_ty (show kitB "str" "str" = some true by decide +kernel))))) fun _ => edt_test (K := K) (ed_op tG (ed_cb (ed_one (v0 tG)) (rdc_lenS hz2)) ed_int rd_gtI)) (Bool.false_or _)) (fun hb H1 y1 => ?_) fun hb H1 y1 => ?_
  · have : (tl z).length > 2000 := by have := of_decide_eq_true hb; omega
    rw [if_pos this] at q2
    exact s_mkS (K := K) (ed_int (i := 0)) fun dx H' x g => q2 0 rfl dx H' (y1.trans x) g
  have : ¬ (tl z).length > 2000 := by have := of_decide_eq_false hb; omega
  rw [if_neg this] at q1 q2
  have t1 := tG.ext y1
  refine s_seq (r2_call (K := K) (r := (pD 62 (tl z) 0 0).map fun p => .tuple [p.1, .int (p.2 : Nat)]) t1 (ea_cons t1 (edx_of (v0 t1)) (ea_cons t1 (edx_of ed_int) (ea_one (edx_of ed_int)))) ⟨z, 0, 0, rfl, hz, Nat.zero_le _, rfl, by decide, rfl⟩ (fun dd hdd w2 H2 y2 rw2 => ?_) fun p hp dx H' x g => ?_)
  · cases hD : pD 62 (tl z) 0 0 with
    | error p => rw [hD] at hdd; cases hdd
    | ok pr =>
      obtain ⟨d, k1⟩ := pr
      rw [hD] at hdd q1 q2
      cases hdd
      dsimp only at q1 q2
      obtain ⟨p1, p2, p3⟩ := pD_ok 62 (tl z) 0 0 d k1 hD (Nat.zero_le _)
      obtain ⟨a8, us, rfl, hs8, hr8⟩ := dp_tup rw2
      obtain ⟨u1, u2, rfl, ru1, ru2⟩ := dpA_two hr8
      rw [dp_int ru2] at hs8
      refine ⟨a8, [u1, _], rfl, hs8, rfl, u1, [_], rfl, _, [], rfl, rfl, ?_⟩
      have x2 := y1.trans y2
      have t2 := tG.ext x2
      refine s_set (K := K) (ea_call t2 (ea_cons t2 (edx_of (v0 t2)) (ea_one (edx_of (ed_var t2 rfl (.int (k1 : Nat)))))) (show R_skip _ (.int (scanL isSp (tl z) k1)) from ⟨z, k1, rfl, hz, by rw [lz]; exact p2, rfl⟩)) fun w3 H3 y3 rw3 => ?_
      rw [dp_int rw3]
      have x3 := x2.trans y3
      have t3 := tG.ext x3
      generalize scanL isSp (tl z) k1 = k2 at q1 q2 ⊢
      dsimp only
      refine s_ifR (G := G) (b := decide ((k2 : Int) < (z.length : Int))) ?_ (fun hb H4 y4 => ?_) fun hb H4 y4 => ?_
      · exact edt_test (K := K) (ed_op t3 (ed_var t3 rfl (.int (k2 : Nat))) (ed_cb (ed_one (v0 t3)) (rdc_lenS hz2)) rd_ltI)
      · have : k2 < (tl z).length := by have := of_decide_eq_true hb; omega
        rw [if_pos this] at q2
        have x4 := x3.trans y4
        exact s_mkS (K := K) (ed_var (tG.ext x4) rfl (.int (k2 : Nat))) fun dx H' x g => q2 k2 rfl dx H' (x4.trans x) g
      have : ¬ k2 < (tl z).length := by have := of_decide_eq_false hb; omega
      rw [if_neg this] at q1
      have x4 := x3.trans y4
      exact s_ret (K := K) (ed_var (tG.ext x4) rfl (dp_ext (y3.trans y4) t2 ru1)) fun w5 H5 y5 r5 => q1 d rfl w5 H5 (x4.trans y5) r5
  · cases hD : pD 62 (tl z) 0 0 with
    | ok pr => rw [hD] at hp; cases hp
    | error p' =>
      rw [hD] at hp q2
      cases hp
      exact q2 p rfl dx H' (y1.trans x) g
end
end Rh
set_option Elab.async false
set_option linter.all false
set_option maxRecDepth 100000
set_option maxHeartbeats 1000000
/-! k34: unified, check_term, check_rules, look_paper -/
namespace Rh
open PySem PySem.Spec PyProof.Rows L2 GxR Gx Dl LiI LamX
theorem arA_four {K : PySem.W.Frag} {H : Hp} {vs : List V} {a b c d : Ar} (h : ArA K H vs [a, b, c, d]) : ∃ v0 v1 v2 v3, vs = [v0, v1, v2, v3] ∧ ArR K H v3 d := by
  cases h with
  | cons _ h => cases h with
    | cons _ h => cases h with
      | cons _ h => cases h with
        | cons r h => cases h; exact ⟨_, _, _, _, rfl, r⟩
abbrev MkE (K : PySem.W.Frag) (mg : Str → Option Value) (x : Str) (C : Addr) : Prop := ∀ {X : Cx} {m : Str} {j : Nat} {p p2 pos : Pos}, X.K = K → X.mg = mg → Gl X x → PMk X (.Call (.Name x p) [.Constant (.str m) j p2] [] pos) (fun _ H Q => Q (.ref C) none H)
theorem pt_no {X : Cx} {e : Expr} : PT X e (fun _ _ _ => False) := ⟨fun _ _ _ _ _ _ h => h.elim⟩
theorem sc_check_rules : FnScope ["rules", "rule"] ["rules"] (defScope s_check_rules) := ⟨rfl, rfl, rfl, by decide +kernel, rfl, by decide +kernel, by decide +kernel⟩
theorem sc_look_paper : FnScope ["equations", "one", "other", "paper", "k"] ["equations", "one", "other", "paper"] (defScope s_look_paper) := ⟨rfl, rfl, rfl, by decide +kernel, rfl, by decide +kernel, by decide +kernel⟩
def R_chk (n : Nat) : List Ar → PyData → Prop := fun as d => ∃ e, as = [.d e] ∧ okDn n e = true ∧ isTn n e = true ∧ d = .none
def R_rul : List Ar → Prop := fun as => ∃ x : Str, as = [.d (.list [.tuple [enc (.v x), enc (.c (Str.ofString "a"))]])] ∧ (T.v x).ok
def R_look : List Ar → Except Nat PyData → Prop := fun as r => ∃ a b c : PyData, as = [.d a, .d b, .d c, .d (.tuple [])] ∧ r = .error 0
section
variable {P : Program} {w : World} {K : PySem.W.Frag} {mg : Str → Option Value} {base : Heap} {G : List Addr} {f : Addr} {fd : FuncData} {CN CB CP : Addr}
theorem clx_unified (D : DefF K mg base G "unified" s_unified ["one", "other"] f fd) (so : Cl0 P w K mg base 30 "solve" (spA G K R_solve)) (mk : MkE K mg "NoWay" CN) : ClX P w K mg base 31 "unified" (spE G K R_uni CN) := by
  refine D.clX (k := 30) sc_unified (fun ds r => by obtain ⟨_, _, rfl, _⟩ := r; rfl) fun c Pt A outer s H vs ds Q E TB hP hr tG hv r q => ?_
  refine ⟨_, pss_cons (ps_set (i := 2) sc_unified.nd rfl (Or.inl rfl) (pe_cl so hr rfl (pa_cons (pe_lst (pa_cons (pe_tup (pa_cons (pv 0) (pa_cons (pv 1) pa_nil))) pa_nil)) pa_nil)))
    (pss_cons (ps_if (pt_cmp (pc_isN (pv 2))) (pss_one (ps_raise rfl (takes_of rfl rfl rfl rfl) (mk rfl rfl rfl))) pss_nil) pss_never), ?_⟩
  obtain ⟨x, z, rfl, o⟩ := r
  obtain ⟨v, u, rfl, rv, ru⟩ := arA_two hv
  refine s_set (K := K) (ea_call tG (ea_one (edx_of (ed_lst tG (ed_one (ed_tup tG (ed_cons tG (ed_var (i := 0) tG rfl (show Dp K H v (enc (.v x)) from rv)) (ed_one (ed_var (i := 1) tG rfl (show Dp K H u (enc (.u z (.v x))) from ru)))) (by show 2 ≤ sizeLine; decide))) (by show 1 ≤ sizeLine; decide)))) (show R_solve _ .none from ⟨x, z, rfl, o, rfl⟩)) fun v1 H1 y1 r1 => ?_
  have t1 := tG.ext y1
  dsimp only
  refine s_ifR (G := G) (b := true) (edt_val (K := K) (ed_is (ed_isN (a := .d .none) (edx_of (ed_var (i := 2) (σ := [some v, some u, some v1]) t1 rfl r1))) rfl)) (fun _ H2 y2 => ?_) (fun h => by cases h)
  exact q H2 (y1.trans y2)
theorem cl_check {n : Nat} (D : DefF K mg base G "check_term" s_check_term ["thing"] f fd) (it : Cl0 P w K mg base (2 * n + 2) "is_term" (spA G K (R_isT n))) : Cl0 P w K mg base (2 * n + 3) "check_term" (spA G K (R_chk n)) := by
  refine D.cl (k := 2 * n + 2) sc_check_term (fun ds d r => by obtain ⟨_, rfl, _⟩ := r; rfl) fun c Pt A outer s H vs ds d Q E TB hP hr tG hv r q => ?_
  refine ⟨_, pss_one (ps_if (pt_not (pt_val (pe_cl it hr rfl (pa_cons (pv 0) pa_nil)))) pss_never pss_nil), ?_⟩
  obtain ⟨e, rfl, h1, h2, rfl⟩ := r
  obtain ⟨v, rfl, rv⟩ := arA_one hv
  refine s_if (G := G) (b := false) (edt_is (edt_not (edt_val (ea_call tG (ea_one (edx_of (ed_var (i := 0) (σ := [some v]) tG rfl (show Dp K H v e from rv)))) (show R_isT n _ (.bool (isTn n e)) from ⟨e, rfl, h1, rfl⟩)))) (by rw [h2]; rfl)) (fun h => by cases h) (fun _ H2 y => ?_)
  exact q .non H2 y .non
theorem clc_look (D : DefF K mg base G "look_paper" s_look_paper ["equations", "one", "other", "paper"] f fd) (m1 : mg "len" = none) (S : Sup.SupK P K mg CP "part") (mP : mg "BadPaper" = some (.ref CP)) : ClC NX P w K mg base 3 "look_paper" (spR2 G K CP "part" R_look) := by
  refine D.clC (k := 2) sc_look_paper (fun ds d r => by obtain ⟨_, _, _, rfl, _⟩ := r; rfl) fun c Pt A outer s H vs ds r Q E TB hP hr tG hv hR q1 q2 => ?_
  refine ⟨_, pss_cons (ps_if (PW.pt (pw_or (pt_cmpR op_eq (pe_callB call_len_seq (by rfl) m1 PySem.boot_len (pa_cons (pv 3) pa_nil)) pe_int (nomark _)) (pw_or1 pt_no))) (pss_one (L2N.ps_raise rfl (L2N.takes_of rfl rfl rfl rfl) (pmk_sup S (rm1 hr) rfl mP (pa_cons pe_int pa_nil)))) pss_nil) pss_never, ?_⟩
  obtain ⟨a, b, c, rfl, rfl⟩ := hR
  obtain ⟨v0, v1, v2, v3, rfl, r3⟩ := arA_four hv
  refine s_ifR (G := G) (b := true) (edt_is (edt_or (b := true) (c := true) (edt_is (edt_test (K := K) (ed_op tG (ed_cb (ed_one (ed_var (i := 3) tG rfl (show Dp K H v3 (.tuple []) from r3))) rdc_len) ed_int rd_eqI)) rfl) (fun h => by cases h)) rfl) (fun _ H2 y2 => ?_) (fun h => by cases h)
  exact s_mkS (K := K) ed_int fun dx H3 y3 g => q2 0 rfl dx H3 (y2.trans y3) g
end
end Rh
set_option Elab.async false
set_option linter.all false
set_option maxRecDepth 100000
set_option maxHeartbeats 1000000
/-! k34: check_rules -/
namespace Rh
open PySem PySem.Spec PyProof.Rows L2 GxR Gx Dl LiI LamX
theorem s_exprE {G : List Addr} {K : PySem.W.Frag} {σ : L2.St} {H : Hp} {te : TE} {d : PyData} {En : Ends} (h : Ed G K te σ H d) (q : ∀ H', Ext G H H' → En.nx σ H') : tDrop te En σ H := h H (Ext.refl G H) _ fun _ H2 x _ => q H2 x
section
variable {P : Program} {w : World} {K : PySem.W.Frag} {mg : Str → Option Value} {base : Heap} {G : List Addr} {f : Addr} {fd : FuncData} {CB : Addr}
theorem clx_rules (D : DefF K mg base G "check_rules" s_check_rules ["rules"] f fd) (iv : IV P w K mg base G) (chk : Cl0 P w K mg base 27 "check_term" (spA G K (R_chk 12))) (m1 : mg "isinstance" = none) (m2 : mg "tuple" = none) (m3 : mg "len" = none) (mk : MkE K mg "BadRule" CB) : ClX P w K mg base 29 "check_rules" (spE G K R_rul CB) := by
  refine D.clX (k := 28) sc_check_rules (fun ds r => by obtain ⟨_, rfl, _⟩ := r; rfl) fun c Pt A outer s H vs ds Q E TB hP hr tG hv r q => ?_
  refine ⟨_, pss_cons (ps_for (passes_of rfl) rfl (pi_list (pv 0)) (pg_name (i := 1) sc_check_rules.nd rfl (Or.inr rfl))
      (pss_cons (ps_if (PT.nox (PW.pt (pw_or (pt_not (pt_val (pe_callB call_isi (by rfl) m1 (by decide +kernel) (pa_cons (pv 1) (pa_cons (pe_bltn (v := .ty "tuple") (by rfl) m2 (by decide +kernel) rfl) pa_nil))))) (pw_or1 (pt_cmpR op_ne (pe_callB call_len_seq (by rfl) m3 PySem.boot_len (pa_cons (pv 1) pa_nil)) pe_int (nomark _)))))) pss_never pss_nil)
      (pss_cons (ps_expr (pe_cl chk (hr.mono (by omega)) rfl (pa_cons (pe_ix ix_tup (pv 1) pe_int (fun _ _ => rfl)) pa_nil)))
      (pss_cons (ps_expr (pe_cl chk (hr.mono (by omega)) rfl (pa_cons (pe_ix ix_tup (pv 1) pe_int (fun _ _ => rfl)) pa_nil)))
      (pss_one (ps_if (PT.nox (PW.pt (pw_or (pt_val (pe_cl iv (hr.mono (by omega)) rfl (pa_cons (pe_ix ix_tup (pv 1) pe_int (fun _ _ => rfl)) pa_nil))) (pw_or1 pt_no)))) (pss_one (ps_raise rfl (takes_of rfl rfl rfl rfl) (mk rfl rfl rfl))) pss_nil)))))) pss_nil, ?_⟩
  obtain ⟨x, rfl, o⟩ := r
  obtain ⟨v, rfl, rv⟩ := arA_one hv
  have oa : (T.c (Str.ofString "a")).ok := by show PyData.strOk _ = true; decide +kernel
  refine s_seq (s_forL (K := K) (ds := [.tuple [enc (.v x), enc (.c (Str.ofString "a"))]]) tG (ed_var (i := 0) tG rfl (show Dp K H v _ from rv)) (fun i σ' => i = 0 ∧ σ' = [some v, none]) ⟨rfl, rfl⟩ (fun i d y σ' H' N hd hp x1 ry t1 hN => ?_) fun σ' H' _ hp => ?_)
  · match i, hd with
    | 0, hd =>
      cases hd
      obtain ⟨_, rfl⟩ := hp
      · have v1 : ∀ {H2}, Ext G H' H2 → Ed G K (tVar 1) [some v, some y] H2 (.tuple [enc (.v x), enc (.c (Str.ofString "a"))]) := fun z => ed_var (t1.ext z) rfl (dp_ext z t1 ry)
        have rf := Ext.refl G H'
        have a0 : ∀ {H2}, Ext G H' H2 → Ed G K (tOp (rIxT K) (tVar 1) (tC (.int 0))) [some v, some y] H2 (enc (.v x)) := fun z => ed_op (t1.ext z) (v1 z) ed_int (rd_ixT (by decide) rfl)
        have a1 : ∀ {H2}, Ext G H' H2 → Ed G K (tOp (rIxT K) (tVar 1) (tC (.int 1))) [some v, some y] H2 (enc (.c (Str.ofString "a"))) := fun z => ed_op (t1.ext z) (v1 z) ed_int (rd_ixT (by decide) rfl)
        show tSeq (tIfS _ _ _) _ _ [some v, some y] H'
        refine s_ifR (G := G) (b := false) (edt_is (edt_or (b := false) (c := false) (edt_is (edt_not (edt_val (ed_isi (v1 rf) (kit_tupD _)))) rfl) (fun _ => edt_is (edt_test (K := K) (ed_op t1 (ed_cb (ed_one (v1 rf)) rdc_len) ed_int rd_neI)) rfl)) rfl) (fun h => by cases h) fun _ H2 y2 => ?_
        have t2 := t1.ext y2
        refine s_seq (s_exprE (ea_call t2 (ea_one (edx_of (a0 y2))) (show R_chk 12 _ .none from ⟨_, rfl, decide_eq_true o.2.1, o.1, rfl⟩)) fun H3 y3 => ?_)
        have y23 := y2.trans y3
        refine s_seq (s_exprE (ea_call (t1.ext y23) (ea_one (edx_of (a1 y23))) (show R_chk 12 _ .none from ⟨_, rfl, by decide +kernel, by decide +kernel, rfl⟩)) fun H4 y4 => ?_)
        have y24 := y23.trans y4
        dsimp only
        refine s_if (G := G) (b := true) (edt_is (edt_or (b := true) (c := true) (edt_is (edt_val (ed_iv (t1.ext y24) o (a0 y24))) rfl) (fun h => by cases h)) rfl) (fun _ H5 y5 => ?_) (fun h => by cases h)
        exact q H5 (x1.trans (y24.trans y5))
    | i + 1, hd => simp at hd
  · cases hp.1
end
end Rh
set_option Elab.async false
set_option linter.all false
set_option maxRecDepth 100000
set_option maxHeartbeats 1000000
/-! k34: stepped at the root of a constant -/
namespace Rh
open PySem PySem.Spec PyProof.Rows L2 GxR Gx Dl LiI LamX
theorem sc_stepped : FnScope ["term", "rules", "place", "part", "k", "left", "right", "table"] ["term", "rules", "place"] (defScope s_stepped) := ⟨rfl, rfl, rfl, by decide +kernel, rfl, by decide +kernel, by decide +kernel⟩
def cA : T := .c (Str.ofString "a")
theorem cA_ok : cA.ok := by show PyData.strOk _ = true; decide +kernel
def ruleA : PyData := .tuple [enc cA, enc cA]
def R_step : List Ar → PyData → Prop := fun as d => as = [.d (enc cA), .d (.list [ruleA]), .d (encP [])] ∧ d = .tuple [.int 0, enc cA]
/-- the first turn of a walk over enumerate(xs), where it ends the def -/
theorem for_first {K : PySem.W.Frag} {a : Addr} {x : V} {xs : List V} {g : TG} {tb : TS} {D : Ends} {σ : L2.St} {H : Hp} (hs : SqL K H a (x :: xs)) (q : ∀ T, H T = none → ∀ (z : V), (∀ ys, SqL K H a ys → ys[0]? = some z) → g (.ref T) σ (upd H T (.tup [.int 0, z])) fun σ2 H2 => tb { D with nx := fun _ _ => False, ct := fun _ _ => False, bk := D.nx } σ2 H2) :
    ∃ W : Nat → Nat → L2.St → Hp → Prop, (∃ m, W 0 m σ H) ∧ ∀ i m σ H, W i m σ H →
      ((Ite K a).stop i H ∧ D.nx σ H) ∨ ((Ite K a).go i H ∧ ∃ N : L2.St → Hp → Prop, (∀ σ' H', N σ' H' → ∃ m', m' < m ∧ W (i + 1) m' σ' H') ∧ ∀ x H', (Ite K a).yld i H x H' → g x σ H' fun σ2 H2 => tb { D with nx := N, ct := N, bk := D.nx } σ2 H2) := by
  refine ⟨fun i m σ' H' => i = 0 ∧ σ' = σ ∧ H' = H, ⟨0, rfl, rfl, rfl⟩, ?_⟩
  rintro i m σ' H' ⟨rfl, rfl, rfl⟩
  refine .inr ⟨⟨x :: xs, x, hs, rfl⟩, fun _ _ => False, fun _ _ h => h.elim, ?_⟩
  rintro v H2 ⟨T, z, rfl, hT, rfl, hz⟩
  exact q T hT z hz
section
variable {P : Program} {w : World} {K : PySem.W.Frag} {mg : Str → Option Value} {base : Heap} {G : List Addr} {f : Addr} {fd : FuncData}
theorem cl_stepped (D : DefF K mg base G "stepped" s_stepped ["term", "rules", "place"] f fd) (iv : IV P w K mg base G) (at_ : Cl0 P w K mg base 3 "at" (spA G K R_at)) (ma : Cl0 P w K mg base 28 "matched" (spB G K (R_matched 12))) (pu : Cl0 P w K mg base 26 "put" (spA G K (R_put 12))) (la : Cl0 P w K mg base 33 "laid" (spA G K (R_laid 30))) (m : mg "enumerate" = none) : Cl0 P w K mg base 34 "stepped" (spA G K R_step) := by
  refine D.cl (k := 33) sc_stepped (fun ds d r => by obtain ⟨rfl, _⟩ := r; rfl) fun c Pt A outer s H vs ds d Q E TB hP hr tG hv r q => ?_
  refine ⟨_, pss_cons (ps_set (i := 3) sc_stepped.nd rfl (Or.inl rfl) (pe_cl at_ (hr.mono (by omega)) rfl (pa_cons (pv 0) (pa_cons (pv 2) pa_nil))))
    (pss_cons (ps_if (pt_val (pe_cl iv (hr.mono (by omega)) rfl (pa_cons (pv 3) pa_nil))) pss_never pss_nil)
    (pss_cons (ps_for PassesOwn.never rfl (pi_enum (by rfl) m (pa_cons (pv 1) pa_nil)) (pg_tup rfl (pgs_cons (pg_name (i := 4) sc_stepped.nd rfl (Or.inl rfl)) (pgs_cons (pg_tup rfl (pgs_cons (pg_name (i := 5) sc_stepped.nd rfl (Or.inl rfl)) (pgs_cons (pg_name (i := 6) sc_stepped.nd rfl (Or.inl rfl)) pgs_nil))) pgs_nil)))
      (pss_cons (ps_set (i := 7) sc_stepped.nd rfl (Or.inl rfl) (pe_cl ma (hr.mono (by omega)) rfl (pa_cons (pv 5) (pa_cons (pv 3) (pa_cons pe_dnewK pa_nil)))))
      (pss_one (ps_if (pt_cmp (pc_notN (pv 7))) (pss_one (ps_ret (pe_tup (pa_cons (pv 4) (pa_cons (pe_cl la hr rfl (pa_cons (pv 0) (pa_cons (pv 2) (pa_cons (pe_cl pu (hr.mono (by omega)) rfl (pa_cons (pv 6) (pa_cons (pv 7) pa_nil))) pa_nil)))) pa_nil))))) pss_nil))))
    pss_never)), ?_⟩
  obtain ⟨rfl, rfl⟩ := r
  obtain ⟨v0, v1, v2, rfl, r0, r1, r2⟩ := arA_three hv
  have r0 : Dp K H v0 (enc cA) := r0
  have r1 : Dp K H v1 (.list [ruleA]) := r1
  have r2 : Dp K H v2 (encP []) := r2
  refine s_set (K := K) (ea_call tG (ea_cons tG (edx_of (ed_var (i := 0) (σ := [some v0, some v1, some v2, none, none, none, none, none]) tG rfl r0)) (ea_one (edx_of (ed_var (i := 2) tG rfl r2)))) (show R_at _ (enc cA) from ⟨cA, cA, [], rfl, cA_ok, rfl, rfl⟩)) fun v3 H1 y1 q3 => ?_
  have t1 := tG.ext y1
  dsimp only
  refine s_ifR (G := G) (b := false) (edt_is (edt_val (ed_iv t1 cA_ok (ed_var (i := 3) (σ := [some v0, some v1, some v2, some v3, none, none, none, none]) t1 rfl q3))) rfl) (fun h => by cases h) fun _ H2 y2 => ?_
  have y12 := y1.trans y2
  have t2 := tG.ext y12
  obtain ⟨a, xs, rfl, hs, hx⟩ := dp_lst (dp_ext y12 tG r1)
  obtain ⟨x, rfl, rx⟩ := dpA_one hx
  refine s_seq ⟨.ref a, rfl, a, [x], rfl, hs, for_first hs fun T hT z hz => ?_⟩
  have ez : x = z := Option.some.inj (hz _ hs)
  subst ez
  have y3 : Ext G H2 (upd H2 T (.tup [.int 0, x])) := Ext.new hT
  have t3 := t2.ext y3
  have rx3 := dp_ext y3 t2 rx
  obtain ⟨b, zs, rfl, hb, hz2⟩ := dp_tup rx3
  obtain ⟨l, r, rfl, rl, rr⟩ := dpA_two hz2
  refine ⟨T, [.int 0, .ref b], rfl, .inl (.inl upd_same), rfl, .int 0, [.ref b], rfl, .ref b, [], rfl, ?_⟩
  refine g_two hb ?_
  have y13 := y12.trans y3
  have q33 := dp_ext (y2.trans y3) t1 q3
  generalize upd H2 T (.tup [.int 0, .ref b]) = H3 at y3 t3 rl rr y13 q33 ⊢
  refine ⟨rfl, ?_⟩
  refine sx_set (G := G) (K := K) (eb_call t3 (ea_cons t3 (edx_of (ed_var (i := 5) (σ := [some v0, some (.ref a), some v2, some v3, some (.int 0), some l, some r, none]) t3 rfl rl)) (ea_cons t3 (edx_of (ed_var (i := 3) t3 rfl q33)) (ea_one edx_dnew))) (show R_matched 12 _ (.k []) from ⟨cA, cA, [], rfl, cA_ok, cA_ok, by decide, by decide, ⟨List.nodup_nil, fun q hq => (by cases hq)⟩, by decide, rfl⟩)) fun v7 H4 y4 r7 => ?_
  have t4 := t3.ext y4
  have y14 := y13.trans y4
  dsimp only
  refine s_if (G := G) (b := true) (edt_val (K := K) (ed_is (ed_notN (a := .k []) (edx_var (i := 7) (σ := [some v0, some (.ref a), some v2, some v3, some (.int 0), some l, some r, some v7]) t4 rfl r7)) rfl)) (fun _ H5 y5 => ?_) (fun h => by cases h)
  have y15 := y14.trans y5
  have t5 := t4.ext y5
  have e0 : Ed G K (tVar 0) [some v0, some (.ref a), some v2, some v3, some (.int 0), some l, some r, some v7] H5 (enc cA) := ed_var t5 rfl (dp_ext y15 tG r0)
  have e2 : Ed G K (tVar 2) [some v0, some (.ref a), some v2, some v3, some (.int 0), some l, some r, some v7] H5 (encP []) := ed_var t5 rfl (dp_ext y15 tG r2)
  have e6 : Ed G K (tVar 6) [some v0, some (.ref a), some v2, some v3, some (.int 0), some l, some r, some v7] H5 (enc cA) := ed_var t5 rfl (dp_ext (y4.trans y5) t3 rr)
  refine s_ret (K := K) (ed_tup t5 (ed_cons t5 (ed_var (i := 4) t5 rfl (.int 0)) (ed_one (ea_call t5 (ea_cons t5 (edx_of e0) (ea_cons t5 (edx_of e2) (ea_one (edx_of (ea_call t5 (ea_cons t5 (edx_of e6) (ea_one (edx_var (i := 7) t5 rfl (ar_ext y5 t4 r7)))) (show R_put 12 _ (enc cA) from ⟨cA, [], rfl, cA_ok, by decide, rfl⟩)))))) (show R_laid 30 _ (enc cA) from ⟨cA, cA, cA, [], rfl, cA_ok, rfl, by decide, by decide, rfl⟩)))) (by show 2 ≤ sizeLine; decide)) fun w H6 y6 r6 => q w H6 (y15.trans y6) r6
end
end Rh
set_option Elab.async false
set_option linter.all false
set_option maxRecDepth 100000
set_option maxHeartbeats 1000000
/-! k34: inner_first at a constant -/
namespace Gx
open PySem PySem.Spec PyProof.Rows L2 GxR LamX
section
variable {X : Cx}
/-- a lambda that captures nothing, as a value -/
def tLamP (X : Cx) (P : Addr) (params : Arguments) (body : Expr) (scope : Scope) : TE := fun σ H Q => TabS H P (X.env.qual ++ "<lambda>") ∧ ∀ f c' H1, LamMade P (X.env.qual ++ "<lambda>") H H1 → H1 f = none → H1 c' = some (CodeO c' (X.env.qual ++ "<lambda>")) →
  Q (.ref f) (upd H1 f (LamO f (X.env.qual ++ "<lambda>") params body scope [] c'))
theorem pe_lamP {c P : Addr} {params : Arguments} {body : Expr} {scope : Scope} {pos : Pos} (TB : LamX.TabB X.base X.mg c P) (hcode : X.env.code = .ref c) (none_ : ∀ y ∈ scope.names, y.2 ≠ .free) (hdef : defaultsOf params X.env = ([], [])) (hclo : cloFrom X.env.cells scope.names [] = []) :
    PE X (.Lambda params body scope pos) (tLamP X P params body scope) := by
  refine ⟨fun pins s σ H Q I ⟨hT, h⟩ => ?_⟩
  refine lamKept I TB hcode hT hdef (fun y hy e => absurd e (none_ y hy)) fun f c' H1 s' I1 made n k => ?_
  rw [hclo] at I1
  exact ⟨.ref f, _, I1, rfl, h f c' H1 made n k⟩
end
end Gx
namespace Rh
open PySem PySem.Spec PyProof.Rows L2 GxR Gx Dl LiI LamX
theorem lamExt {G : List Addr} {P : Addr} {q : Str} {H H1 : Hp} (m : LamMade P q H H1) : Ext (P :: G) H H1 := ⟨fun a n o e => m.keep a o (fun z => n (by rw [z]; exact List.mem_cons_self)) e, fun Q hQ t => by
  by_cases h : Q = P
  · obtain ⟨ps, e, tr, _⟩ := m.tab
    rw [h]
    exact ⟨ps, e, tr⟩
  · obtain ⟨ps, e, tr⟩ := t
    exact ⟨ps, m.keep Q _ h e, tr⟩⟩
theorem tabsP {G : List Addr} {Pl : Addr} {q : Str} {H : Hp} (tG : TabsG G H) (tS : LamX.TabS H Pl q) : TabsG (Pl :: G) H := fun Q hQ => by
  rcases List.mem_cons.mp hQ with z | z
  · obtain ⟨ps, e, tr, _⟩ := tS
    rw [z]
    exact ⟨ps, e, tr⟩
  · exact tG Q z
theorem tabS_ext {G : List Addr} {Pl : Addr} {q : Str} {H H' : Hp} (x : Ext G H H') (tG : TabsG G H) (pl : Pl ∉ G) (tS : LamX.TabS H Pl q) : LamX.TabS H' Pl q := by
  obtain ⟨ps, e, tr, k⟩ := tS
  refine ⟨ps, x.keep Pl pl _ e, tr, fun p cv h => ?_⟩
  obtain ⟨c, ec, kc⟩ := k p cv h
  exact ⟨c, ec, x.keep c (notTab tG kc LamX.codeO_ne) _ kc⟩
theorem sc_inner : FnScope ["term", "rules", "place", "hit"] ["term", "rules"] (defScope s_inner_first) := ⟨rfl, rfl, rfl, by decide +kernel, rfl, by decide +kernel, by decide +kernel⟩
def kwE : Expr := match defBody s_inner_first with
  | .For _ (.Call _ _ (k :: _) _) _ _ _ :: _ => k.value
  | _ => .Constant .none 0 ⟨0, 0, 0, 0⟩
def lamA : Arguments := match kwE with
  | .Lambda a _ _ _ => a
  | _ => defArgs s_inner_first
def lamB : Expr := match kwE with
  | .Lambda _ b _ _ => b
  | _ => kwE
def lamSc : Scope := match kwE with
  | .Lambda _ _ s _ => s
  | _ => defScope s_inner_first
theorem sc_lam : FnScope ["place", "k"] ["place"] lamSc := ⟨rfl, rfl, rfl, by decide +kernel, rfl, by decide +kernel, by decide +kernel⟩
abbrev qI : Str := (("inner_first" : Str) ++ ".<locals>.") ++ "<lambda>"
/-- inner_first at a constant -/
def spI (G : List Addr) (K : PySem.W.Frag) (Pi : Addr) : Sp := fun vs H Q _ => TabsG G H ∧ TabS H Pi qI ∧ ArA K H vs [.d (enc cA), .d (.list [ruleA])] ∧ ∀ v H', Ext (Pi :: G) H H' → TabS H' Pi qI → Dp K H' v (.tuple [encP [], .int 0, enc cA]) → Q v H'
section
variable {P : Program} {w : World} {K : PySem.W.Frag} {mg : Str → Option Value} {base : Heap} {G : List Addr} {f : Addr} {fd : FuncData} {Pi : Addr}
abbrev rTupOf (K : PySem.W.Frag) : List V → Hp → VK → Prop := fun xs H Q => ∃ p ys, xs = [V.ref p] ∧ ((SqL K H p ys ∧ ∀ l, H l = none → Q (.ref l) (upd H l (.tup ys))) ∨ (SqT K H p ys ∧ Q (.ref p) H))
def tKey (K : PySem.W.Frag) : TE := tOp (rCatA K) (tCB (rTupOf K) (tCons (tLc (iTup K (tVar 0)) (gName 1) tYes (tVar 1) [1]) tNil)) (tTup (tCons (tC (.int 99)) tNil))
theorem key_pe (m2 : mg "tuple" = none) (A : Around) (outer : List Env) (s : Shared) (H : Hp) (f c' : Addr) : PE (cxOf C8.CX0 P w K mg base ["place", "k"] qI lamSc f (.ref c') A outer s H C8.E0) lamB (tKey K) :=
  pe_op op_catA (pe_callTy call_tuple_of (by rfl) m2 (by decide +kernel) (pa_cons (pe_lc (own := [("k", 1)]) (g := gName 1) (tt := tYes) rfl sc_lam.nd (pi_tup (pv 0)) (blkOk_by (N := ["place", "k"]) (sc := lamSc) (by decide +kernel)) (fun _ _ _ _ _ => pg_name (i := 1) sc_lam.nd rfl (Or.inl rfl)) (fun _ _ _ _ _ => pts_nil) (fun _ _ _ _ _ => pv 1)) pa_nil)) (pe_tup (pa_cons pe_int pa_nil))
theorem key_run {H : Hp} {x : V} {Q : VK} (tG : TabsG G H) (rx : Dp K H x (encP [])) (q : ∀ v H', Ext G H H' → Dp K H' v (.tuple [.int 99]) → Q v H') : tKey K (L2.start ["place", "k"] [x]) H Q := by
  have e : Ed G K (tKey K) [some x, none] H (.tuple [.int 99]) := ed_op tG (ed_cb (ed_one (edl_lcTF (ds := []) (g := fun d => d) (p := fun _ => true) tG (by show 0 ≤ sizeLine; decide) (ed_var (i := 0) tG rfl rx) (by decide) (fun _ _ => by contradiction) (fun _ _ _ h => by contradiction) (fun _ _ _ h => by contradiction)).ed) (rdc_tuple tG)) (ed_tup tG (ed_one ed_int) (by show 1 ≤ sizeLine; decide)) (rd_catA tG (by show 0 + 1 ≤ sizeLine; decide))
  exact e H (Ext.refl G H) Q fun v H' x r => q v H' x r
theorem cl_inner {c : Addr} (F : FunC K "inner_first" "inner_first" s_inner_first f fd c) (TB : LamX.TabB base mg c Pi) (mI : mg "inner_first" = some (.ref f)) (bI : Binds K fd ["term", "rules"] []) (hPi : Pi ∉ G) (st : Cl0 P w K mg base 34 "stepped" (spA G K R_step)) (sp : Cl0 P w K mg base 27 "sign_places" (spA G K (R_sp 12))) (m1 : mg "sorted" = none) (m2 : mg "tuple" = none) : Cl0 P w K mg base 42 "inner_first" (spI G K Pi) := by
  refine ⟨f, fd, ["term", "rules"], ?_, mI, F.kp, bI⟩
  obtain ⟨oc, od, kV, doc, pm, an, ct, osl, rfl, lk, hcd⟩ := F.ex
  refine fn_of (k := 41) lk hcd sc_inner (fun vs H Q E ⟨_, _, h, _⟩ => arA_len h) fun A outer s H vs Q E hr hsp => ?_
  obtain ⟨tG, tS, hv, q⟩ := hsp
  refine ⟨_, PSs.nox (pss_cons (ps_for PassesOwn.never rfl (pi_list (pe_callBK (cr_sort1 (N := ["place", "k"]) (k := 20) (p := "place") (params := lamA) (body := lamB) (scope := lamSc) (te := tKey K) sc_lam (hr.mono (by omega)) (fun _ _ _ _ => rfl) (fun A outer s H f c' _ => key_pe m2 A outer s H f c'))
        (by rfl) m1 (by decide +kernel) (pa_cons (pe_cl sp (hr.mono (by omega)) rfl (pa_cons (pv 0) pa_nil)) pa_nil) (pk_cons (pe_lamP (params := lamA) (body := lamB) (scope := lamSc) TB rfl (by decide +kernel) rfl rfl) pk_nil))) (pg_name (i := 2) sc_inner.nd rfl (Or.inl rfl))
      (pss_cons (ps_set (i := 3) sc_inner.nd rfl (Or.inl rfl) (pe_cl st (hr.mono (by omega)) rfl (pa_cons (pv 0) (pa_cons (pv 1) (pa_cons (pv 2) pa_nil)))))
      (pss_one (ps_if (pt_cmp (pc_notN (pv 3))) (pss_one (ps_ret (pe_op op_catA (pe_tup (pa_cons (pv 2) pa_nil)) (pv 3)))) pss_nil)))) pss_never), ?_⟩
  obtain ⟨v0, v1, rfl, r0, r1⟩ := arA_two hv
  have r0 : Dp K H v0 (enc cA) := r0
  have r1 : Dp K H v1 (.list [ruleA]) := r1
  refine s_seq ?_
  refine (ea_call tG (ea_one (edx_of (ed_var (i := 0) (σ := [some v0, some v1, none, none]) tG rfl r0))) (show R_sp 12 _ (.tuple [encP []]) from ⟨cA, rfl, cA_ok, by decide, by decide, by rw [show cA.signPlaces = [[]] by decide +kernel]; rfl⟩)) H (Ext.refl G H) _ fun vt H1 y1 rt => ?_
  have t1 := tG.ext y1
  have tS1 := tabS_ext y1 tG hPi tS
  refine ⟨tS1, fun g c' H2 made gn code => ?_⟩
  have tP1 := tabsP t1 tS1
  have x2 := lamExt (G := G) made
  have tP2 := tP1.ext x2
  have t2 : TabsG G H2 := fun Q hQ => tP2 Q (List.mem_cons_of_mem _ hQ)
  have y3 : Ext G H2 (upd H2 g (LamO g qI lamA lamB lamSc [] c')) := Ext.new gn
  have t3 := t2.ext y3
  obtain ⟨a, xs, rfl, hs, hx⟩ := dp_tup (dp_ext (x2.trans y3.wide) tP1 rt)
  obtain ⟨x, rfl, rx⟩ := dpA_one hx
  have ncg : c' ≠ g := fun z => by rw [z, gn] at code; cases code
  have all : Ext (Pi :: G) H (upd H2 g (LamO g qI lamA lamB lamSc [] c')) := y1.wide.trans (x2.trans y3.wide)
  refine ⟨a, x, g, c', [.inl 99], rfl, hs, rfl, upd_same, by rw [upd_ne ncg]; exact code, fun d hd d' hd' => by rw [List.mem_singleton.mp hd, List.mem_singleton.mp hd']; decide +kernel, .inl fun d hd => ⟨_, _, List.mem_singleton.mp hd⟩, by decide +kernel, key_run t3 rx fun kv H4 y4 rk => ⟨rk, fun p hp => ?_⟩⟩
  have r0' := dp_ext all (tabsP tG tS) r0
  have r1' := dp_ext all (tabsP tG tS) r1
  have y4 : Ext G (upd H2 g (LamO g qI lamA lamB lamSc [] c')) H4 := y4
  generalize upd H2 g (LamO g qI lamA lamB lamSc [] c') = H3 at y3 t3 hs hx rx all y4 r0' r1'
  have t4 := t3.ext y4
  have y5 : Ext G H4 (upd H4 p (.lst [x])) := Ext.new hp
  have e5 : upd H4 p (.lst [x]) p = some (.lst [x]) := upd_same
  have y35 := y4.trans y5
  generalize upd H4 p (.lst [x]) = H5 at y5 e5 y35 ⊢
  have t5 := t3.ext y35
  refine ⟨p, rfl, ⟨[x], SqL.of e5⟩, for_list (a := p) (xs := [x]) (fun i σ' H' => i = 0 ∧ σ' = [some v0, some v1, none, none] ∧ H' = H5) ⟨rfl, rfl, rfl⟩ (fun i σ' H' _ z => by rw [z.2.2]; exact SqL.of e5) ?_ (fun σ' H' z => by cases z.1)⟩
  rintro i y σ' H' hy ⟨rfl, rfl, rfl⟩
  cases hy
  have rx5 := dp_ext y35 t3 rx
  show tSeq (tAsg _ _) _ _ [some v0, some v1, some x, none] H'
  refine s_set (G := G) (K := K) (ea_call t5 (ea_cons t5 (edx_of (ed_var (i := 0) (σ := [some v0, some v1, some x, none]) t5 rfl (dp_ext y35 t3 r0'))) (ea_cons t5 (edx_of (ed_var (i := 1) t5 rfl (dp_ext y35 t3 r1'))) (ea_one (edx_of (ed_var (i := 2) t5 rfl rx5))))) (show R_step _ (.tuple [.int 0, enc cA]) from ⟨rfl, rfl⟩)) fun v3 H6 y6 r6 => ?_
  have t6 := t5.ext y6
  dsimp only
  refine s_if (G := G) (b := true) (edt_val (K := K) (ed_is (ed_notN (a := .d (.tuple [.int 0, enc cA])) (edx_of (ed_var (i := 3) (σ := [some v0, some v1, some x, some v3]) t6 rfl r6))) rfl)) (fun _ H7 y7 => ?_) (fun h => by cases h)
  have y67 := y6.trans y7
  have t7 := t5.ext y67
  refine s_ret (G := G) (K := K) (ed_op t7 (ed_tup t7 (ed_one (ed_var (i := 2) (σ := [some v0, some v1, some x, some v3]) t7 rfl (dp_ext y67 t5 rx5))) (by show 1 ≤ sizeLine; decide)) (ed_var (i := 3) t7 rfl (dp_ext y7 t6 r6)) (rd_catA t7 (by show 1 + 2 ≤ sizeLine; decide))) fun w H8 y8 r8 => ?_
  have fin := (y3.trans y35).trans (y67.trans y8)
  exact q w H8 (all.trans (y35.trans (y67.trans y8)).wide) (tabS_ext fin t2 hPi made.tab) r8
end
end Rh
set_option Elab.async false
set_option linter.all false
set_option maxRecDepth 100000
set_option maxHeartbeats 1000000
/-! k34: ended at a constant that steps to itself -/
namespace Rh
open PySem PySem.Spec PyProof.Rows L2 GxR Gx Dl LiI LamX
theorem pe_no {X : Cx} {e : Expr} : PE X e (fun _ _ _ => False) := ⟨fun _ _ _ _ _ _ h => h.elim⟩
theorem sc_ended : FnScope ["term", "rules", "most", "inner", "count", "hit"] ["term", "rules", "most", "inner"] (defScope s_ended) := ⟨rfl, rfl, rfl, by decide +kernel, rfl, by decide +kernel, by decide +kernel⟩
theorem s_whileTrue {ts : TS} {D : Ends} {σ : L2.St} {H : Hp} (W : Nat → L2.St → Hp → Prop) (m : Nat) (h0 : W m σ H) (hs : ∀ m σ H, W m σ H → ts { D with nx := fun σ' H' => ∃ m', m' < m ∧ W m' σ' H', ct := fun σ' H' => ∃ m', m' < m ∧ W m' σ' H', bk := D.nx } σ H) : tWhile (tB (tC (.bl true))) ts D σ H :=
  ⟨W, ⟨m, h0⟩, fun m σ H h => ⟨true, rfl, by
    dsimp only
    rw [if_pos rfl]
    exact ⟨fun σ' H' => ∃ m', m' < m ∧ W m' σ' H', fun _ _ z => z, hs m σ H h⟩⟩⟩
theorem arA_fourA {K : PySem.W.Frag} {H : Hp} {vs : List V} {a b c d : Ar} (h : ArA K H vs [a, b, c, d]) : ∃ v0 v1 v2 v3, vs = [v0, v1, v2, v3] ∧ ArR K H v0 a ∧ ArR K H v1 b ∧ ArR K H v2 c ∧ ArR K H v3 d := by
  cases h with
  | cons r0 h =>
    obtain ⟨v1, v2, v3, rfl, r1, r2, r3⟩ := arA_three h
    exact ⟨_, _, _, _, rfl, r0, r1, r2, r3⟩
theorem s_setR {te : TE} {i : Nat} {En : Ends} {σ : L2.St} {H : Hp} (h : te σ H fun v H2 => En.nx (σ.set i (some v)) H2) : tAsg te (gName i) En σ H := h
theorem ea_argsOf {G : List Addr} {K : PySem.W.Frag} {σ : L2.St} {H : Hp} {tA : TA} {as : List Ar} {sp : Sp} {E : XK} {Q : VK} (h : EdXA G K tA σ H as) (q : ∀ vs H2, Ext G H H2 → ArA K H2 vs as → sp vs H2 Q E) : tCall sp [] E tA σ H Q := h H (Ext.refl G H) _ fun vs H2 x2 rs => by
  show sp (vs ++ []) H2 Q E
  rw [List.append_nil]
  exact q vs H2 x2 rs
/-- ended, where the steps are more than the bound -/
def spEnd (G : List Addr) (K : PySem.W.Frag) (Pi CL : Addr) : Sp := fun vs H _ E => TabsG G H ∧ TabS H Pi qI ∧ ∃ n : Nat, ArA K H vs [.d (enc cA), .d (.list [ruleA]), .d (.int n), .d (.bool true)] ∧ ∀ H', Ext (Pi :: G) H H' → TabS H' Pi qI → E (.ref CL) none H'
section
variable {P : Program} {w : World} {K : PySem.W.Frag} {mg : Str → Option Value} {base : Heap} {G G' : List Addr} {f : Addr} {fd : FuncData} {Pi CL : Addr}
theorem clx_ended (D : DefF K mg base G' "ended" s_ended ["term", "rules", "most", "inner"] f fd) (hPi : Pi ∉ G) (inn : Cl0 P w K mg base 42 "inner_first" (spI G K Pi)) (mk : MkE K mg "TooLarge" CL) : ClX P w K mg base 44 "ended" (spEnd G K Pi CL) := by
  obtain ⟨c, Pt, F, _, _⟩ := D.cP
  refine ⟨f, fd, ["term", "rules", "most", "inner"], ?_, D.m, F.kp, D.b⟩
  obtain ⟨oc, od, kV, doc, pm, an, ct, osl, rfl, lk, hcd⟩ := F.ex
  refine fn_of (k := 43) lk hcd sc_ended (fun vs H Q E ⟨_, _, _, h, _⟩ => arA_len h) fun A outer s H vs Q E hr hsp => ?_
  obtain ⟨tG, tS, n, hv, q⟩ := hsp
  refine ⟨_, pss_cons (ps_set (i := 4) sc_ended.nd rfl (Or.inl rfl) pe_int)
    (pss_one (ps_while (passes_of rfl) (pt_val pe_bl)
      (pss_cons (ps_set (i := 5) sc_ended.nd rfl (Or.inl rfl) (pe_ifExp (pt_val (pv 3)) (pe_cl inn (hr.mono (by omega)) rfl (pa_cons (pv 0) (pa_cons (pv 1) pa_nil))) pe_no))
      (pss_cons (ps_if (pt_cmp (pc_isN (pv 5))) pss_never pss_nil)
      (pss_cons (ps_if (pt_cmpR op_ge (pv 4) (pv 2) (nomark _)) (pss_one (ps_raise rfl (takes_of rfl rfl rfl rfl) (mk rfl rfl rfl))) pss_nil)
      (pss_one (ps_par (i := 0) (j := 4) (by rfl) sc_ended.nd rfl rfl (by decide) rfl rfl (pa_cons (pe_ix ix_tup (pv 5) pe_int (fun _ _ => rfl)) (pa_cons (pe_op op_add (pv 4) pe_int) pa_nil)) (by rfl)))))))), ?_⟩
  obtain ⟨v0, v1, v2, v3, rfl, r0, r1, r2, r3⟩ := arA_fourA hv
  have r0 : Dp K H v0 (enc cA) := r0
  have r1 : Dp K H v1 (.list [ruleA]) := r1
  rw [dp_int (show Dp K H v2 (.int n) from r2), dp_bl (show Dp K H v3 (.bool true) from r3)]
  refine s_set (G := G) (K := K) (d := .int (0 : Nat)) ed_int fun v4 H1 y1 r4 => ?_
  rw [dp_int r4]
  have tP := tabsP tG tS
  refine s_whileTrue (fun m σ' H' => ∃ k w0 w5, m = n + 1 - k ∧ k ≤ n ∧ σ' = [some w0, some v1, some (.int (n : Nat)), some (.bl true), some (.int (k : Nat)), w5] ∧ Ext (Pi :: G) H H' ∧ TabS H' Pi qI ∧ Dp K H' w0 (enc cA)) (n + 1) ⟨0, v0, none, rfl, Nat.zero_le _, rfl, y1.wide, tabS_ext y1 tG hPi tS, dp_ext y1 tG r0⟩ ?_
  rintro m σ' H' ⟨k, w0, w5, rfl, hk, rfl, x1, tS1, q0⟩
  have t1 := tG.wide x1
  have q1 := dp_ext x1 tP r1
  refine s_setR ⟨.bl true, rfl, true, rfl, ?_⟩
  dsimp only
  rw [if_pos rfl]
  refine (ea_argsOf (ea_cons t1 (edx_of (ed_var (i := 0) (σ := [some w0, some v1, some (.int (n : Nat)), some (.bl true), some (.int (k : Nat)), w5]) t1 rfl q0)) (ea_one (edx_of (ed_var (i := 1) t1 rfl q1))))) fun vs H2 y2 rs => ⟨t1.ext y2, tabS_ext y2 t1 hPi tS1, rs, fun v H3 x3 tS3 r3 => ?_⟩
  have x13 := x1.trans (y2.wide.trans x3)
  have t3 := tG.wide x13
  dsimp only
  have v5 : ∀ {H4}, Ext G H3 H4 → Ed G K (tVar 5) [some w0, some v1, some (.int (n : Nat)), some (.bl true), some (.int (k : Nat)), some v] H4 (.tuple [encP [], .int 0, enc cA]) := fun y => ed_var (t3.ext y) rfl (dp_ext y t3 r3)
  have v4 : ∀ {H4}, Ext G H3 H4 → Ed G K (tVar 4) [some w0, some v1, some (.int (n : Nat)), some (.bl true), some (.int (k : Nat)), some v] H4 (.int (k : Nat)) := fun y => ed_var (t3.ext y) rfl (.int (k : Nat))
  refine s_ifR (G := G) (b := false) (edt_val (K := K) (ed_is (ed_isN (a := .d (.tuple [encP [], .int 0, enc cA])) (edx_of (v5 (Ext.refl G H3)))) rfl)) (fun h => by cases h) fun _ H4 y4 => ?_
  have t4 := t3.ext y4
  refine s_ifR (G := G) (b := decide ((n : Int) ≤ (k : Int))) (edt_test (K := K) (ed_op t4 (v4 y4) (ed_var (i := 2) t4 rfl (.int (n : Nat))) rd_geI)) (fun _ H5 y5 => ?_) fun hb H5 y5 => ?_
  · exact q H5 (x13.trans (y4.trans y5).wide) (tabS_ext (y4.trans y5) t3 hPi tS3)
  · have lt : ¬ (n : Int) ≤ (k : Int) := of_decide_eq_false hb
    have y45 := y4.trans y5
    have t5 := t3.ext y45
    refine s_par2 (G := G) (K := K) (d := enc cA) (e := .int ((k : Int) + 1)) (ed_cons t5 (ed_op t5 (v5 y45) ed_int (rd_ixT (by decide) rfl)) (ed_one (ed_op t5 (v4 y45) ed_int rd_add))) fun a b H6 y6 ra rb => ?_
    rw [dp_int rb]
    have y36 := y45.trans y6
    exact ⟨n + 1 - (k + 1), by omega, k + 1, a, some v, rfl, by omega, rfl, x13.trans y36.wide, tabS_ext y36 t3 hPi tS3, ra⟩
end
end Rh
set_option Elab.async false
set_option linter.all false
set_option maxRecDepth 100000
set_option maxHeartbeats 1000000
/-! k34: the desk -/
namespace Rh
open PySem PySem.Spec PyProof.Rows L2 GxR Gx Dl LiI LamX
def deskM (i : Nat) : Stmt := match topS 39 with
  | .ClassDef _ _ _ body _ _ _ _ _ _ _ => body.getD i (.Pass ⟨0, 0, 0, 0⟩)
  | _ => .Pass ⟨0, 0, 0, 0⟩
theorem sc_init : FnScope ["self", "ranks"] ["self", "ranks"] (defScope (deskM 0)) := ⟨rfl, rfl, rfl, by decide +kernel, rfl, by decide +kernel, by decide +kernel⟩
theorem sc_drop : FnScope ["self", "k"] ["self", "k"] (defScope (deskM 5)) := ⟨rfl, rfl, rfl, by decide +kernel, rfl, by decide +kernel, by decide +kernel⟩
/-- the desk's class -/
structure DeskC (K : PySem.W.Frag) (C : Addr) : Prop where
  cl : Cls K C
  n1 : NoAttr K C "ranks"
  n2 : NoAttr K C "state"
  n3 : NoAttr K C "deeds"
  n4 : NoAttr K C "undone"
def stateD : PyData := .tuple [.tuple [], .tuple []]
/-- a fresh desk -/
def DeskAt (K : PySem.W.Frag) (C : Addr) (H : Hp) (x : Addr) : Prop := ∃ dx fs sv, H x = some (.ins C dx fs) ∧ fs.lookup ("state" : Str) = some sv ∧ fs.lookup ("drop" : Str) = none ∧ Dp K H sv stateD
def spDrop (G : List Addr) (K : PySem.W.Frag) (C CD : Addr) : Sp := fun vs H _ E => TabsG G H ∧ ∃ (x : Addr) (n : Nat), vs = [.ref x, .int n] ∧ DeskAt K C H x ∧ ∀ H', Ext G H H' → E (.ref CD) none H'
theorem ed_fld {G : List Addr} {K : PySem.W.Frag} {σ : L2.St} {H : Hp} {i : Nat} {a C dx : Addr} {fs : List (Str × V)} {f : Str} {v : V} {d : PyData} (t : TabsG G H) (h : σ[i]? = some (some (.ref a))) (e : H a = some (.ins C dx fs)) (c : Cls K C) (n : NoAttr K C f) (l : fs.lookup f = some v) (r : Dp K H v d) : Ed G K (tFld K (tVar i) f) σ H d := fun H1 x Q q =>
  ⟨.ref a, h, a, C, dx, fs, v, rfl, x.at t e (fun ps z => by cases z), c, n, l, q v H1 (Ext.refl G H1) (dp_ext x t r)⟩
section
variable {P : Program} {w : World} {K : PySem.W.Frag} {mg : Str → Option Value} {base : Heap} {G : List Addr} {f c C CD : Addr} {fd : FuncData}
theorem fx_drop (F : FunC K "drop" "Desk.drop" (deskM 5) f fd c) (T : DeskC K C) (m : mg "len" = none) (mk : MkE K mg "BadDeed" CD) : FnOk P w K mg base (L2.CX P w) 2 f fd ["self", "k"] (spDrop G K C CD) := by
  obtain ⟨oc, od, kV, doc, pm, an, ct, osl, rfl, lk, hcd⟩ := F.ex
  refine fn_of (k := 1) lk hcd sc_drop (fun vs H Q E ⟨_, _, _, h, _⟩ => by rw [h]; rfl) fun A outer s H vs Q E hr hsp => ?_
  obtain ⟨tG, x, n, rfl, ⟨dx, fs, sv, e, l, _, rs⟩, q⟩ := hsp
  refine ⟨_, pss_cons (ps_if (PT.nox (pt_not (pt_chain op_le op_lt pe_int (pv 1) (pe_callB call_len_seq (by rfl) m PySem.boot_len (pa_cons (pe_ix ix_tup (pe_fld (pv 0) rfl) pe_int (fun _ _ => rfl)) pa_nil))))) (pss_one (ps_raise rfl (takes_of rfl rfl rfl rfl) (mk rfl rfl rfl))) pss_nil) pss_never, ?_⟩
  have e0 : Ed G K (tFld K (tVar 0) "state") [some (.ref x), some (.int (n : Nat))] H stateD := ed_fld tG rfl e T.cl T.n2 l rs
  refine s_ifR (G := G) (b := true) (edt_is (edt_not (edt_test (K := K) (ed_chain tG ed_int (ed_var (i := 1) tG rfl (.int (n : Nat))) rd_leI (ed_cb (ed_one (ed_op tG e0 ed_int (rd_ixT (d := .tuple []) (by decide) rfl))) rdc_len) rd_ltI))) ?_) (fun _ H2 y2 => ?_) (fun h => by cases h)
  · have : decide ((n : Int) < (([] : List PyData).length : Nat)) = false := decide_eq_false (by simp)
    rw [this, Bool.and_false]
    rfl
  · exact q H2 y2
end
end Rh
set_option Elab.async false
set_option linter.all false
set_option maxRecDepth 100000
set_option maxHeartbeats 1000000
/-! k34: the desk is made -/
namespace Rh
open PySem PySem.Spec PyProof.Rows L2 GxR Gx Dl LiI LamX
theorem tabs_ins {G : List Addr} {H : Hp} {x C dx : Addr} {fs : List (Str × V)} {o : HO} (t : TabsG G H) (e : H x = some (.ins C dx fs)) : TabsG G (upd H x o) := fun Q hQ => by
  obtain ⟨ps, h, tr⟩ := t Q hQ
  exact ⟨ps, by rw [upd_ne fun z => by rw [z, e] at h; cases h]; exact h, tr⟩
theorem sqT_ins {K : PySem.W.Frag} {H : Hp} {x C dx : Addr} {fs : List (Str × V)} {o : HO} (e : H x = some (.ins C dx fs)) {a : Addr} {xs : List V} (q : SqT K H a xs) : SqT K (upd H x o) a xs := by
  have ne : ∀ {u}, H a = some u → (∀ C dx fs, u ≠ .ins C dx fs) → upd H x o a = some u := fun h n => by
    rw [upd_ne fun z => n _ _ _ (Option.some.inj (h.symm.trans (by rw [z]; exact e)))]
    exact h
  rcases q with (h | ⟨ob, h⟩) | h
  · exact .inl (.inl (ne h fun _ _ _ z => by cases z))
  · exact .inl (.inr ⟨ob, ne h fun _ _ _ z => by cases z⟩)
  · exact .inr h
theorem s_fldE {G : List Addr} {K : PySem.W.Frag} {σ : L2.St} {H : Hp} {te : TE} {d : PyData} {x C dx : Addr} {fs : List (Str × V)} {f : Str} {En : Ends} (t : TabsG G H) (h : Ed G K te σ H d) (h0 : σ[0]? = some (some (.ref x))) (e : H x = some (.ins C dx fs)) (cl : Cls K C) (n : NoAttr K C f) (len : fs.length < 1000)
    (q : ∀ v H', Ext G H H' → Dp K H' v d → H' x = some (.ins C dx fs) → En.nx σ (upd H' x (.ins C dx (putF f v fs)))) : sFld K (tVar 0) te f En σ H := h H (Ext.refl G H) _ fun v H2 y2 r =>
  have e2 := y2.at t e fun ps z => by cases z
  ⟨.ref x, h0, x, C, dx, fs, rfl, e2, cl, n, len, q v H2 y2 r e2⟩
def spInit (G : List Addr) (K : PySem.W.Frag) (C : Addr) : Sp := fun vs H Q _ => ∃ x d dx : Addr, vs = [.ref x, .ref d] ∧ H x = some (.ins C dx []) ∧ Rd H d (.dK []) ∧ TabsG G H ∧
  ∀ H', (∀ b o, b ≠ x → b ∉ G → H b = some o → H' b = some o) → TabsG G H' → DeskAt K C H' x → Q .non H'
section
variable {P : Program} {w : World} {K : PySem.W.Frag} {mg : Str → Option Value} {base : Heap} {G : List Addr} {f c C CD : Addr} {fd : FuncData}
theorem fx_init (F : FunC K "__init__" "Desk.__init__" (deskM 0) f fd c) (T : DeskC K C) (m : mg "dict" = none) : FnOk P w K mg base CX0 2 f fd ["self", "ranks"] (spInit G K C) := by
  obtain ⟨oc, od, kV, doc, pm, an, ct, osl, rfl, lk, hcd⟩ := F.ex
  refine fn_of (k := 1) lk hcd sc_init (fun vs H Q E ⟨_, _, _, h, _⟩ => by rw [h]; rfl) fun A outer s H vs Q E hr hsp => ?_
  obtain ⟨x, d, dx, rfl, ex, hd, tG, q⟩ := hsp
  refine ⟨_, PSs.nox (pss_cons (ps_fld (pv 0) (pe_callTy call_dictD (by rfl) m (by decide +kernel) (pa_cons (pv 1) pa_nil)) (by rfl))
    (pss_cons (ps_fld (pv 0) (pe_tup (pa_cons (pe_tup pa_nil) (pa_cons (pe_tup pa_nil) pa_nil))) (by rfl))
    (pss_cons (ps_fld (pv 0) (pe_lst pa_nil) (by rfl)) (pss_one (ps_fld (pv 0) (pe_lst pa_nil) (by rfl)))))), ?_⟩
  have z0 : (0 : Nat) ≤ sizeLine := Nat.zero_le _
  refine ⟨.ref d, rfl, d, [], rfl, hd, fun p hp => ⟨.ref x, rfl, x, C, dx, [], rfl, ?_, T.cl, T.n1, by decide, ?_⟩⟩
  · rw [upd_ne fun z => by rw [z, hp] at ex; cases ex]
    exact ex
  have y1 : Ext G H (upd H p (.dK [])) := Ext.new hp
  have t1 := tG.ext y1
  have e1 : upd H p (.dK []) x = some (.ins C dx []) := y1.at tG ex fun ps z => by cases z
  have k1 : ∀ b o, b ≠ x → H b = some o → upd (upd H p (.dK [])) x (.ins C dx (putF "ranks" (.ref p) [])) b = some o := fun b o hb e => by
    rw [upd_ne hb, upd_ne fun z => by rw [z, hp] at e; cases e]
    exact e
  have t2 : TabsG G (upd (upd H p (.dK [])) x (.ins C dx (putF "ranks" (.ref p) []))) := tabs_ins t1 e1
  have e2 : upd (upd H p (.dK [])) x (.ins C dx (putF "ranks" (.ref p) [])) x = some (.ins C dx (putF "ranks" (.ref p) [])) := upd_same
  generalize upd (upd H p (.dK [])) x (.ins C dx (putF "ranks" (.ref p) [])) = H2 at k1 t2 e2 ⊢
  have step : ∀ {Ha Hb : Hp} {o : HO}, (∀ b o, b ≠ x → b ∉ G → H b = some o → Ha b = some o) → Ext G Ha Hb → ∀ b u, b ≠ x → b ∉ G → H b = some u → upd Hb x o b = some u := fun k y b u hb hG e => by
    rw [upd_ne hb]
    exact y.keep b hG _ (k b u hb hG e)
  have k2 : ∀ b o, b ≠ x → b ∉ G → H b = some o → H2 b = some o := fun b o hb _ e => k1 b o hb e
  refine s_seq (s_fldE (G := G) (K := K) (d := stateD) t2 (ed_tup t2 (ed_cons t2 (ed_tup t2 ed_nil z0) (ed_one (ed_tup t2 ed_nil z0))) (by show 2 ≤ sizeLine; decide)) rfl e2 T.cl T.n2 (by show 1 < 1000; decide) fun sv H3 y3 rs e3 => ?_)
  have t3 := tabs_ins (o := .ins C dx (putF "state" sv (putF "ranks" (.ref p) []))) (t2.ext y3) e3
  have k3 := step (o := .ins C dx (putF "state" sv (putF "ranks" (.ref p) []))) k2 y3
  have rs3 : Dp K (upd H3 x (.ins C dx (putF "state" sv (putF "ranks" (.ref p) [])))) sv stateD := dp_tups (fun _ _ q => sqT_ins e3 q) (by decide +kernel) rs
  have e3' : upd H3 x (.ins C dx (putF "state" sv (putF "ranks" (.ref p) []))) x = some (.ins C dx (putF "state" sv (putF "ranks" (.ref p) []))) := upd_same
  generalize upd H3 x (.ins C dx (putF "state" sv (putF "ranks" (.ref p) []))) = H4 at t3 k3 rs3 e3' ⊢
  refine s_seq (s_fldE (G := G) (K := K) (d := .list []) t3 (ed_lst t3 ed_nil z0) rfl e3' T.cl T.n3 (by show 2 < 1000; decide) fun v5 H5 y5 _ e5 => ?_)
  have t5 := tabs_ins (o := .ins C dx (putF "deeds" v5 (putF "state" sv (putF "ranks" (.ref p) [])))) (t3.ext y5) e5
  have k5 := step (o := .ins C dx (putF "deeds" v5 (putF "state" sv (putF "ranks" (.ref p) [])))) k3 y5
  have rs5 : Dp K (upd H5 x (.ins C dx (putF "deeds" v5 (putF "state" sv (putF "ranks" (.ref p) []))))) sv stateD := dp_tups (fun _ _ q => sqT_ins e5 q) (by decide +kernel) (dp_ext y5 t3 rs3)
  have e5' : upd H5 x (.ins C dx (putF "deeds" v5 (putF "state" sv (putF "ranks" (.ref p) [])))) x = some (.ins C dx (putF "deeds" v5 (putF "state" sv (putF "ranks" (.ref p) [])))) := upd_same
  generalize upd H5 x (.ins C dx (putF "deeds" v5 (putF "state" sv (putF "ranks" (.ref p) [])))) = H6 at t5 k5 rs5 e5' ⊢
  refine s_fldE (G := G) (K := K) (d := .list []) t5 (ed_lst t5 ed_nil z0) rfl e5' T.cl T.n4 (by show 3 < 1000; decide) fun v7 H7 y7 _ e7 => ?_
  exact q _ (step k5 y7) (tabs_ins (t5.ext y7) e7) ⟨dx, _, sv, upd_same, rfl, rfl, dp_tups (fun _ _ q => sqT_ins e7 q) (by decide +kernel) (dp_ext y7 t5 rs5)⟩
end
end Rh
set_option Elab.async false
set_option linter.all false
set_option maxRecDepth 100000
set_option maxHeartbeats 1000000
/-! k34's law: what its lambdas run -/
namespace Rh
open PySem PySem.Spec PyProof.Rows L2 GxR Gx Dl LiI LamX
abbrev NL : List Str := ["script", "dice", "whats", "k", "desk", "many", "j"]
theorem sc_law : FnScope NL ["script"] (defScope s_law) := ⟨rfl, rfl, rfl, by decide +kernel, rfl, by decide +kernel, by decide +kernel⟩
def stL (i : Nat) : Stmt := (defBody s_law).getD i (.Pass ⟨0, 0, 0, 0⟩)
def forB (i : Nat) : Stmt := match stL 0 with
  | .For _ _ body _ _ => body.getD i (.Pass ⟨0, 0, 0, 0⟩)
  | _ => .Pass ⟨0, 0, 0, 0⟩
abbrev XL (P : Program) (w : World) (K : PySem.W.Frag) (mg : Str → Option Value) (base : Heap) (f : Addr) (c : Addr) (A : Around) (outer : List Env) (s : Shared) (H : Hp) (E : XK) : Cx := (cxOf CX0 P w K mg base NL "law" (defScope s_law) f (.ref c) A outer s H E).nox
/-- the lambdas of the law -/
def lamI (i : Nat) : Expr := match forB 1 with
  | .Assign _ (.List es _) _ => es.getD i (.Constant .none 0 ⟨0, 0, 0, 0⟩)
  | _ => .Constant .none 0 ⟨0, 0, 0, 0⟩
def lA (i : Nat) : Arguments := match lamI i with
  | .Lambda a _ _ _ => a
  | _ => defArgs s_law
def lB (i : Nat) : Expr := match lamI i with
  | .Lambda _ b _ _ => b
  | _ => lamI i
def lS (i : Nat) : Scope := match lamI i with
  | .Lambda _ _ s _ => s
  | _ => defScope s_law
theorem lS_ok : ∀ i ∈ List.range 7, lamSB (defScope s_law) (lS i) = true := by decide +kernel
section
variable {P : Program} {w : World} {K : PySem.W.Frag} {mg : Str → Option Value} {base : Heap} {G : List Addr} {f : Addr} {CT CB CN CL Pi : Addr}
section
variable {c : Addr} {A : Around} {outer : List Env} {s : Shared} {H : Hp} {E : XK}
theorem run0 (C : ClX P w K mg base 27 "check_term" (spE G K (R_chkE 12) CT)) : LamRun (XL P w K mg base f c A outer s H E) 70 (lA 0) (lB 0) (lS 0) fun E => tCall (spE G K (R_chkE 12) CT) [] E (tCons (tVar 5) tNil) :=
  ⟨lamS_by (lS_ok 0 (by decide)), fun _ _ _ _ _ => rfl, fun A outer s H E f c' hr => pe_clX C (hr.mono (by omega)) rfl (passes_call (takes_of rfl rfl rfl rfl) (fun _ _ _ _ h => h)) (pa_cons (pv 5) pa_nil)⟩
end
end
end Rh
set_option Elab.async false
set_option linter.all false
set_option maxRecDepth 100000
set_option maxHeartbeats 1000000
/-! k34's law: what its lambdas run (on) -/
namespace Rh
open PySem PySem.Spec PyProof.Rows L2 GxR Gx Dl LiI LamX
abbrev rStrI : List V → Hp → VK → Prop := fun xs H Q => ∃ i, xs = [V.int i] ∧ i.natAbs.log2 < 1920 ∧ Q (.str (toString i)) H
abbrev rCatS : V → V → Hp → VK → Prop := fun x y H Q => ∃ i j, x = V.str i ∧ y = V.str j ∧ i.length + j.length ≤ sizeLine ∧ Q (.str (i ++ j)) H
def tNm (z : Str) : TE := tOp rCatS (tC (.str z)) (tCB rStrI (tCons (tVar 5) tNil))
def tCa : TE := tTup (tCons (tC (.str (Str.ofString "a"))) (tCons (tTup tNil) tNil))
section
variable {P : Program} {w : World} {K : PySem.W.Frag} {mg : Str → Option Value} {base : Heap} {G : List Addr} {f : Addr} {CT CB CN CL CP Pi : Addr}
section
variable {c : Addr} {A : Around} {outer : List Env} {s : Shared} {H : Hp} {E : XK}
theorem run1 (C : ClX P w K mg base 29 "check_rules" (spE G K R_rul CB)) (m : mg "str" = none) : LamRun (XL P w K mg base f c A outer s H E) 70 (lA 1) (lB 1) (lS 1) fun E => tCall (spE G K R_rul CB) [] E (tCons (tLst (tCons (tTup (tCons (tNm (Str.ofString "x")) (tCons tCa tNil))) tNil)) tNil) :=
  ⟨lamS_by (lS_ok 1 (by decide)), fun _ _ _ _ _ => rfl, fun A outer s H E f c' hr => pe_clX C (hr.mono (by omega)) rfl (passes_call (takes_of rfl rfl rfl rfl) (fun _ _ _ _ h => h)) (pa_cons (pe_lst (pa_cons (pe_tup (pa_cons (pe_op op_add_str pe_str (pe_callTy call_str_int (by rfl) m (by decide +kernel) (pa_cons (pv 5) pa_nil))) (pa_cons (pe_tup (pa_cons pe_str (pa_cons (pe_tup pa_nil) pa_nil))) pa_nil))) pa_nil)) pa_nil)⟩
theorem run3 (C : ClC NX P w K mg base 3 "look_paper" (spR2 G K CP "part" R_look)) : LamRun (XL P w K mg base f c A outer s H E) 70 (lA 3) (lB 3) (lS 3) fun E => tCall (spR2 G K CP "part" R_look) [] E (tCons (tTup tNil) (tCons (tC (.str (Str.ofString "x"))) (tCons (tC (.str (Str.ofString "y"))) (tCons (tTup tNil) tNil)))) :=
  ⟨lamS_by (lS_ok 3 (by decide)), fun _ _ _ _ _ => rfl, fun A outer s H E f c' hr => pe_clC C (hr.mono (by omega)) rfl (fun pins σ H s e s' I h => (passes_call (takes_of rfl rfl rfl rfl) (fun _ _ _ _ h => h)) pins σ H s e s' I (cxN_cx h)) (pa_cons (pe_tup pa_nil) (pa_cons pe_str (pa_cons pe_str (pa_cons (pe_tup pa_nil) pa_nil))))⟩
theorem run4 (C : ClX P w K mg base 31 "unified" (spE G K R_uni CN)) (m : mg "str" = none) : LamRun (XL P w K mg base f c A outer s H E) 70 (lA 4) (lB 4) (lS 4) fun E => tCall (spE G K R_uni CN) [] E (tCons (tC (.str (Str.ofString "x"))) (tCons (tTup (tCons (tNm (Str.ofString "k")) (tCons (tTup (tCons (tC (.str (Str.ofString "x"))) tNil)) tNil))) tNil)) :=
  ⟨lamS_by (lS_ok 4 (by decide)), fun _ _ _ _ _ => rfl, fun A outer s H E f c' hr => pe_clX C (hr.mono (by omega)) rfl (passes_call (takes_of rfl rfl rfl rfl) (fun _ _ _ _ h => h)) (pa_cons pe_str (pa_cons (pe_tup (pa_cons (pe_op op_add_str pe_str (pe_callTy call_str_int (by rfl) m (by decide +kernel) (pa_cons (pv 5) pa_nil))) (pa_cons (pe_tup (pa_cons pe_str pa_nil)) pa_nil))) pa_nil))⟩
theorem run5 (C : ClX P w K mg base 44 "ended" (spEnd G K Pi CL)) : LamRun (XL P w K mg base f c A outer s H E) 70 (lA 5) (lB 5) (lS 5) fun E => tCall (spEnd G K Pi CL) [] E (tCons tCa (tCons (tLst (tCons (tTup (tCons tCa (tCons tCa tNil))) tNil)) (tCons (tVar 5) (tCons (tC (.bl true)) tNil)))) :=
  ⟨lamS_by (lS_ok 5 (by decide)), fun _ _ _ _ _ => rfl, fun A outer s H E f c' hr => pe_clX C (hr.mono (by omega)) rfl (passes_call (takes_of rfl rfl rfl rfl) (fun _ _ _ _ h => h)) (pa_cons (pe_tup (pa_cons pe_str (pa_cons (pe_tup pa_nil) pa_nil))) (pa_cons (pe_lst (pa_cons (pe_tup (pa_cons (pe_tup (pa_cons pe_str (pa_cons (pe_tup pa_nil) pa_nil))) (pa_cons (pe_tup (pa_cons pe_str (pa_cons (pe_tup pa_nil) pa_nil))) pa_nil))) pa_nil)) (pa_cons (pv 5) (pa_cons pe_bl pa_nil))))⟩
end
end
end Rh
set_option Elab.async false
set_option linter.all false
set_option maxRecDepth 100000
set_option maxHeartbeats 1000000
/-! k34's law: a text times an int; read -/
namespace Rh
open PySem PySem.Spec PyProof.Rows L2 GxR Gx Dl LiI LamX
abbrev rMulS : V → V → Hp → VK → Prop := fun x y H Q => ∃ (z : Str) (n : Int), x = .str z ∧ y = .int n ∧ MulOk z n ∧ Q (.str (Txt.mul z n)) H
theorem op_mulS {X : Cx} : OpR X (binaryOp .Mult) rMulS := by
  intro pins s σ H x y v u Q I rx ry h
  obtain ⟨z, n, rfl, rfl, ok, q⟩ := h
  obtain ⟨t, rfl⟩ := rx
  obtain ⟨t2, rfl⟩ := ry
  exact PySem.SB.mul ok fun t' k => ⟨.str (Txt.mul z n), H, I.tok k, ⟨t', rfl⟩, q⟩
section
variable {P : Program} {w : World} {K : PySem.W.Frag} {mg : Str → Option Value} {base : Heap} {G : List Addr} {f : Addr} {CB : Addr}
section
variable {c : Addr} {A : Around} {outer : List Env} {s : Shared} {H : Hp} {E : XK}
def tRead : TE := tOp rCatS (tOp rCatS (tC (.str (Str.ofString "f("))) (tOp rMulS (tC (.str (Str.ofString "a"))) (tOp (rI (fun _ j => 0 < j) fun i j => .int (i % j)) (tVar 5) (tC (.int 9))))) (tC (.str (Str.ofString "$")))
theorem run2 (C : ClC NX P w K mg base 66 "read" (spR2 G K CB "place" R_rd)) : LamRun (XL P w K mg base f c A outer s H E) 70 (lA 2) (lB 2) (lS 2) fun E => tCall (spR2 G K CB "place" R_rd) [] E (tCons tRead tNil) :=
  ⟨lamS_by (lS_ok 2 (by decide)), fun _ _ _ _ _ => rfl, fun A outer s H E f c' hr => pe_clC C (hr.mono (by omega)) rfl (fun pins s σ H e s' I h => (passes_call (takes_of rfl rfl rfl rfl) (fun _ _ _ _ h => h)) pins s σ H e s' I (cxN_cx h)) (pa_cons (pe_op op_add_str (pe_op op_add_str pe_str (pe_op op_mulS pe_str (pe_op op_mod (pv 5) pe_int))) pe_str) pa_nil)⟩
end
end
end Rh
set_option Elab.async false
set_option linter.all false
set_option maxRecDepth 100000
set_option maxHeartbeats 1000000
/-! k34's law: desk.drop(many) in a lambda -/
namespace Rh
open PySem PySem.Spec PyProof.Rows L2 GxR Gx Dl LiI LamX
section
variable {P : Program} {w : World} {K : PySem.W.Frag} {mg : Str → Option Value} {base : Heap} {G : List Addr} {f fx C CD : Addr} {fd : FuncData}
section
variable {c : Addr} {A : Around} {outer : List Env} {s : Shared} {H : Hp} {E : XK}
theorem run6 (T : DeskC K C) (Mt : Meth K C "drop" fx) (F : FnOk P w K mg base (L2.CX P w) 2 fx fd ["self", "k"] (spDrop G K C CD)) (b : Binds K fd ["self", "k"] []) : LamRun (XL P w K mg base f c A outer s H E) 70 (lA 6) (lB 6) (lS 6) fun E => tMeth C "drop" (spDrop G K C CD) [] E (tVar 4) (tCons (tVar 5) tNil) :=
  ⟨lamS_by (lS_ok 6 (by decide)), fun _ _ _ _ _ => rfl, fun A outer s H E f c' hr => pe_meth (pv 4) T.cl Mt F (hr.mono (by omega)) b .nil (passes_call (takes_of rfl rfl rfl rfl) (fun _ _ _ _ h => h)) (pa_cons (pv 5) pa_nil)⟩
end
end
end Rh
set_option Elab.async false
set_option linter.all false
set_option maxRecDepth 100000
set_option maxHeartbeats 1000000
/-! k34's law: its first two statements -/
namespace Rh
open PySem PySem.Spec PyProof.Rows L2 GxR Gx Dl LiI LamX
section
variable {P : Program} {w : World} {K : PySem.W.Frag} {mg : Str → Option Value} {base : Heap} {G : List Addr} {f fi C CD Pl : Addr} {fdi : FuncData}
section
variable {c : Addr} {A : Around} {outer : List Env} {s : Shared} {H : Hp} {E : XK}
theorem lawB0 (ro : Cl0 P w K mg base 1 "_law_roll" (spRoll G)) (M : Mk K C fi) (I : FnOk P w K mg base CX0 2 fi fdi ["self", "ranks"] (spInit G K C)) (mC : mg "Desk" = some (.ref C)) (b : Binds K fdi ["self", "ranks"] []) (hr : Room 90 (XL P w K mg base f c A outer s H E).A) : ∃ t, PS (XL P w K mg base f c A outer s H E) (forB 0) t :=
  ⟨_, ps_asg (pe_tup (pa_cons (pe_op op_add pe_int (pe_cl ro (hr.mono (by omega)) rfl (pa_cons (pv 1) (pa_cons pe_int pa_nil)))) (pa_cons (pe_make M I (hr.mono (by omega)) (by rfl) mC b .nil pass0 (pa_cons pe_dnewK pa_nil)) pa_nil))) (pg_tup rfl (pgs_cons (pg_name (i := 5) sc_law.nd rfl (Or.inr rfl)) (pgs_cons (pg_name (i := 4) sc_law.nd rfl (Or.inr rfl)) pgs_nil)))⟩
theorem lawB1 (TB : LamX.TabB base mg c Pl) : ∃ t, PS (XL P w K mg base f c A outer s H E) (forB 1) t :=
  ⟨_, ps_set (i := 2) sc_law.nd rfl (Or.inl rfl) (pe_lst (pa_cons (pe_lamV (params := lA 0) (body := lB 0) (scope := lS 0) TB rfl (lamS_by (lS_ok 0 (by decide))) rfl) (pa_cons (pe_lamV (params := lA 1) (body := lB 1) (scope := lS 1) TB rfl (lamS_by (lS_ok 1 (by decide))) rfl) (pa_cons (pe_lamV (params := lA 2) (body := lB 2) (scope := lS 2) TB rfl (lamS_by (lS_ok 2 (by decide))) rfl) (pa_cons (pe_lamV (params := lA 3) (body := lB 3) (scope := lS 3) TB rfl (lamS_by (lS_ok 3 (by decide))) rfl) (pa_cons (pe_lamV (params := lA 4) (body := lB 4) (scope := lS 4) TB rfl (lamS_by (lS_ok 4 (by decide))) rfl) (pa_cons (pe_lamV (params := lA 5) (body := lB 5) (scope := lS 5) TB rfl (lamS_by (lS_ok 5 (by decide))) rfl) (pa_cons (pe_lamV (params := lA 6) (body := lB 6) (scope := lS 6) TB rfl (lamS_by (lS_ok 6 (by decide))) rfl) pa_nil))))))))⟩
end
end
end Rh
set_option Elab.async false
set_option linter.all false
set_option maxRecDepth 100000
set_option maxHeartbeats 1000000
/-! k34's law: the loop over the lambdas -/
namespace Rh
open PySem PySem.Spec PyProof.Rows L2 GxR Gx Dl LiI LamX
section
variable {P : Program} {w : World} {K : PySem.W.Frag} {mg : Str → Option Value} {base : Heap} {G : List Addr} {f g : Addr} {gd : FuncData} {cs : Cs}
section
variable {c : Addr} {A : Around} {outer : List Env} {s : Shared} {H : Hp} {E : XK}
theorem lawB2 (G : List Addr) (FT : ∃ cg, FunC K "_law_told" "_law_told" s_told_law g gd cg) (mT : mg "_law_told" = some (.ref g)) (b : Binds K gd ["what"] []) (M : CsOk mg cs) (m1 : mg "range" = none) (m2 : mg "len" = none) (hr : Room 90 (XL P w K mg base f c A outer s H E).A) : ∃ t, PS (XL P w K mg base f c A outer s H E) (forB 2) t := by
  obtain ⟨cg, F⟩ := FT
  obtain ⟨oc, od, kV, doc, pm, an, ct, osl, rfl, lk, hcd⟩ := F.ex
  exact ⟨_, ps_for PassesOwn.never rfl (pi_range1 rfl m1 (pa_cons (pe_callB call_len_seq (by rfl) m2 PySem.boot_len (pa_cons (pv 2) pa_nil)) pa_nil)) (pg_name (i := 3) sc_law.nd rfl (Or.inr rfl))
    (pss_one (ps_if (pt_cmpR (op_neD hr.units) (pe_tellV (k := 70) (TT := TTk G K cs) (by rfl) mT F.kp lk hcd b sc_told_law (by rfl) (Or.inl rfl) (told_kin M) (hr.mono (by omega)) (pa_cons (pe_ix ix_list (pv 2) (pv 3) (fun _ _ => rfl)) pa_nil))
      (pe_op op_cat (pe_lc (own := [("j", 6)]) (g := gName 6) (tt := tYes) rfl sc_law.nd (pi_range1 rfl m1 (pa_cons pe_int pa_nil)) (blkOk_by (N := NL) (sc := defScope s_law) (by decide +kernel)) (fun _ _ _ _ _ => pg_name (i := 6) sc_law.nd rfl (Or.inl rfl)) (fun _ _ _ _ _ => pts_nil) (fun _ _ _ _ _ => pe_cmpR op_eq (pv 6) (pv 3) (nomark _))) (pe_lst (pa_cons pe_bl pa_nil))) (nomark _)) (pss_one (ps_ret pe_bl)) pss_nil))⟩
end
end
end Rh
set_option Elab.async false
set_option linter.all false
set_option maxRecDepth 100000
set_option maxHeartbeats 1000000
/-! k34's law: its names and texts; what raises -/
namespace Rh
open PySem PySem.Spec PyProof.Rows L2 GxR Gx Dl LiI LamX TL
def nX (n : Nat) : Str := Str.ofString "x" ++ (toString (n : Int) : String)
def nK (n : Nat) : Str := Str.ofString "k" ++ (toString (n : Int) : String)
theorem nX_ok {n : Nat} (h : n < 901) : isVarS (nX n) = true ∧ (nX n).length ≤ 10 ∧ PyData.strOk (nX n) = true ∧ (((toString (n : Int) : String) : Str)).length ≤ 10 := by
  have : ∀ k : Fin 901, isVarS (nX k) = true ∧ (nX k).length ≤ 10 ∧ PyData.strOk (nX k) = true ∧ (((toString ((k : Nat) : Int) : String) : Str)).length ≤ 10 := by decide +kernel
  exact this ⟨n, h⟩
theorem nK_ok {n : Nat} (h : n < 901) : (nK n).length ≤ 10 ∧ PyData.strOk (nK n) = true := by
  have : ∀ k : Fin 901, (nK k).length ≤ 10 ∧ PyData.strOk (nK k) = true := by decide +kernel
  exact this ⟨n, h⟩
def txR (m : Int) : Str := (Str.ofString "f(" ++ Txt.mul (Str.ofString "a") m) ++ Str.ofString "$"
def isErr : Except Nat PyData → Bool
  | .error _ => true
  | .ok _ => false
theorem isErr_is {r : Except Nat PyData} (h : isErr r = true) : ∃ k, r = .error k := by
  cases r with
  | error k => exact ⟨k, rfl⟩
  | ok d => cases h
theorem txR_ok {n : Nat} (h : n < 9) : (txR n).length ≤ 100 ∧ isErr (readL (tl (txR n))) = true ∧ MulOk (Str.ofString "a") n ∧ (Txt.mul (Str.ofString "a") n).length ≤ 10 := by
  have a : ∀ k : Fin 9, (txR (k : Nat)).length ≤ 100 ∧ isErr (readL (tl (txR (k : Nat)))) = true ∧ (Txt.mul (Str.ofString "a") (k : Nat)).length ≤ 10 := by decide +kernel
  have b : ∀ k : Fin 9, MulOk (Str.ofString "a") (k : Nat) := by
    unfold MulOk
    decide +kernel
  exact ⟨(a ⟨n, h⟩).1, (a ⟨n, h⟩).2.1, b ⟨n, h⟩, (a ⟨n, h⟩).2.2⟩
section
variable {G : List Addr} {K : PySem.W.Frag} {σ : L2.St} {H H' : Hp} {tA : TA} {E : XK} {Q : VK} {C : Addr}
theorem rd_mulS {z : Str} {n : Int} (ok : MulOk z n) : Rd2 G K rMulS (.str z) (.int n) (.str (Txt.mul z n)) H := fun H1 _ v u rv ru Q q => ⟨z, n, dp_str rv, dp_int ru, ok, q _ H1 (Ext.refl G H1) (.str _)⟩
theorem rd_modP {i j : Int} (h : 0 < j) : Rd2 G K (rI (fun _ j => 0 < j) fun i j => .int (i % j)) (.int i) (.int j) (.int (i % j)) H := fun H1 _ v u rv ru Q q => ⟨i, j, dp_int rv, dp_int ru, h, q _ H1 (Ext.refl G H1) (.int _)⟩
theorem tellE {R : List Ar → Prop} {as : List Ar} (tG : TabsG G H) (h : EdXA G K tA σ H as) (r : R as) (q : ∀ H', Ext G H H' → E (.ref C) none H') : tCall (spE G K R C) [] E tA σ H Q :=
  ea_argsOf h fun vs H2 x rs => ⟨tG.ext x, as, rs, r, fun H' x' => q H' (x.trans x')⟩
theorem tellR {R : List Ar → Except Nat PyData → Prop} {as : List Ar} {k : Nat} {fl : Str} (tG : TabsG G H) (h : EdXA G K tA σ H as) (r : R as (.error k)) (q : ∀ dx H', Ext G H H' → H' dx = some (.xd [(fl, V.int (k : Nat))]) → E (.ref C) (some dx) H') : tCall (spR2 G K C fl R) [] E tA σ H Q :=
  r2_call tG h r (fun d e => by cases e) fun k' e dx H' x hd => by
    cases e
    exact q dx H' x hd
theorem ed_nm {z : Str} {n : Nat} (tG : TabsG G H) (hz : z.length ≤ 10) (hn : n < 901) (h : σ[5]? = some (some (.int (n : Nat)))) : Ed G K (tNm z) σ H (.str (z ++ (toString (n : Int) : String))) := by
  have o := (nX_ok hn).2.2.2
  refine ed_op tG ed_str (ed_cb (ed_one (ed_var tG h (.int (n : Nat)))) (rdc_strI ?_)) (rd_addS (Nat.le_trans (Nat.add_le_add hz o) (by decide)))
  have : ∀ k : Fin 901, ((k : Nat) : Int).natAbs.log2 < 1920 := by decide +kernel
  exact this ⟨n, hn⟩
theorem ed_cA (tG : TabsG G H) : Ed G K tCa σ H (enc cA) := ed_tup tG (ed_cons tG ed_str (ed_one (ed_tup tG ed_nil (Nat.zero_le _)))) (by show 2 ≤ sizeLine; decide)
theorem ed_read {n : Nat} (tG : TabsG G H) (h : σ[5]? = some (some (.int (n : Nat)))) : Ed G K tRead σ H (.str (txR ((n % 9 : Nat) : Int))) := by
  have m := txR_ok (Nat.mod_lt n (show 0 < 9 by decide))
  have em : ((n : Int) % 9) = ((n % 9 : Nat) : Int) := by omega
  have e1 : Ed G K (tOp (rI (fun _ j => 0 < j) fun i j => .int (i % j)) (tVar 5) (tC (.int 9))) σ H (.int ((n % 9 : Nat) : Int)) := by
    rw [← em]
    exact ed_op tG (ed_var tG h (.int (n : Nat))) ed_int (rd_modP (by decide))
  have l2 : (Str.ofString "f(").length ≤ 10 := by decide
  have l3 : (Str.ofString "$").length ≤ 10 := by decide
  refine ed_op tG (ed_op tG ed_str (ed_op tG ed_str e1 (rd_mulS m.2.2.1)) (rd_addS (Nat.le_trans (Nat.add_le_add l2 m.2.2.2) (by decide)))) ed_str (rd_addS ?_)
  have e : (Str.ofString "f(" ++ Txt.mul (Str.ofString "a") ((n % 9 : Nat) : Int)).length ≤ 20 := by
    have : ∀ k : Fin 9, (Str.ofString "f(" ++ Txt.mul (Str.ofString "a") ((k : Nat) : Int)).length ≤ 20 := by decide +kernel
    exact this ⟨n % 9, Nat.mod_lt n (by decide)⟩
  exact Nat.le_trans (Nat.add_le_add e l3) (by decide)
end
end Rh
set_option Elab.async false
set_option linter.all false
set_option maxRecDepth 100000
set_option maxHeartbeats 1000000
/-! k34's law: each lambda raises its own -/
namespace Rh
open PySem PySem.Spec PyProof.Rows L2 GxR Gx Dl LiI LamX TL
abbrev qL : Str := (("law" : Str) ++ ".<locals>.") ++ "<lambda>"
/-- what stands while the lambdas run -/
structure LSt (G : List Addr) (Pi Pl : Addr) (K : PySem.W.Frag) (C x : Addr) (H : Hp) : Prop where
  tG : TabsG G H
  tI : LamX.TabS H Pi qI
  tL : LamX.TabS H Pl qL
  dk : DeskAt K C H x
/-- the reading t raises an exception of the class at C -/
def TellOk (G : List Addr) (Pi Pl : Addr) (K : PySem.W.Frag) (CD C : Addr) (t : XK → TE) : Prop := ∀ (o0 o1 o2 o3 o6 : Option V) (x : Addr) (n : Nat) (H : Hp) (E : XK) (Q : VK), n < 901 → LSt G Pi Pl K CD x H →
  (∀ d H', Ext (Pi :: G) H H' → LamX.TabS H' Pi qI → (∀ dx, d = some dx → ∃ fs, H' dx = some (.xd fs)) → E (.ref C) d H') → t E [o0, o1, o2, o3, some (.ref x), some (.int (n : Nat)), o6] H Q
section
variable {P : Program} {w : World} {K : PySem.W.Frag} {G : List Addr} {CT CB CN CL CP CX CD C Pi Pl : Addr}
theorem nI {H : Hp} (hPi : Pi ∉ G) {H' : Hp} (L : LSt G Pi Pl K C CD H) (x : Ext G H H') : Ext (Pi :: G) H H' ∧ LamX.TabS H' Pi qI := ⟨x.wide, tabS_ext x L.tG hPi L.tI⟩
theorem tell0 (hPi : Pi ∉ G) : TellOk G Pi Pl K CD CT (fun E => tCall (spE G K (R_chkE 12) CT) [] E (tCons (tVar 5) tNil)) := fun o0 o1 o2 o3 o6 x n H E Q hn L q =>
  tellE L.tG (ea_one (edx_of (ed_var (i := 5) L.tG rfl (.int (n : Nat))))) (show R_chkE 12 _ from ⟨_, rfl, rfl, rfl⟩) fun H' y => q none H' y.wide (tabS_ext y L.tG hPi L.tI) fun dx e => by cases e
theorem tell1 (hPi : Pi ∉ G) : TellOk G Pi Pl K CD CB (fun E => tCall (spE G K R_rul CB) [] E (tCons (tLst (tCons (tTup (tCons (tNm (Str.ofString "x")) (tCons tCa tNil))) tNil)) tNil)) := fun o0 o1 o2 o3 o6 x n H E Q hn L q =>
  tellE L.tG (ea_one (edx_of (ed_lst L.tG (ed_one (ed_tup L.tG (ed_cons L.tG (ed_nm (n := n) L.tG (by decide) hn rfl) (ed_one (ed_cA L.tG))) (by show 2 ≤ sizeLine; decide))) (by show 1 ≤ sizeLine; decide))))
    (show R_rul _ from ⟨nX n, rfl, (nX_ok hn).1, Nat.le_trans (nX_ok hn).2.1 (by decide), (nX_ok hn).2.2.1⟩) fun H' y => q none H' y.wide (tabS_ext y L.tG hPi L.tI) fun dx e => by cases e
theorem tell2 (hPi : Pi ∉ G) : TellOk G Pi Pl K CD CX (fun E => tCall (spR2 G K CX "place" R_rd) [] E (tCons tRead tNil)) := fun o0 o1 o2 o3 o6 x n H E Q hn L q => by
  have m := txR_ok (Nat.mod_lt n (show 0 < 9 by decide))
  obtain ⟨k, hk⟩ := isErr_is m.2.1
  exact tellR L.tG (ea_one (edx_of (ed_read (n := n) L.tG rfl))) (show R_rd _ (.error k) from .inr ⟨_, rfl, Nat.le_trans m.1 (by decide), hk.symm⟩) fun dx H' y e => q (some dx) H' y.wide (tabS_ext y L.tG hPi L.tI) fun dx' e' => by
    cases e'
    exact ⟨_, e⟩
theorem tell3 (hPi : Pi ∉ G) : TellOk G Pi Pl K CD CP (fun E => tCall (spR2 G K CP "part" R_look) [] E (tCons (tTup tNil) (tCons (tC (.str (Str.ofString "x"))) (tCons (tC (.str (Str.ofString "y"))) (tCons (tTup tNil) tNil))))) := fun o0 o1 o2 o3 o6 x n H E Q hn L q =>
  tellR L.tG (ea_cons L.tG (edx_of (ed_tup L.tG ed_nil (Nat.zero_le _))) (ea_cons L.tG (edx_of ed_str) (ea_cons L.tG (edx_of ed_str) (ea_one (edx_of (ed_tup L.tG ed_nil (Nat.zero_le _))))))) (show R_look _ (.error 0) from ⟨_, _, _, rfl, rfl⟩) fun dx H' y e => q (some dx) H' y.wide (tabS_ext y L.tG hPi L.tI) fun dx' e' => by
    cases e'
    exact ⟨_, e⟩
theorem tell4 (hPi : Pi ∉ G) : TellOk G Pi Pl K CD CN (fun E => tCall (spE G K R_uni CN) [] E (tCons (tC (.str (Str.ofString "x"))) (tCons (tTup (tCons (tNm (Str.ofString "k")) (tCons (tTup (tCons (tC (.str (Str.ofString "x"))) tNil)) tNil))) tNil))) := fun o0 o1 o2 o3 o6 x n H E Q hn L q =>
  tellE L.tG (ea_cons L.tG (edx_of ed_str) (ea_one (edx_of (ed_tup L.tG (ed_cons L.tG (ed_nm (n := n) L.tG (by decide) hn rfl) (ed_one (ed_tup L.tG (ed_one ed_str) (by show 1 ≤ sizeLine; decide)))) (by show 2 ≤ sizeLine; decide)))))
    (show R_uni _ from ⟨Str.ofString "x", nK n, rfl, (nK_ok hn).2, by decide +kernel, by decide +kernel, by decide +kernel⟩) fun H' y => q none H' y.wide (tabS_ext y L.tG hPi L.tI) fun dx e => by cases e
theorem tell5 (hPi : Pi ∉ G) : TellOk G Pi Pl K CD CL (fun E => tCall (spEnd G K Pi CL) [] E (tCons tCa (tCons (tLst (tCons (tTup (tCons tCa (tCons tCa tNil))) tNil)) (tCons (tVar 5) (tCons (tC (.bl true)) tNil))))) := fun o0 o1 o2 o3 o6 x n H E Q hn L q => by
  have eR : EdXA G K (tCons tCa (tCons (tLst (tCons (tTup (tCons tCa (tCons tCa tNil))) tNil)) (tCons (tVar 5) (tCons (tC (.bl true)) tNil)))) [o0, o1, o2, o3, some (.ref x), some (.int (n : Nat)), o6] H [.d (enc cA), .d (.list [ruleA]), .d (.int (n : Nat)), .d (.bool true)] :=
    ea_cons L.tG (edx_of (ed_cA L.tG)) (ea_cons L.tG (edx_of (ed_lst L.tG (ed_one (ed_tup L.tG (ed_cons L.tG (ed_cA L.tG) (ed_one (ed_cA L.tG))) (by show 2 ≤ sizeLine; decide))) (by show 1 ≤ sizeLine; decide))) (ea_cons L.tG (edx_of (ed_var (i := 5) L.tG rfl (.int (n : Nat)))) (ea_one (edx_of ed_bl))))
  exact ea_argsOf eR fun vs H2 x rs => ⟨L.tG.ext x, tabS_ext x L.tG hPi L.tI, n, rs, fun H' y t => q none H' (x.wide.trans y) t fun dx e => by cases e⟩
theorem tell6 (hPi : Pi ∉ G) {CE : Addr} : TellOk G Pi Pl K CD CE (fun E => tMeth CD "drop" (spDrop G K CD CE) [] E (tVar 4) (tCons (tVar 5) tNil)) := fun o0 o1 o2 o3 o6 x n H E Q hn L q => by
  obtain ⟨dx, fs, sv, e, l1, l2, r⟩ := L.dk
  refine ⟨_, rfl, x, dx, fs, rfl, e, l2, _, rfl, ?_⟩
  exact ⟨L.tG, x, n, rfl, ⟨dx, fs, sv, e, l1, l2, r⟩, fun H' y => q none H' y.wide (tabS_ext y L.tG hPi L.tI) fun dx e => by cases e⟩
end
end Rh
set_option Elab.async false
set_option linter.all false
set_option maxRecDepth 100000
set_option maxHeartbeats 1000000
/-! k34's law: the lambdas kept, made, forgotten; the first statement -/
namespace Gx
open PySem PySem.Spec PyProof.Rows L2 GxR LamX
theorem lam_code {f c' : Addr} {q q2 : Str} {params : Arguments} {body : Expr} {scope : Scope} {clo : List (Str × Addr)} : LamO f q params body scope clo c' ≠ CodeO f q2 := fun e => by
  unfold LamO CodeO at e
  have e2 := HO.ext.inj e
  have hg : (Heap.push ⟨Array.replicate f default, {}⟩ (PySem.W.kla_obj "<lambda>" q params body scope clo .none c' .none)).get? f = some (PySem.W.kla_obj "<lambda>" q params body scope clo .none c' .none) := by
    have := Heap.get?_push_size (h := ⟨Array.replicate f default, {}⟩) (o := PySem.W.kla_obj "<lambda>" q params body scope clo .none c' .none) rfl
    simpa using this
  have := congrFun e2 (Heap.push ⟨Array.replicate f default, {}⟩ (PySem.W.kla_obj "<lambda>" q params body scope clo .none c' .none))
  obtain ⟨oc, vs, t, h1, h2, _⟩ := cast this ⟨.none, .none, hg⟩
  rw [hg] at h1
  cases h1
  cases h2
end Gx
namespace Rh
open PySem PySem.Spec PyProof.Rows L2 GxR Gx Dl LiI LamX TL
theorem del_at {H : Hp} {f b : Addr} {φ : Heap → Prop} {u : HO} (hf : H f = some (.ext φ)) (e : H b = some u) (n : ∀ ψ, u ≠ .ext ψ) : delH H f b = some u := by
  unfold delH
  rw [if_neg fun z => n φ (Option.some.inj (e.symm.trans (by rw [z]; exact hf)))]
  exact e
theorem del_ne {H : Hp} {f b : Addr} (h : b ≠ f) : delH H f b = H b := if_neg h
theorem sqT_del {K : PySem.W.Frag} {H : Hp} {f : Addr} {φ : Heap → Prop} (hf : H f = some (.ext φ)) {a : Addr} {xs : List V} (q : SqT K H a xs) : SqT K (delH H f) a xs := by
  rcases q with (h | ⟨ob, h⟩) | h
  · exact .inl (.inl (del_at hf h fun _ z => by cases z))
  · exact .inl (.inr ⟨ob, del_at hf h fun _ z => by cases z⟩)
  · exact .inr h
section
variable {G : List Addr} {Pi Pl : Addr} {K : PySem.W.Frag} {C x : Addr} {H H' : Hp}
theorem DeskAt.ext (d : DeskAt K C H x) (t : TabsG G H) (y : Ext G H H') : DeskAt K C H' x := by
  obtain ⟨dx, fs, sv, e, l1, l2, r⟩ := d
  exact ⟨dx, fs, sv, y.at t e (fun ps z => by cases z), l1, l2, dp_ext y t r⟩
theorem pu_state : Pu stateD = true := by decide +kernel
theorem DeskAt.del {f : Addr} {φ : Heap → Prop} (hf : H f = some (.ext φ)) (d : DeskAt K C H x) : DeskAt K C (delH H f) x := by
  obtain ⟨dx, fs, sv, e, l1, l2, r⟩ := d
  exact ⟨dx, fs, sv, del_at hf e (fun _ z => by cases z), l1, l2, dp_tups (fun _ _ q => sqT_del hf q) pu_state r⟩
theorem tabS_del {f : Addr} {q q2 : Str} {params : Arguments} {body : Expr} {scope : Scope} {clo : List (Str × Addr)} {c' P : Addr} (hf : H f = some (LamO f q params body scope clo c')) (t : LamX.TabS H P q2) : LamX.TabS (delH H f) P q2 := by
  obtain ⟨ps, e, tr, k⟩ := t
  refine ⟨ps, del_at (φ := _) hf e fun _ z => (by cases z), tr, fun p cv h => ?_⟩
  obtain ⟨c, ec, kc⟩ := k p cv h
  refine ⟨c, ec, ?_⟩
  rw [del_ne fun z => by
    rw [z, hf] at kc
    exact lam_code (Option.some.inj kc)]
  exact kc
theorem LSt.del {f : Addr} {q : Str} {params : Arguments} {body : Expr} {scope : Scope} {clo : List (Str × Addr)} {c' : Addr} (L : LSt G Pi Pl K C x H) (hf : H f = some (LamO f q params body scope clo c')) : LSt G Pi Pl K C x (delH H f) :=
  ⟨fun P hP => by
    obtain ⟨ps, e, tr⟩ := L.tG P hP
    exact ⟨ps, del_at hf e (fun _ z => by cases z), tr⟩, tabS_del hf L.tI, tabS_del hf L.tL, L.dk.del hf⟩
theorem LSt.ext (hPi : Pi ∉ G) (hPl : Pl ∉ Pi :: G) (L : LSt G Pi Pl K C x H) (y : Ext (Pi :: G) H H') (t : LamX.TabS H' Pi qI) : LSt G Pi Pl K C x H' := by
  have tP := tabsP L.tG L.tI
  have t2 := tP.ext y
  exact ⟨fun Q hQ => t2 Q (List.mem_cons_of_mem _ hQ), t, tabS_ext y tP hPl L.tL, L.dk.ext tP y⟩
/-- a lambda is made -/
theorem LSt.made {f c' : Addr} {H1 : Hp} {params : Arguments} {body : Expr} {scope : Scope} {clo : List (Str × Addr)} (hPi : Pi ∉ G) (hPl : Pl ∉ Pi :: G) (L : LSt G Pi Pl K C x H) (m : LamMade Pl qL H H1) (hn : H1 f = none) : LSt G Pi Pl K C x (upd H1 f (LamO f qL params body scope clo c')) := by
  have nP : Pi ∉ Pl :: G := fun h => by
    rcases List.mem_cons.mp h with h | h
    · exact hPl (h ▸ List.mem_cons_self)
    · exact hPi h
  have nl : Pl ∉ G := fun h => hPl (List.mem_cons_of_mem _ h)
  have tP := tabsP L.tG L.tL
  have y := lamExt (G := G) m
  have t1 := tP.ext y
  have u : Ext (Pl :: G) H1 (upd H1 f (LamO f qL params body scope clo c')) := Ext.new hn
  have u0 : Ext G H1 (upd H1 f (LamO f qL params body scope clo c')) := Ext.new hn
  have t2 := t1.ext u
  exact ⟨fun Q hQ => t2 Q (List.mem_cons_of_mem _ hQ), tabS_ext (y.trans u) tP nP L.tI, tabS_ext u0 (fun Q hQ => t1 Q (List.mem_cons_of_mem _ hQ)) nl m.tab, L.dk.ext tP (y.trans u)⟩
end
/-- the lambdas from the one of number i on -/
structure LamsK (X : Cx) (H : Hp) (i : Nat) (fs : List (Addr × Addr)) : Prop where
  nd : (fs.map (·.1)).Nodup
  at_ : ∀ j p, fs[j]? = some p → LamK X (lA (i + j)) (lB (i + j)) (lS (i + j)) p.1 p.2 H
section
variable {X : Cx} {H H1 H' : Hp} {fs : List (Addr × Addr)} {i : Nat} {Pl f c' : Addr}
theorem lamO_ext {f : Addr} {q : Str} {params : Arguments} {body : Expr} {scope : Scope} {clo : List (Str × Addr)} {c' : Addr} : ∃ φ, LamO f q params body scope clo c' = .ext φ := ⟨_, rfl⟩
theorem lamK_keep {a : Arguments} {b : Expr} {s : Scope} (k : LamK X a b s f c' H) (h : ∀ b o, H b = some o → (∀ ps, o ≠ .tbl ps) → (∀ l, o ≠ .lst l) → H' b = some o) : LamK X a b s f c' H' :=
  ⟨k.1, h _ _ k.2.1 (fun ps => lamO_ne ps) (fun l z => by unfold LamO at z; cases z), h _ _ k.2.2 (fun ps => LamX.codeO_ne ps) (fun l z => by unfold LamX.CodeO at z; cases z)⟩
theorem LamsK.keep (k : LamsK X H i fs) (h : ∀ b o, H b = some o → (∀ ps, o ≠ .tbl ps) → (∀ l, o ≠ .lst l) → H' b = some o) : LamsK X H' i fs :=
  ⟨k.nd, fun j p e => lamK_keep (k.at_ j p e) h⟩
theorem LamsK.made (k : LamsK X H 0 fs) (hq : X.env.qual ++ "<lambda>" = qL) (m : LamMade Pl qL H H1) (hP : ∃ ps, H Pl = some (.tbl ps)) (hn : H1 f = none) (hc : H1 c' = some (LamX.CodeO c' qL)) :
    LamsK X (upd H1 f (LamO f qL (lA fs.length) (lB fs.length) (lS fs.length) (cloFrom X.env.cells (lS fs.length).names []) c')) 0 (fs ++ [(f, c')]) := by
  obtain ⟨ps, hP⟩ := hP
  have kp : ∀ b o, H b = some o → (∀ ps, o ≠ .tbl ps) → upd H1 f (LamO f qL (lA fs.length) (lB fs.length) (lS fs.length) (cloFrom X.env.cells (lS fs.length).names []) c') b = some o := fun b o e n => by
    have e1 := m.keep b o (fun z => by rw [z, hP] at e; exact n ps (Option.some.inj e).symm) e
    rw [upd_ne fun z => by rw [z, hn] at e1; cases e1]
    exact e1
  refine ⟨?_, fun j p e => ?_⟩
  · rw [List.map_append]
    refine List.nodup_append.mpr ⟨k.nd, by simp, fun a ha b hb => ?_⟩
    rw [List.mem_singleton.mp hb]
    obtain ⟨p, hp, rfl⟩ := List.mem_map.mp ha
    obtain ⟨j, hj⟩ := List.mem_iff_getElem?.mp hp
    intro z
    have z : p.1 = f := z
    obtain ⟨_, e, _⟩ := k.at_ j p hj
    have e1 := m.keep p.1 _ (fun y => by rw [y, hP] at e; exact lamO_ne ps (Option.some.inj e).symm) e
    rw [z, hn] at e1
    cases e1
  · rcases Nat.lt_or_ge j fs.length with h | h
    · rw [List.getElem?_append_left h] at e
      exact lamK_keep (k.at_ j p e) fun b o e n _ => kp b o e n
    · rw [List.getElem?_append_right h] at e
      have hj : j - fs.length = 0 := by
        rcases Nat.eq_zero_or_pos (j - fs.length) with h0 | h0
        · exact h0
        · rw [List.getElem?_eq_none (by simp; omega)] at e
          cases e
      rw [hj] at e
      cases e
      have ej : 0 + j = fs.length := by omega
      rw [ej]
      have nfc : f ≠ c' := fun z => by
        rw [z, hc] at hn
        cases hn
      refine ⟨nfc, ?_, ?_⟩
      · rw [hq]; exact upd_same
      · rw [hq]
        show upd H1 f _ c' = _
        rw [upd_ne fun z => by rw [z, hn] at hc; cases hc]
        exact hc
/-- the first of them is forgotten -/
theorem LamsK.del {p : Addr × Addr} (k : LamsK X H i (p :: fs)) : LamsK X (delH H p.1) (i + 1) fs := by
  obtain ⟨_, e0, _⟩ := k.at_ 0 p rfl
  have nd := k.nd
  rw [List.map_cons, List.nodup_cons] at nd
  refine ⟨nd.2, fun j q e => ?_⟩
  obtain ⟨a, b, c⟩ := k.at_ (j + 1) q e
  have ej : i + (j + 1) = i + 1 + j := by omega
  rw [ej] at b
  refine ⟨a, ?_, ?_⟩
  · rw [del_ne (f := p.1) (b := q.1) fun z => nd.1 (by rw [← z]; exact List.mem_map_of_mem (f := (·.1)) (List.mem_of_getElem? e))]
    exact b
  · rw [del_ne fun z => by
      rw [z, e0] at c
      exact lam_code (Option.some.inj c)]
    exact c
end
end Rh
set_option Elab.async false
set_option linter.all false
set_option maxRecDepth 100000
set_option maxHeartbeats 1000000
/-! k34's law: its first two statements run -/
namespace Rh
open PySem PySem.Spec PyProof.Rows L2 GxR Gx Dl LiI LamX TL
section
variable {P : Program} {w : World} {K : PySem.W.Frag} {mg : Str → Option Value} {base : Heap} {G : List Addr} {f fi C CD Pl Pi : Addr} {fdi : FuncData}
section
variable {c : Addr} {A : Around} {outer : List Env} {s : Shared} {H0 : Hp} {E : XK}
theorem st0 (ro : Cl0 P w K mg base 1 "_law_roll" (spRoll G)) (M : Mk K C fi) (I : FnOk P w K mg base CX0 2 fi fdi ["self", "ranks"] (spInit G K C)) (mC : mg "Desk" = some (.ref C)) (b : Binds K fdi ["self", "ranks"] []) (hr : Room 90 (XL P w K mg base f c A outer s H0 E).A) :
    ∃ t, PS (XL P w K mg base f c A outer s H0 E) (forB 0) t ∧ ∀ (En : Ends) (H : Hp) (D : Addr) (m : Nat) (o0 o2 o3 o4 o5 o6 : Option V), TabsG G H → DiceAt m H D → m < 900000 →
      (∀ (n : Nat) x H', n < 901 → TabsG G H' → (∀ b o, b ∉ D :: G → H b = some o → H' b = some o) → DeskAt K C H' x → En.nx [o0, some (.ref D), o2, o3, some (.ref x), some (.int (n : Nat)), o6] H') → t En [o0, some (.ref D), o2, o3, o4, o5, o6] H := by
  refine ⟨_, ps_asg (pe_tup (pa_cons (pe_op op_add pe_int (pe_cl ro (hr.mono (by omega)) rfl (pa_cons (pv 1) (pa_cons pe_int pa_nil)))) (pa_cons (pe_make M I (hr.mono (by omega)) (by rfl) mC b .nil pass0 (pa_cons pe_dnewK pa_nil)) pa_nil))) (pg_tup rfl (pgs_cons (pg_name (i := 5) sc_law.nd rfl (Or.inr rfl)) (pgs_cons (pg_name (i := 4) sc_law.nd rfl (Or.inr rfl)) pgs_nil))), fun En H D m o0 o2 o3 o4 o5 o6 tG hD hm q => ?_⟩
  refine s_asgR ?_
  refine tcall2 (v := .ref D) (u := .int 900) (fun Q q => ⟨_, rfl, q⟩) (fun Q q => q) ?_
  refine ⟨tG, D, 900, m, rfl, by decide, by decide, by omega, hD, fun r H1 hr1 x1 d1 => ?_⟩
  have t1 := tG.wide x1
  refine ⟨1, r, rfl, rfl, fun p hp x dx hx hdx ne => ?_⟩
  have xp : p ≠ x := fun z => by rw [← z, upd_same] at hx; cases hx
  have dp : p ≠ dx := fun z => by rw [← z, upd_same] at hdx; cases hdx
  have y1 : Ext G H1 (upd H1 p (.dK [])) := Ext.new hp
  have y2 : Ext G (upd H1 p (.dK [])) (upd (upd H1 p (.dK [])) dx (.own x)) := Ext.new hdx
  have hx2 : upd (upd H1 p (.dK [])) dx (.own x) x = none := by rw [upd_ne fun z => ne z.symm]; exact hx
  have y3 : Ext G (upd (upd H1 p (.dK [])) dx (.own x)) (upd (upd (upd H1 p (.dK [])) dx (.own x)) x (.ins C dx [])) := Ext.new hx2
  have e3 : upd (upd (upd H1 p (.dK [])) dx (.own x)) x (.ins C dx []) x = some (.ins C dx []) := upd_same
  have ed : upd (upd (upd H1 p (.dK [])) dx (.own x)) x (.ins C dx []) p = some (.dK []) := by rw [upd_ne xp, upd_ne dp, upd_same]
  have hx1 : H1 x = none := by rw [← hx, upd_ne fun z => xp z.symm]
  have y13 := (y1.trans y2).trans y3
  show spInit G K C [.ref x, .ref p] _ _ _
  generalize upd (upd (upd H1 p (.dK [])) dx (.own x)) x (.ins C dx []) = H3 at y13 e3 ed ⊢
  refine ⟨x, p, dx, rfl, e3, .inl ed, t1.ext y13, fun H4 kp t4 dk => ⟨rfl, ?_⟩⟩
  refine ⟨by show 2 ≤ sizeLine; decide, fun u hu => ?_⟩
  have y5 : Ext G H4 (upd H4 u (.tup [.int (1 + (r : Int)), .ref x])) := Ext.new hu
  refine g_two (K := K) (i := 5) (j := 4) (.inl (.inl upd_same)) ?_
  have en : (1 + (r : Int)) = ((1 + r : Nat) : Int) := by omega
  show En.nx [o0, some (.ref D), o2, o3, some (.ref x), some (.int (1 + (r : Int))), o6] (upd H4 u (.tup [.int (1 + (r : Int)), .ref x]))
  rw [en] at y5 ⊢
  refine q (1 + r) x _ (by omega) (t4.ext y5) (fun b o hb e => ?_) (dk.ext t4 y5)
  have hG : b ∉ G := fun z => hb (List.mem_cons_of_mem _ z)
  have e1 := x1.keep b hb o e
  have e3 := y13.keep b hG o e1
  have e4 := kp b o (fun z => by rw [z, hx1] at e1; cases e1) hG e3
  exact y5.keep b hG o e4
theorem qL_is : (XL P w K mg base f c A outer s H0 E).env.qual ++ "<lambda>" = qL := rfl
/-- what stands after some lambdas -/
structure Mid (G : List Addr) (Pi Pl : Addr) (K : PySem.W.Frag) (C x : Addr) (X : Cx) (H H' : Hp) (fs : List (Addr × Addr)) : Prop where
  L : LSt G Pi Pl K C x H'
  k : LamsK X H' 0 fs
  kp : ∀ b o, H b = some o → (∀ ps, o ≠ .tbl ps) → H' b = some o
theorem s_lstR {ta : TA} {Q : VK} {σ : L2.St} {H : Hp} (h : ta σ H fun xs H1 => xs.length ≤ sizeLine ∧ ∀ p, H1 p = none → Q (.ref p) (upd H1 p (.lst xs))) : tLst ta σ H Q := h
theorem s_consR {te : TE} {ta : TA} {Q : List V → Hp → Prop} {σ : L2.St} {H : Hp} (h : te σ H fun v H1 => ta σ H1 fun vs H2 => Q (v :: vs) H2) : tCons te ta σ H Q := h
theorem tabS_tbl {H : Hp} {P : Addr} {q : Str} (t : LamX.TabS H P q) : ∃ ps, H P = some (.tbl ps) := by
  obtain ⟨ps, e, _⟩ := t
  exact ⟨ps, e⟩
theorem Mid.step {x : Addr} {H H' : Hp} {fs : List (Addr × Addr)} {Q : VK} {σ : L2.St} (hPi : Pi ∉ G) (hPl : Pl ∉ Pi :: G) (m : Mid G Pi Pl K C x (XL P w K mg base f c A outer s H0 E) H H' fs)
    (q : ∀ g c' H2, Mid G Pi Pl K C x (XL P w K mg base f c A outer s H0 E) H H2 (fs ++ [(g, c')]) → Q (.ref g) H2) : tLamV (XL P w K mg base f c A outer s H0 E) Pl (lA fs.length) (lB fs.length) (lS fs.length) σ H' Q := by
  refine ⟨m.L.tL, fun g c' H1 made hn hc => ?_⟩
  refine q g c' _ ⟨m.L.made hPi hPl made hn, m.k.made qL_is made (tabS_tbl m.L.tL) hn hc, fun b o e n => ?_⟩
  have e0 := m.kp b o e n
  obtain ⟨ps, hP⟩ := tabS_tbl m.L.tL
  have e1 := made.keep b o (fun z => by rw [z, hP] at e0; exact n ps (Option.some.inj e0).symm) e0
  rw [upd_ne fun z => by rw [z, hn] at e1; cases e1]
  exact e1
theorem st1 (TB : LamX.TabB base mg c Pl) (hPi : Pi ∉ G) (hPl : Pl ∉ Pi :: G) :
    ∃ t, PS (XL P w K mg base f c A outer s H0 E) (forB 1) t ∧ ∀ (En : Ends) (H : Hp) (x : Addr) (o0 o1 o2 o3 o4 o5 o6 : Option V), LSt G Pi Pl K C x H →
      (∀ (l : Addr) (fs : List (Addr × Addr)) H', fs.length = 7 → LSt G Pi Pl K C x H' → LamsK (XL P w K mg base f c A outer s H0 E) H' 0 fs → (∀ b o, H b = some o → (∀ ps, o ≠ .tbl ps) → H' b = some o) → H' l = some (.lst (fs.map fun p => .ref p.1)) → En.nx [o0, o1, some (.ref l), o3, o4, o5, o6] H') → t En [o0, o1, o2, o3, o4, o5, o6] H := by
  refine ⟨_, ps_set (i := 2) sc_law.nd rfl (Or.inl rfl) (pe_lst (pa_cons (pe_lamV (params := lA 0) (body := lB 0) (scope := lS 0) TB rfl (lamS_by (lS_ok 0 (by decide))) rfl) (pa_cons (pe_lamV (params := lA 1) (body := lB 1) (scope := lS 1) TB rfl (lamS_by (lS_ok 1 (by decide))) rfl) (pa_cons (pe_lamV (params := lA 2) (body := lB 2) (scope := lS 2) TB rfl (lamS_by (lS_ok 2 (by decide))) rfl) (pa_cons (pe_lamV (params := lA 3) (body := lB 3) (scope := lS 3) TB rfl (lamS_by (lS_ok 3 (by decide))) rfl) (pa_cons (pe_lamV (params := lA 4) (body := lB 4) (scope := lS 4) TB rfl (lamS_by (lS_ok 4 (by decide))) rfl) (pa_cons (pe_lamV (params := lA 5) (body := lB 5) (scope := lS 5) TB rfl (lamS_by (lS_ok 5 (by decide))) rfl) (pa_cons (pe_lamV (params := lA 6) (body := lB 6) (scope := lS 6) TB rfl (lamS_by (lS_ok 6 (by decide))) rfl) pa_nil)))))))), fun En H x o0 o1 o2 o3 o4 o5 o6 L q => ?_⟩
  have m0 : Mid G Pi Pl K C x (XL P w K mg base f c A outer s H0 E) H H [] := ⟨L, ⟨by simp, fun j p e => by simp at e⟩, fun b o e _ => e⟩
  refine s_setR (s_lstR ?_)
  refine s_consR (m0.step hPi hPl fun g0 c0 H1 m1 => ?_)
  refine s_consR (m1.step hPi hPl fun g1 c1 H2 m2 => ?_)
  refine s_consR (m2.step hPi hPl fun g2 c2 H3 m3 => ?_)
  refine s_consR (m3.step hPi hPl fun g3 c3 H4 m4 => ?_)
  refine s_consR (m4.step hPi hPl fun g4 c4 H5 m5 => ?_)
  refine s_consR (m5.step hPi hPl fun g5 c5 H6 m6 => ?_)
  refine s_consR (m6.step hPi hPl fun g6 c6 H7 m7 => ?_)
  refine ⟨by show 7 ≤ sizeLine; decide, fun l hl => ?_⟩
  have y : Ext (Pi :: G) H7 (upd H7 l (.lst [.ref g0, .ref g1, .ref g2, .ref g3, .ref g4, .ref g5, .ref g6])) := Ext.new hl
  have y0 : Ext G H7 (upd H7 l (.lst [.ref g0, .ref g1, .ref g2, .ref g3, .ref g4, .ref g5, .ref g6])) := Ext.new hl
  have k7 : ∀ b o, H7 b = some o → upd H7 l (.lst [.ref g0, .ref g1, .ref g2, .ref g3, .ref g4, .ref g5, .ref g6]) b = some o := fun b o e => by
    rw [upd_ne fun z => by rw [z, hl] at e; cases e]
    exact e
  exact q l [(g0, c0), (g1, c1), (g2, c2), (g3, c3), (g4, c4), (g5, c5), (g6, c6)] _ rfl (m7.L.ext hPi hPl y (tabS_ext y0 m7.L.tG hPi m7.L.tI)) (m7.k.keep fun b o e _ _ => k7 b o e) (fun b o e n => k7 b o (m7.kp b o e n)) upd_same
end
end
end Rh
set_option Elab.async false
set_option linter.all false
set_option maxRecDepth 100000
set_option maxHeartbeats 1000000
/-! k34's law: its loop runs -/
namespace Rh
open PySem PySem.Spec PyProof.Rows L2 GxR Gx Dl LiI LamX TL
def Sev (X : Cx) (G : List Addr) (Pi Pl : Addr) (K : PySem.W.Frag) (CD : Addr) (cs : Cs) (i : Nat) : Prop := ∃ t C b, LamRun X 70 (lA i) (lB i) (lS i) t ∧ TellOk G Pi Pl K CD C t ∧ Kin K cs C b ∧ ∀ j, j < 8 → b.getD j false = (decide (j = i) || decide (j = 7))
def boolsL (i : Nat) : List PyData := ([0, 1, 2, 3, 4, 5, 6, 7] : List Nat).map fun j => .bool (decide (j = i) || decide (j = 7))
def gI (i : Nat) : PyData → PyData
  | .int j => .bool (decide (j = (i : Int)))
  | _ => .none
theorem boolsL_is : ∀ {i : Nat}, i < 7 → (((List.range 7).map fun k : Nat => PyData.int k).filter fun _ => true).map (gI i) ++ [.bool true] = boolsL i
  | 0, _ => rfl
  | 1, _ => rfl
  | 2, _ => rfl
  | 3, _ => rfl
  | 4, _ => rfl
  | 5, _ => rfl
  | 6, _ => rfl
  | n + 7, h => absurd h (by omega)
theorem boolsL_sh : ∀ {i : Nat}, i < 7 → SeqAt.shaped (.list (boolsL i)) = true ∧ PyData.eqv (.list (boolsL i)) (.list (boolsL i)) = true := by
  intro i h
  have : ∀ i : Fin 7, SeqAt.shaped (.list (boolsL i)) = true ∧ PyData.eqv (.list (boolsL i)) (.list (boolsL i)) = true := by decide +kernel
  exact this ⟨i, h⟩
theorem s_ifS {c : TT} {t u : TS} {D : Ends} {σ : L2.St} {H : Hp} (h : c σ H fun b H1 => if b = true then t D σ H1 else u D σ H1) : tIfS c t u D σ H := h
section
variable {P : Program} {w : World} {K : PySem.W.Frag} {mg : Str → Option Value} {base : Heap} {G : List Addr} {f g CD Pl Pi : Addr} {gd : FuncData} {cs : Cs}
section
variable {c : Addr} {A : Around} {outer : List Env} {s : Shared} {H0 : Hp} {E : XK}
theorem st2 (hPi : Pi ∉ G) (hPl : Pl ∉ Pi :: G) (S : ∀ i, i < 7 → Sev (XL P w K mg base f c A outer s H0 E) G Pi Pl K CD cs i) (FT : ∃ cg, FunC K "_law_told" "_law_told" s_told_law g gd cg) (mT : mg "_law_told" = some (.ref g)) (b : Binds K gd ["what"] []) (M : CsOk mg cs) (m1 : mg "range" = none) (m2 : mg "len" = none) (hr : Room 90 (XL P w K mg base f c A outer s H0 E).A) :
    ∃ t, PS (XL P w K mg base f c A outer s H0 E) (forB 2) t ∧ ∀ (En : Ends) (H : Hp) (x l : Addr) (n : Nat) (fs : List (Addr × Addr)) (o0 o1 o3 o6 : Option V), n < 901 → fs.length = 7 → LSt G Pi Pl K CD x H → LamsK (XL P w K mg base f c A outer s H0 E) H 0 fs → H l = some (.lst (fs.map fun p => .ref p.1)) →
      (∀ σ' H', σ'.length = 7 → LSt G Pi Pl K CD x H' → (∀ b z, H b = some (.lst z) → H' b = some (.lst z)) → En.nx σ' H') → t En [o0, o1, some (.ref l), o3, some (.ref x), some (.int (n : Nat)), o6] H := by
  obtain ⟨cg, F⟩ := FT
  obtain ⟨oc, od, kV, doc, pm, an, ct, osl, rfl, lk, hcd⟩ := F.ex
  refine ⟨_, ps_for PassesOwn.never rfl (pi_range1 rfl m1 (pa_cons (pe_callB call_len_seq (by rfl) m2 PySem.boot_len (pa_cons (pv 2) pa_nil)) pa_nil)) (pg_name (i := 3) sc_law.nd rfl (Or.inr rfl))
    (pss_one (ps_if (pt_cmpR (op_neD hr.units) (pe_tellV (k := 70) (TT := TTk G K cs) (by rfl) mT F.kp lk hcd b sc_told_law (by rfl) (Or.inl rfl) (told_kin M) (hr.mono (by omega)) (pa_cons (pe_ix ix_list (pv 2) (pv 3) (fun _ _ => rfl)) pa_nil))
      (pe_op op_cat (pe_lc (own := [("j", 6)]) (g := gName 6) (tt := tYes) rfl sc_law.nd (pi_range1 rfl m1 (pa_cons pe_int pa_nil)) (blkOk_by (N := NL) (sc := defScope s_law) (by decide +kernel)) (fun _ _ _ _ _ => pg_name (i := 6) sc_law.nd rfl (Or.inl rfl)) (fun _ _ _ _ _ => pts_nil) (fun _ _ _ _ _ => pe_cmpR op_eq (pv 6) (pv 3) (nomark _))) (pe_lst (pa_cons pe_bl pa_nil))) (nomark _)) (pss_one (ps_ret pe_bl)) pss_nil)), fun En H x l n fs o0 o1 o3 o6 hn h7 L k el q => ?_⟩
  refine ⟨.ref l, rfl, l, _, rfl, .inl (SqL.of el), 7, by rw [List.length_map, h7]; rfl, by decide, by decide, ?_⟩
  refine for_range (lo := 0) (n := 7) (fun i σ' H' => ∃ o3 o6, σ' = [o0, o1, some (.ref l), o3, some (.ref x), some (.int (n : Nat)), o6] ∧ LSt G Pi Pl K CD x H' ∧ LamsK (XL P w K mg base f c A outer s H0 E) H' i (fs.drop i) ∧ H' l = some (.lst (fs.map fun p => .ref p.1)) ∧ ∀ b z, H b = some (.lst z) → H' b = some (.lst z)) ⟨o3, o6, rfl, L, k, el, fun b z e => e⟩ ?_ fun σ' H' ⟨_, _, hσ, L', _, _, kp⟩ => q σ' H' (by rw [hσ]; rfl) L' kp
  rintro i σ' H' hi ⟨o3', o6', rfl, L1, k1, el1, kp1⟩
  have hfi : i < fs.length := by omega
  have hd : fs.drop i = fs[i] :: fs.drop (i + 1) := List.drop_eq_getElem_cons hfi
  rw [hd] at k1
  obtain ⟨t, C, bs, R, T, kin, hb⟩ := S i hi
  have kk := k1.at_ 0 fs[i] rfl
  have ei : (0 : Int) + (i : Int) = ((i : Nat) : Int) := by omega
  rw [ei]
  show tIfS _ _ _ _ [o0, o1, some (.ref l), some (.int (i : Nat)), some (.ref x), some (.int (n : Nat)), o6'] H'
  refine s_ifS ?_
  refine ⟨.ref l, rfl, .int (i : Nat), rfl, l, _, (i : Nat), .ref fs[i].1, rfl, rfl, SqL.of el1, atI_nat (by rw [List.getElem?_map, List.getElem?_eq_getElem hfi]; rfl), ?_⟩
  refine ⟨fs[i].1, fs[i].2, _, _, _, t, rfl, kk, R, ?_⟩
  have hf := kk.2.1
  have k2 := k1.del
  have L2' := L1.del hf
  have el2 := del_at hf el1 fun _ z => by cases z
  refine T o0 o1 _ _ o6' x n _ _ _ hn L2' fun d H2 y2 tI2 hx => ?_
  have L3 := L2'.ext hPi hPl y2 tI2
  refine ⟨C, bs, rfl, kin, hx, L3.tG, fun v H3 y3 rv => ?_⟩
  have L4 := L3.ext hPi hPl y3.wide (tabS_ext y3 L3.tG hPi L3.tI)
  have y23 := y2.trans y3.wide
  have ebs : (([0, 1, 2, 3, 4, 5, 6, 7] : List Nat).map fun i => PyData.bool (bs.getD i false)) = boolsL i := List.map_congr_left fun j hj => by
    rw [hb j (by
      simp only [List.mem_cons, List.not_mem_nil, or_false] at hj
      omega)]
  rw [ebs] at rv
  have tG := L4.tG
  have sh := boolsL_sh hi
  have el : EdL G K (tOp rCat (tLc (iRng1 (tCons (tC (.int 7)) tNil)) (gName 6) tYes (tOp rEq (tVar 6) (tVar 3)) [6]) (tLst (tCons (tC (.bl true)) tNil))) [o0, o1, some (.ref l), some (.int (i : Nat)), some (.ref x), some (.int (n : Nat)), o6'] H3 (boolsL i) :=
    edl_is (edl_cat tG (edl_lcRF (n := 7) (g := gI i) (p := fun _ => true) tG (by decide) (ed_one ed_int) (by decide) (fun k => rfl) (fun k H1 hk x1 t1 Hx y Q q => q Hx (Ext.refl G Hx)) fun k H1 hk _ x1 t1 => ed_op t1 (ed_var t1 rfl (.int _)) (ed_var t1 rfl (.int _)) rd_eqI) (edl_lst tG (ed_one ed_bl) (by show 1 ≤ sizeLine; decide)) (by show 7 + 1 ≤ sizeLine; decide)) (boolsL_is hi)
  refine el.ed H3 (Ext.refl G H3) _ fun u H4 y4 ru => ?_
  refine rd_neD (H := H4) sh.1 sh.1 H4 (Ext.refl G H4) v u (dp_ext y4 tG rv) ru _ fun z H5 y5 rz => ⟨_, dp_bl rz, ?_⟩
  rw [sh.2]
  have y45 := y4.trans y5
  have L5 := L4.ext hPi hPl y45.wide (tabS_ext y45 tG hPi L4.tI)
  have yy := y23.trans y45.wide
  have tP := tabsP L2'.tG L2'.tI
  exact ⟨_, _, rfl, L5, k2.keep fun b o e nt _ => yy.at tP e nt, yy.at tP el2 (fun ps z => by cases z), fun b z e => yy.at tP (del_at hf (kp1 b z e) fun _ z => by cases z) (fun ps z => by cases z)⟩
end
end
end Rh
set_option Elab.async false
set_option linter.all false
set_option maxRecDepth 100000
set_option maxHeartbeats 1000000
/-! k34's law: one round, all rounds -/
namespace Rh
open PySem PySem.Spec PyProof.Rows L2 GxR Gx Dl LiI LamX TL
/-- what law calls -/
structure LF (P : Program) (w : World) (K : PySem.W.Frag) (mg : Str → Option Value) (base : Heap) (G : List Addr) (Pi : Addr) (cs : Cs) (Cd : Addr) : Prop where
  rs : Cl0 P w K mg base 2 "_law_rounds" (spRounds G K)
  ro : Cl0 P w K mg base 1 "_law_roll" (spRoll G)
  mkD : ∃ fi fdi, Mk K Cd fi ∧ FnOk P w K mg base CX0 2 fi fdi ["self", "ranks"] (spInit G K Cd) ∧ mg "Desk" = some (.ref Cd) ∧ Binds K fdi ["self", "ranks"] []
  chk : ClX P w K mg base 27 "check_term" (spE G K (R_chkE 12) cs.t)
  rul : ClX P w K mg base 29 "check_rules" (spE G K R_rul cs.r)
  rd : ClC NX P w K mg base 66 "read" (spR2 G K cs.x "place" R_rd)
  lk : ClC NX P w K mg base 3 "look_paper" (spR2 G K cs.p "part" R_look)
  un : ClX P w K mg base 31 "unified" (spE G K R_uni cs.n)
  en : ClX P w K mg base 44 "ended" (spEnd G K Pi cs.l)
  dk : DeskC K Cd
  dr : ∃ fx fd, Meth K Cd "drop" fx ∧ FnOk P w K mg base (L2.CX P w) 2 fx fd ["self", "k"] (spDrop G K Cd cs.d) ∧ Binds K fd ["self", "k"] []
  told : ∃ g gd, (∃ cg, FunC K "_law_told" "_law_told" s_told_law g gd cg) ∧ mg "_law_told" = some (.ref g) ∧ Binds K gd ["what"] []
  cso : CsOk mg cs
  k0 : Kin K cs cs.t [true, false, false, false, false, false, false, true]
  k1 : Kin K cs cs.r [false, true, false, false, false, false, false, true]
  k2 : Kin K cs cs.x [false, false, true, false, false, false, false, true]
  k3 : Kin K cs cs.p [false, false, false, true, false, false, false, true]
  k4 : Kin K cs cs.n [false, false, false, false, true, false, false, true]
  k5 : Kin K cs cs.l [false, false, false, false, false, true, false, true]
  k6 : Kin K cs cs.d [false, false, false, false, false, false, true, true]
  str : mg "str" = none
  len : mg "len" = none
  range : mg "range" = none
def spLaw (G : List Addr) (K : PySem.W.Frag) (Pi Pl : Addr) : Sp := fun vs H Q _ => ∃ (a : Addr) (ns : List Int), vs = [.ref a] ∧ SqL K H a (ns.map V.int) ∧ ns.length ≤ 63 ∧ (∀ z ∈ ns, z.natAbs.log2 < 2000000) ∧ TabsG G H ∧ H Pi = some (.tbl #[]) ∧ H Pl = some (.tbl #[]) ∧ ∀ H', Q (.bl true) H'
theorem drop_get {α : Type} {l : List α} {i : Nat} {x : α} (h : l[i]? = some x) : l.drop i = x :: l.drop (i + 1) := by
  obtain ⟨h1, h2⟩ := List.getElem?_eq_some_iff.mp h
  rw [List.drop_eq_getElem_cons h1, h2]
theorem len7 : ∀ {σ : L2.St}, σ.length = 7 → ∃ a0 a1 a2 a3 a4 a5 a6 : Option V, σ = [a0, a1, a2, a3, a4, a5, a6]
  | [a0, a1, a2, a3, a4, a5, a6], _ => ⟨a0, a1, a2, a3, a4, a5, a6, rfl⟩
theorem tabS_nil {H : Hp} {P : Addr} {q : Str} (h : H P = some (.tbl #[])) : LamX.TabS H P q := ⟨#[], h, trivial, fun p cv e => by cases e⟩
section
variable {P : Program} {w : World} {K : PySem.W.Frag} {mg : Str → Option Value} {base : Heap} {G : List Addr} {f Cd Pl Pi : Addr} {fd : FuncData} {cs : Cs}
section
variable {c : Addr} {A : Around} {outer : List Env} {s : Shared} {H0 : Hp} {E : XK} (F : LF P w K mg base G Pi cs Cd) (hr : Room 90 (XL P w K mg base f c A outer s H0 E).A)
include F hr
theorem sev (hPi : Pi ∉ G) : ∀ i, i < 7 → Sev (XL P w K mg base f c A outer s H0 E) G Pi Pl K Cd cs i
  | 0, _ => ⟨_, _, _, run0 F.chk, tell0 hPi, F.k0, by decide⟩
  | 1, _ => ⟨_, _, _, run1 F.rul F.str, tell1 hPi, F.k1, by decide⟩
  | 2, _ => ⟨_, _, _, run2 F.rd, tell2 hPi, F.k2, by decide⟩
  | 3, _ => ⟨_, _, _, run3 F.lk, tell3 hPi, F.k3, by decide⟩
  | 4, _ => ⟨_, _, _, run4 F.un F.str, tell4 hPi, F.k4, by decide⟩
  | 5, _ => ⟨_, _, _, run5 F.en, tell5 hPi, F.k5, by decide⟩
  | 6, _ => by
    obtain ⟨fx, fd, Mt, Fx, b⟩ := F.dr
    exact ⟨_, _, _, run6 F.dk Mt Fx b, tell6 hPi, F.k6, by decide⟩
  | n + 7, h => absurd h (by omega)
theorem round (TB : LamX.TabB base mg c Pl) (hPi : Pi ∉ G) (hPl : Pl ∉ Pi :: G) :
    ∃ t, PSs (XL P w K mg base f c A outer s H0 E) [forB 0, forB 1, forB 2] t ∧
    ∀ (En : Ends) (H : Hp) (D : Addr) (o0 o2 o3 o4 o5 o6 : Option V), TabsG G H → LamX.TabS H Pi qI → LamX.TabS H Pl qL → DiceAt 1100 H D →
      (∀ σ' H', σ'.length = 7 → TabsG G H' → LamX.TabS H' Pi qI → LamX.TabS H' Pl qL → (∀ b l, H b = some (.lst l) → b ≠ D → H' b = some (.lst l)) → En.nx σ' H') → t En [o0, some (.ref D), o2, o3, o4, o5, o6] H := by
  obtain ⟨fi, fdi, Mi, Ii, mC, bi⟩ := F.mkD
  obtain ⟨g, gd, FT, mT, bT⟩ := F.told
  obtain ⟨t0, h0, r0⟩ := st0 (f := f) (c := c) (outer := outer) (s := s) (H0 := H0) (E := E) F.ro Mi Ii mC bi hr
  obtain ⟨t1, h1, r1⟩ := st1 (P := P) (w := w) (K := K) (G := G) (C := Cd) (f := f) (A := A) (outer := outer) (s := s) (H0 := H0) (E := E) TB hPi hPl
  obtain ⟨t2, h2, r2⟩ := st2 (f := f) (c := c) (outer := outer) (s := s) (H0 := H0) (E := E) hPi hPl (sev F hr hPi) FT mT bT F.cso F.range F.len hr
  refine ⟨_, pss_cons h0 (pss_cons h1 (pss_one h2)), fun En H D o0 o2 o3 o4 o5 o6 tG tI tL hD q => ?_⟩
  obtain ⟨lD, eD⟩ := hD.new
  refine s_seq (r0 _ H D 1100 o0 o2 o3 o4 o5 o6 tG hD (by decide) fun n x H1 hn t1' kp1 dk => ?_)
  have keepS : ∀ {P : Addr} {q : Str}, P ∉ G → LamX.TabS H P q → LamX.TabS H1 P q := fun {P q} hP t => by
    obtain ⟨ps, e, tr, k⟩ := t
    have nD : P ≠ D := fun z => by rw [z, eD] at e; cases e
    refine ⟨ps, kp1 P _ (fun h => by
      rcases List.mem_cons.mp h with h | h
      · exact nD h
      · exact hP h) e, tr, fun p cv h => ?_⟩
    obtain ⟨c, ec, kc⟩ := k p cv h
    refine ⟨c, ec, kp1 c _ (fun h => ?_) kc⟩
    rcases List.mem_cons.mp h with h | h
    · rw [h, eD] at kc
      unfold LamX.CodeO at kc
      cases kc
    · exact notTab tG kc LamX.codeO_ne h
  have L1 : LSt G Pi Pl K Cd x H1 := ⟨t1', keepS hPi tI, keepS (fun h => hPl (List.mem_cons_of_mem _ h)) tL, dk⟩
  refine s_seq (r1 _ H1 x o0 _ o2 o3 _ _ o6 L1 fun l fs H2 h7 L2' k2 kp2 el => ?_)
  refine r2 _ H2 x l n fs o0 _ o3 o6 hn h7 L2' k2 el fun σ' H3 ln L3 kp3 => ?_
  refine q σ' H3 ln L3.tG L3.tI L3.tL fun b z e ne => kp3 b z (kp2 b _ (kp1 b _ (fun h => ?_) e) fun ps z => by cases z)
  rcases List.mem_cons.mp h with h | h
  · exact ne h
  · exact notTab tG e (fun ps z => by cases z) h
end
theorem ok_law (FL : FunC K "law" "law" s_law f fd c) (F : LF P w K mg base G Pi cs Cd) (TB : LamX.TabB base mg c Pl) (hPi : Pi ∉ G) (hPl : Pl ∉ Pi :: G) : FnOk P w K mg base CX0 91 f fd ["script"] (spLaw G K Pi Pl) := by
  obtain ⟨oc, od, kV, doc, pm, an, ct, osl, rfl, lk, hcd⟩ := FL.ex
  refine fn_of (k := 90) lk hcd sc_law (fun vs H Q E ⟨_, _, h, _⟩ => by rw [h]; rfl) fun A outer s H vs Q E hr hsp => ?_
  obtain ⟨a, ns, rfl, hS, h63, hb, tG, hI, hL, q⟩ := hsp
  obtain ⟨t, ht, rt⟩ := round (A := A) (outer := outer) (s := s) (H0 := H) (E := E) (f := f) (c := c) F hr TB hPi hPl
  refine ⟨_, PSs.nox (pss_cons (ps_for PassesOwn.never rfl (pi_list (pe_cl F.rs (hr.mono (by omega)) rfl (pa_cons (pv 0) (pa_cons pe_int pa_nil)))) (pg_name (i := 1) sc_law.nd rfl (Or.inl rfl)) ht) (pss_one (ps_ret pe_bl))), ?_⟩
  refine tcall2 (v := .ref a) (u := .int 3) (fun Q q => ⟨_, rfl, q⟩) (fun Q q => q) ?_
  refine ⟨tG, a, ns, rfl, hS, h63, hb, fun L ps H3 x3 eL nd hd => ?_⟩
  have t3 := tG.ext x3
  have e3 : H3 Pi = some (.tbl #[]) := x3.keep Pi hPi _ hI
  have e4 : H3 Pl = some (.tbl #[]) := x3.keep Pl (fun h => hPl (List.mem_cons_of_mem _ h)) _ hL
  refine ⟨L, rfl, ⟨_, SqL.of eL⟩, for_list (a := L) (xs := ps.map V.ref) (fun i σ' H' => σ'.length = 7 ∧ TabsG G H' ∧ LamX.TabS H' Pi qI ∧ LamX.TabS H' Pl qL ∧ H' L = some (.lst (ps.map V.ref)) ∧ ∀ p ∈ ps.drop i, DiceAt 1100 H' p) ?_ (fun i σ' H' _ z => SqL.of z.2.2.2.2.1) ?_ ?_⟩
  · exact ⟨rfl, t3, tabS_nil e3, tabS_nil e4, eL, fun p hp => hd p hp⟩
  · rintro i v σ' H' hv ⟨ln, tg, ti, ts, eL', hd'⟩
    rw [List.getElem?_map] at hv
    obtain ⟨D, hD, rfl⟩ := Option.map_eq_some_iff.mp hv
    have dr := drop_get hD
    have dD : DiceAt 1100 H' D := hd' D (by rw [dr]; exact List.mem_cons_self)
    have nD : D ∉ ps.drop (i + 1) := by
      have := nd.sublist (List.drop_sublist i ps)
      rw [dr] at this
      exact (List.nodup_cons.mp this).1
    obtain ⟨xa, xb, xc, eD, bD⟩ := id dD
    have hLD : L ≠ D := fun e => by
      rw [e, eD] at eL'
      match ps, hD, eL' with
      | [], hD, _ => cases hD
      | p :: r, _, eL' => cases eL'
    obtain ⟨a0, a1, a2, a3, a4, a5, a6, rfl⟩ := len7 ln
    refine rt _ H' D a0 a2 a3 a4 a5 a6 tg ti ts dD fun σ2 H6 l2 tg2 ti2 ts2 kp => ?_
    refine ⟨l2, tg2, ti2, ts2, kp L _ eL' hLD, fun p hp => ?_⟩
    obtain ⟨x, y, u, e, b⟩ := hd' p (by rw [dr]; exact List.mem_cons_of_mem _ hp)
    exact ⟨x, y, u, kp p _ e (fun e => nD (e ▸ hp)), b⟩
  · rintro σ' H' _
    exact q H'
end
end Rh
set_option Elab.async false
set_option linter.all false
set_option maxRecDepth 100000
set_option maxHeartbeats 2000000
namespace Rh
open PySem PySem.Spec PyProof.Rows L2 GxR Gx Dl LiI LamX
/-- an own exception class without __init__ -/
structure OwnE (K : PySem.W.Frag) (C : Addr) : Prop where
  q : PySem.W.excIn K C [.type "ValueError", .type "Exception", .type "BaseException", .type "object"] "ValueError.__new__" = true
  k : PySem.W.keepIn K (.ref C) = true
  s : PySem.W.subIn K (.ref C) (.type "BaseException") = some true
  t : PySem.W.typeIn K (.ref C) = some (.type "type")
theorem OwnE.mk' {K : PySem.W.Frag} {mg : Str → Option Value} {x : Str} {C : Addr} (o : OwnE K C) (g : mg x = some (.ref C)) (hd : (x == ("__debug__" : Str)) = false := by decide) : MkE K mg x C := fun {X m j p p2 pos} eK em hg => pmk_own PySem.F.excBase_ValueError (by rw [eK]; exact o.q) (by rw [em]; exact g) (by rw [eK]; exact o.k) (raises_own (by rw [eK]; exact o.s) (by rw [eK]; exact o.t)) hg (hdb := hd)
theorem deskC_mk {K : PySem.W.Frag} {C : Addr} (c : Cls K C) (n1 : PySem.W.findIn K (.ref C) "ranks" = some none) (n2 : PySem.W.findIn K (.ref C) "state" = some none) (n3 : PySem.W.findIn K (.ref C) "deeds" = some none) (n4 : PySem.W.findIn K (.ref C) "undone" = some none) : DeskC K C := ⟨c, n1, n2, n3, n4⟩
def MethF (K : PySem.W.Frag) (C : Addr) (x q : Str) (st : Stmt) (ps : List Str) : Prop := ∃ f fd c, FunC K x q st f fd c ∧ PySem.W.findIn K (.ref C) x = some (some (.ref f)) ∧ PySem.W.isFn K (.ref f) = true ∧ Binds K fd ps []
theorem methF_mk {K : PySem.W.Frag} {C : Addr} {x q : Str} {st : Stmt} {ps : List Str} {f c : Addr} {oc kV dc pm ct : Value} {od an : Option Addr} {sl : Array (Option Value)} (a : PySem.W.findIn K (.ref C) x = some (some (.ref f)))
    (l : K.lookup f = some ⟨oc, od, .func (PySem.W.fnOf x q (defArgs st) (defBody st) (defScope st) .none kV dc pm an (.ref c) ct), sl⟩) (cc : PySem.W.codeIn K (.ref c) q = true) (k : PySem.W.keepIn K (.ref f) = true) (i : PySem.W.isFn K (.ref f) = true)
    (hb : ∀ us : List Value, us.length = ps.length → bindArgs (PySem.W.fnOf x q (defArgs st) (defBody st) (defScope st) .none kV dc pm an (.ref c) ct) ⟨us, []⟩ = pure (ps.zip us)) : MethF K C x q st ps :=
  ⟨f, _, c, ⟨⟨_, _, _, _, _, _, _, _, rfl, l, cc⟩, k⟩, a, i, .all hb⟩
theorem law_at {l : PySem.W.OpenLaw} {w : World} {K : PySem.W.Frag} {h : Heap} {mg : Str → Option Value} {fa Cd CT CR CX CP CN CL CD CF : Addr} {f0 c0 P0 f1 c1 P1 f2 c2 P2 f3 c3 P3 f4 c4 P4 f5 c5 P5 f6 c6 P6 f7 c7 P7 f8 c8 P8 f9 c9 P9 f10 c10 P10 f11 c11 P11 f12 c12 P12 f13 c13 P13 f14 c14 P14 f15 c15 P15 f16 c16 P16 f17 c17 P17 f18 c18 P18 f19 c19 P19 f20 c20 P20 f21 c21 P21 f22 c22 P22 f23 c23 P23 f24 c24 P24 : Addr} {d0 d1 d2 d3 d4 d5 d6 d7 d8 d9 d10 d11 d12 d13 d14 d15 d16 d17 d18 d19 d20 d21 d22 d23 d24 : FuncData} (KX : K.In h) (hG : h.Ns mainGlobals mg) (hfa : mg "law" = some (.ref fa)) (nt : noTabs K = true)
    (D0 : DefT K mg h "is_variable" s_is_variable ["thing"] f0 d0 c0 P0)
    (D1 : DefT K mg h "is_term" s_is_term ["thing"] f1 d1 c1 P1)
    (D2 : DefT K mg h "check_term" s_check_term ["thing"] f2 d2 c2 P2)
    (D3 : DefT K mg h "variables" s_variables ["term"] f3 d3 c3 P3)
    (D4 : DefT K mg h "places" s_places ["term"] f4 d4 c4 P4)
    (D5 : DefT K mg h "sign_places" s_sign_places ["term"] f5 d5 c5 P5)
    (D6 : DefT K mg h "at" s_at ["term", "place"] f6 d6 c6 P6)
    (D7 : DefT K mg h "laid" s_laid ["term", "place", "other"] f7 d7 c7 P7)
    (D8 : DefT K mg h "put" s_put ["term", "table"] f8 d8 c8 P8)
    (D9 : DefT K mg h "matched" s_matched ["pattern", "term", "table"] f9 d9 c9 P9)
    (D10 : DefT K mg h "solve" s_solve ["pairs"] f10 d10 c10 P10)
    (D11 : DefT K mg h "unified" s_unified ["one", "other"] f11 d11 c11 P11)
    (D12 : DefT K mg h "skip" s_skip ["text", "k"] f12 d12 c12 P12)
    (D13 : DefT K mg h "term_at" s_term_at ["text", "k", "deep"] f13 d13 c13 P13)
    (D14 : DefT K mg h "read" s_read ["text"] f14 d14 c14 P14)
    (D15 : DefT K mg h "check_rules" s_check_rules ["rules"] f15 d15 c15 P15)
    (D16 : DefT K mg h "stepped" s_stepped ["term", "rules", "place"] f16 d16 c16 P16)
    (D17 : DefT K mg h "ended" s_ended ["term", "rules", "most", "inner"] f17 d17 c17 P17)
    (D18 : DefT K mg h "look_paper" s_look_paper ["equations", "one", "other", "paper"] f18 d18 c18 P18)
    (D19 : DefT K mg h "_law_dice" s_dice ["cell"] f19 d19 c19 P19)
    (D20 : DefT K mg h "_law_roll" s_roll ["dice", "many"] f20 d20 c20 P20)
    (D21 : DefT K mg h "_law_rounds" s_rounds ["script", "most"] f21 d21 c21 P21)
    (D22 : DefT K mg h "_law_told" s_told_law ["what"] f22 d22 c22 P22)
    (D23 : DefT K mg h "inner_first" s_inner_first ["term", "rules"] f23 d23 c23 P23)
    (D24 : DefT K mg h "law" s_law ["script"] f24 d24 c24 P24)
    (i0 : P23 ≠ P0)
    (i1 : P23 ≠ P1)
    (i2 : P23 ≠ P2)
    (i3 : P23 ≠ P3)
    (i4 : P23 ≠ P4)
    (i5 : P23 ≠ P5)
    (i6 : P23 ≠ P6)
    (i7 : P23 ≠ P7)
    (i8 : P23 ≠ P8)
    (i9 : P23 ≠ P9)
    (i10 : P23 ≠ P10)
    (i11 : P23 ≠ P11)
    (i12 : P23 ≠ P12)
    (i13 : P23 ≠ P13)
    (i14 : P23 ≠ P14)
    (i15 : P23 ≠ P15)
    (i16 : P23 ≠ P16)
    (i17 : P23 ≠ P17)
    (i18 : P23 ≠ P18)
    (i19 : P23 ≠ P19)
    (i20 : P23 ≠ P20)
    (i21 : P23 ≠ P21)
    (i22 : P23 ≠ P22)
    (n0 : P24 ≠ P0)
    (n1 : P24 ≠ P1)
    (n2 : P24 ≠ P2)
    (n3 : P24 ≠ P3)
    (n4 : P24 ≠ P4)
    (n5 : P24 ≠ P5)
    (n6 : P24 ≠ P6)
    (n7 : P24 ≠ P7)
    (n8 : P24 ≠ P8)
    (n9 : P24 ≠ P9)
    (n10 : P24 ≠ P10)
    (n11 : P24 ≠ P11)
    (n12 : P24 ≠ P12)
    (n13 : P24 ≠ P13)
    (n14 : P24 ≠ P14)
    (n15 : P24 ≠ P15)
    (n16 : P24 ≠ P16)
    (n17 : P24 ≠ P17)
    (n18 : P24 ≠ P18)
    (n19 : P24 ≠ P19)
    (n20 : P24 ≠ P20)
    (n21 : P24 ≠ P21)
    (n22 : P24 ≠ P22)
    (n23 : P24 ≠ P23)
    (m_isinstance : mg "isinstance" = none)
    (m_str : mg "str" = none)
    (m_all : mg "all" = none)
    (m_int : mg "int" = none)
    (m_tuple : mg "tuple" = none)
    (m_len : mg "len" = none)
    (m_abs : mg "abs" = none)
    (m_list : mg "list" = none)
    (m_range : mg "range" = none)
    (m_sorted : mg "sorted" = none)
    (m_enumerate : mg "enumerate" = none)
    (m_dict : mg "dict" = none)
    (m_zip : mg "zip" = none)
    (m_ValueError : mg "ValueError" = none)
    (gT : mg "BadTerm" = some (.ref CT))
    (gR : mg "BadRule" = some (.ref CR))
    (gX : mg "BadText" = some (.ref CX))
    (gP : mg "BadPaper" = some (.ref CP))
    (gN : mg "NoWay" = some (.ref CN))
    (gL : mg "TooLarge" = some (.ref CL))
    (gD : mg "BadDeed" = some (.ref CD))
    (gF : mg "RewriteFault" = some (.ref CF))
    (gK : mg "Desk" = some (.ref Cd)) (hSM : ∃ tks, mg "SMALL" = some (.str SMs tks)) (SX : Sup.SupK l.prog K mg CX "place") (SP : Sup.SupK l.prog K mg CP "part")
    (oT : OwnE K CT) (oR : OwnE K CR) (oN : OwnE K CN) (oL : OwnE K CL) (oD : OwnE K CD)
    (k0 : Kin K ⟨CT, CR, CX, CP, CN, CL, CD, CF⟩ CT [true, false, false, false, false, false, false, true])
    (k1 : Kin K ⟨CT, CR, CX, CP, CN, CL, CD, CF⟩ CR [false, true, false, false, false, false, false, true])
    (k2 : Kin K ⟨CT, CR, CX, CP, CN, CL, CD, CF⟩ CX [false, false, true, false, false, false, false, true])
    (k3 : Kin K ⟨CT, CR, CX, CP, CN, CL, CD, CF⟩ CP [false, false, false, true, false, false, false, true])
    (k4 : Kin K ⟨CT, CR, CX, CP, CN, CL, CD, CF⟩ CN [false, false, false, false, true, false, false, true])
    (k5 : Kin K ⟨CT, CR, CX, CP, CN, CL, CD, CF⟩ CL [false, false, false, false, false, true, false, true])
    (k6 : Kin K ⟨CT, CR, CX, CP, CN, CL, CD, CF⟩ CD [false, false, false, false, false, false, true, true])
    (dk : DeskC K Cd) (mk1 : PySem.W.makesIn K Cd = true) (mk4 : PySem.W.keepIn K (.ref Cd) = true) (hI : MethF K Cd "__init__" "Desk.__init__" (deskM 0) ["self", "ranks"]) (hD : MethF K Cd "drop" "Desk.drop" (deskM 5) ["self", "k"])
    (bl : ∀ (s : Shared) (u : Value), BindsTo s d24 ⟨[u], []⟩ [("script", u)]) :
    LamX.LawAtS l w K CX0 91 63 "script" mg fa h := by
  have ef := hfa.symm.trans D24.m
  cases ef
  have TC : ∀ p ∈ ([(c0, P0), (c1, P1), (c2, P2), (c3, P3), (c4, P4), (c5, P5), (c6, P6), (c7, P7), (c8, P8), (c9, P9), (c10, P10), (c11, P11), (c12, P12), (c13, P13), (c14, P14), (c15, P15), (c16, P16), (c17, P17), (c18, P18), (c19, P19), (c20, P20), (c21, P21), (c22, P22), (c23, P23), (c24, P24)] : List (Addr × Addr)), PySem.W.CodeHd h p.1 p.2 ∧ h.get? p.2 = some tab0 := by
    intro p hp
    simp only [List.mem_cons, List.not_mem_nil, or_false] at hp
    rcases hp with e | e | e | e | e | e | e | e | e | e | e | e | e | e | e | e | e | e | e | e | e | e | e | e | e
    · rw [e]; exact ⟨D0.C, D0.T⟩
    · rw [e]; exact ⟨D1.C, D1.T⟩
    · rw [e]; exact ⟨D2.C, D2.T⟩
    · rw [e]; exact ⟨D3.C, D3.T⟩
    · rw [e]; exact ⟨D4.C, D4.T⟩
    · rw [e]; exact ⟨D5.C, D5.T⟩
    · rw [e]; exact ⟨D6.C, D6.T⟩
    · rw [e]; exact ⟨D7.C, D7.T⟩
    · rw [e]; exact ⟨D8.C, D8.T⟩
    · rw [e]; exact ⟨D9.C, D9.T⟩
    · rw [e]; exact ⟨D10.C, D10.T⟩
    · rw [e]; exact ⟨D11.C, D11.T⟩
    · rw [e]; exact ⟨D12.C, D12.T⟩
    · rw [e]; exact ⟨D13.C, D13.T⟩
    · rw [e]; exact ⟨D14.C, D14.T⟩
    · rw [e]; exact ⟨D15.C, D15.T⟩
    · rw [e]; exact ⟨D16.C, D16.T⟩
    · rw [e]; exact ⟨D17.C, D17.T⟩
    · rw [e]; exact ⟨D18.C, D18.T⟩
    · rw [e]; exact ⟨D19.C, D19.T⟩
    · rw [e]; exact ⟨D20.C, D20.T⟩
    · rw [e]; exact ⟨D21.C, D21.T⟩
    · rw [e]; exact ⟨D22.C, D22.T⟩
    · rw [e]; exact ⟨D23.C, D23.T⟩
    · rw [e]; exact ⟨D24.C, D24.T⟩
  refine ⟨d24, [(c0, P0), (c1, P1), (c2, P2), (c3, P3), (c4, P4), (c5, P5), (c6, P6), (c7, P7), (c8, P8), (c9, P9), (c10, P10), (c11, P11), (c12, P12), (c13, P13), (c14, P14), (c15, P15), (c16, P16), (c17, P17), (c18, P18), (c19, P19), (c20, P20), (c21, P21), (c22, P22), (c23, P23), (c24, P24)], spLaw [P0, P1, P2, P3, P4, P5, P6, P7, P8, P9, P10, P11, P12, P13, P14, P15, P16, P17, P18, P19, P20, P21, P22] K P23 P24, fun p hp => (TC p hp).2, fun p hp => noTab KX nt (TC p hp).2, fun p hp => (TC p hp).1, bl, fun H a ns hl hb hT hS => ?_, fun base KB BN TB => ?_⟩
  · refine ⟨a, ns, rfl, hS, hl, fun z hz => log2_bits (hb z hz), fun P hP => ?_, hT (c23, P23) (by simp), hT (c24, P24) (by simp), fun _ => rfl⟩
    simp only [List.mem_cons, List.not_mem_nil, or_false] at hP
    rcases hP with e | e | e | e | e | e | e | e | e | e | e | e | e | e | e | e | e | e | e | e | e | e | e
    · exact ⟨#[], e ▸ hT (c0, P0) (by simp), trivial⟩
    · exact ⟨#[], e ▸ hT (c1, P1) (by simp), trivial⟩
    · exact ⟨#[], e ▸ hT (c2, P2) (by simp), trivial⟩
    · exact ⟨#[], e ▸ hT (c3, P3) (by simp), trivial⟩
    · exact ⟨#[], e ▸ hT (c4, P4) (by simp), trivial⟩
    · exact ⟨#[], e ▸ hT (c5, P5) (by simp), trivial⟩
    · exact ⟨#[], e ▸ hT (c6, P6) (by simp), trivial⟩
    · exact ⟨#[], e ▸ hT (c7, P7) (by simp), trivial⟩
    · exact ⟨#[], e ▸ hT (c8, P8) (by simp), trivial⟩
    · exact ⟨#[], e ▸ hT (c9, P9) (by simp), trivial⟩
    · exact ⟨#[], e ▸ hT (c10, P10) (by simp), trivial⟩
    · exact ⟨#[], e ▸ hT (c11, P11) (by simp), trivial⟩
    · exact ⟨#[], e ▸ hT (c12, P12) (by simp), trivial⟩
    · exact ⟨#[], e ▸ hT (c13, P13) (by simp), trivial⟩
    · exact ⟨#[], e ▸ hT (c14, P14) (by simp), trivial⟩
    · exact ⟨#[], e ▸ hT (c15, P15) (by simp), trivial⟩
    · exact ⟨#[], e ▸ hT (c16, P16) (by simp), trivial⟩
    · exact ⟨#[], e ▸ hT (c17, P17) (by simp), trivial⟩
    · exact ⟨#[], e ▸ hT (c18, P18) (by simp), trivial⟩
    · exact ⟨#[], e ▸ hT (c19, P19) (by simp), trivial⟩
    · exact ⟨#[], e ▸ hT (c20, P20) (by simp), trivial⟩
    · exact ⟨#[], e ▸ hT (c21, P21) (by simp), trivial⟩
    · exact ⟨#[], e ▸ hT (c22, P22) (by simp), trivial⟩
  have E0 := D0.f (G := [P0, P1, P2, P3, P4, P5, P6, P7, P8, P9, P10, P11, P12, P13, P14, P15, P16, P17, P18, P19, P20, P21, P22]) TB (by simp) (by simp)
  have E1 := D1.f (G := [P0, P1, P2, P3, P4, P5, P6, P7, P8, P9, P10, P11, P12, P13, P14, P15, P16, P17, P18, P19, P20, P21, P22]) TB (by simp) (by simp)
  have E2 := D2.f (G := [P0, P1, P2, P3, P4, P5, P6, P7, P8, P9, P10, P11, P12, P13, P14, P15, P16, P17, P18, P19, P20, P21, P22]) TB (by simp) (by simp)
  have E3 := D3.f (G := [P0, P1, P2, P3, P4, P5, P6, P7, P8, P9, P10, P11, P12, P13, P14, P15, P16, P17, P18, P19, P20, P21, P22]) TB (by simp) (by simp)
  have E4 := D4.f (G := [P0, P1, P2, P3, P4, P5, P6, P7, P8, P9, P10, P11, P12, P13, P14, P15, P16, P17, P18, P19, P20, P21, P22]) TB (by simp) (by simp)
  have E5 := D5.f (G := [P0, P1, P2, P3, P4, P5, P6, P7, P8, P9, P10, P11, P12, P13, P14, P15, P16, P17, P18, P19, P20, P21, P22]) TB (by simp) (by simp)
  have E6 := D6.f (G := [P0, P1, P2, P3, P4, P5, P6, P7, P8, P9, P10, P11, P12, P13, P14, P15, P16, P17, P18, P19, P20, P21, P22]) TB (by simp) (by simp)
  have E7 := D7.f (G := [P0, P1, P2, P3, P4, P5, P6, P7, P8, P9, P10, P11, P12, P13, P14, P15, P16, P17, P18, P19, P20, P21, P22]) TB (by simp) (by simp)
  have E8 := D8.f (G := [P0, P1, P2, P3, P4, P5, P6, P7, P8, P9, P10, P11, P12, P13, P14, P15, P16, P17, P18, P19, P20, P21, P22]) TB (by simp) (by simp)
  have E9 := D9.f (G := [P0, P1, P2, P3, P4, P5, P6, P7, P8, P9, P10, P11, P12, P13, P14, P15, P16, P17, P18, P19, P20, P21, P22]) TB (by simp) (by simp)
  have E10 := D10.f (G := [P0, P1, P2, P3, P4, P5, P6, P7, P8, P9, P10, P11, P12, P13, P14, P15, P16, P17, P18, P19, P20, P21, P22]) TB (by simp) (by simp)
  have E11 := D11.f (G := [P0, P1, P2, P3, P4, P5, P6, P7, P8, P9, P10, P11, P12, P13, P14, P15, P16, P17, P18, P19, P20, P21, P22]) TB (by simp) (by simp)
  have E12 := D12.f (G := [P0, P1, P2, P3, P4, P5, P6, P7, P8, P9, P10, P11, P12, P13, P14, P15, P16, P17, P18, P19, P20, P21, P22]) TB (by simp) (by simp)
  have E13 := D13.f (G := [P0, P1, P2, P3, P4, P5, P6, P7, P8, P9, P10, P11, P12, P13, P14, P15, P16, P17, P18, P19, P20, P21, P22]) TB (by simp) (by simp)
  have E14 := D14.f (G := [P0, P1, P2, P3, P4, P5, P6, P7, P8, P9, P10, P11, P12, P13, P14, P15, P16, P17, P18, P19, P20, P21, P22]) TB (by simp) (by simp)
  have E15 := D15.f (G := [P0, P1, P2, P3, P4, P5, P6, P7, P8, P9, P10, P11, P12, P13, P14, P15, P16, P17, P18, P19, P20, P21, P22]) TB (by simp) (by simp)
  have E16 := D16.f (G := [P0, P1, P2, P3, P4, P5, P6, P7, P8, P9, P10, P11, P12, P13, P14, P15, P16, P17, P18, P19, P20, P21, P22]) TB (by simp) (by simp)
  have E17 := D17.f (G := [P0, P1, P2, P3, P4, P5, P6, P7, P8, P9, P10, P11, P12, P13, P14, P15, P16, P17, P18, P19, P20, P21, P22]) TB (by simp) (by simp)
  have E18 := D18.f (G := [P0, P1, P2, P3, P4, P5, P6, P7, P8, P9, P10, P11, P12, P13, P14, P15, P16, P17, P18, P19, P20, P21, P22]) TB (by simp) (by simp)
  have E19 := D19.f (G := [P0, P1, P2, P3, P4, P5, P6, P7, P8, P9, P10, P11, P12, P13, P14, P15, P16, P17, P18, P19, P20, P21, P22]) TB (by simp) (by simp)
  have E20 := D20.f (G := [P0, P1, P2, P3, P4, P5, P6, P7, P8, P9, P10, P11, P12, P13, P14, P15, P16, P17, P18, P19, P20, P21, P22]) TB (by simp) (by simp)
  have E21 := D21.f (G := [P0, P1, P2, P3, P4, P5, P6, P7, P8, P9, P10, P11, P12, P13, P14, P15, P16, P17, P18, P19, P20, P21, P22]) TB (by simp) (by simp)
  have E22 := D22.f (G := [P0, P1, P2, P3, P4, P5, P6, P7, P8, P9, P10, P11, P12, P13, P14, P15, P16, P17, P18, P19, P20, P21, P22]) TB (by simp) (by simp)
  have hPi : P23 ∉ ([P0, P1, P2, P3, P4, P5, P6, P7, P8, P9, P10, P11, P12, P13, P14, P15, P16, P17, P18, P19, P20, P21, P22] : List Addr) := by simp [i0, i1, i2, i3, i4, i5, i6, i7, i8, i9, i10, i11, i12, i13, i14, i15, i16, i17, i18, i19, i20, i21, i22]
  have hPl : P24 ∉ (P23 :: [P0, P1, P2, P3, P4, P5, P6, P7, P8, P9, P10, P11, P12, P13, P14, P15, P16, P17, P18, P19, P20, P21, P22] : List Addr) := by simp [n0, n1, n2, n3, n4, n5, n6, n7, n8, n9, n10, n11, n12, n13, n14, n15, n16, n17, n18, n19, n20, n21, n22, n23]
  have iv := cl_iv (P := l.prog) (w := w) E0 m_isinstance m_str m_all
  have ivA := cl_ivA (P := l.prog) (w := w) E0 m_isinstance m_str m_all
  obtain ⟨tks, hSM⟩ := hSM
  have it := cl_is_term E1 ivA m_isinstance m_str m_all m_tuple m_len 12
  have va := cl_variables E3 iv m_tuple m_sorted 12
  have pl := cl_places E4 iv m_tuple m_enumerate 12
  have at_ := cl_at E6 iv m_len
  have pu := cl_put E8 iv m_tuple 12
  have sp := cl_sign_places E5 iv pl at_ m_tuple
  have la := cl_laid E7 iv m_len 30
  have ma := cl_matched E9 iv m_dict m_list m_len m_zip 12
  have so := cl_solve E10 iv pu va m_list
  have un := clx_unified E11 so (oN.mk' gN)
  have sk := cl_skip (P := l.prog) (w := w)  (K := K) E12 m_len
  have ta := cl_ta E13 iv sk m_len m_tuple hSM SX gX 62
  have rd := cl_rd E14 ta sk m_len m_isinstance m_str SX gX
  have ck := cl_check (n := 12) E2 it
  have cx := clx_check (n := 12) (CB := CT) E2 it (oT.mk' gT)
  have ru := clx_rules E15 iv ck m_isinstance m_tuple m_len (oR.mk' gR)
  have st := cl_stepped E16 iv at_ (ma.mono (by decide)) pu la m_enumerate
  have inn := cl_inner D23.F (TB (c23, P23) (by simp)) D23.m D23.b hPi st sp m_sorted m_tuple
  have en := clx_ended E17 hPi inn (oL.mk' gL)
  have lk := clc_look (P := l.prog) (w := w) (base := base) E18 m_len SP gP
  have di := cl_dice (P := l.prog) (w := w) E19 m_abs m_int
  have rl := cl_roll (P := l.prog) (w := w) E20 m_int
  have ro := cl_rounds (K := K) E21 di
  obtain ⟨fI, fdI, cI, FI, aI, nI, bI⟩ := hI
  obtain ⟨fD, fdD, cD, FD, aD, nD, bD⟩ := hD
  have xi := fx_init (P := l.prog) (w := w) (mg := mg) (base := base) (G := [P0, P1, P2, P3, P4, P5, P6, P7, P8, P9, P10, P11, P12, P13, P14, P15, P16, P17, P18, P19, P20, P21, P22]) FI dk m_dict
  have xd := fx_drop (P := l.prog) (w := w) (mg := mg) (base := base) (G := [P0, P1, P2, P3, P4, P5, P6, P7, P8, P9, P10, P11, P12, P13, P14, P15, P16, P17, P18, P19, P20, P21, P22]) FD dk m_len (oD.mk' gD)
  exact ok_law (cs := ⟨CT, CR, CX, CP, CN, CL, CD, CF⟩) D24.F ⟨ro, rl, ⟨fI, fdI, ⟨mk1, aI, nI, mk4⟩, xi, gK, bI⟩, cx, ru, rd, lk, un, en, dk, ⟨fD, fdD, ⟨aD, nD, FD.kp⟩, xd, bD⟩, ⟨f22, d22, ⟨c22, D22.F⟩, D22.m, D22.b⟩, ⟨gT, gR, gX, gP, gN, gL, gD, gF, m_isinstance, m_ValueError⟩, k0, k1, k2, k3, k4, k5, k6, m_str, m_len, m_range⟩ (TB (c24, P24) (by simp)) hPi hPl
end Rh
open PySem PySem.W PyProof.Rows
set_option Elab.async false
set_option pp.maxSteps 400
set_option maxRecDepth 100000 in
set_option maxHeartbeats 0 in
theorem PySem.Challenge.cw_rewritehall_k34_refusals_apart_holds : PySem.Challenge.rw_rewritehall_k34_refusals_apart.Holds := by
  w_on; o_law; k_head; (case hw => w_witness2)
  k_fill
  refine Dl.walk_tabs (l := PySem.Challenge.rw_rewritehall_k34_refusals_apart) (n := 63) (k := 91) (x := "script") (CX := fun _ => L2.CX0) rfl (by decide) rfl ⟨rfl, by decide, by decide⟩ (fun w h Y => by first | exact PySem.W.km_in_of Y | exact PySem.W.kIn_of Y) ?F fun _ _ _ _ _ z => z
  case F =>
    intro w mg fa h KX G hmg T
    have D0 := Dl.defT_mk (x := "is_variable") (st := Rh.s_is_variable) (ps := ["thing"]) KX G T (by kernel_rfl) (by k_is) (by k_is) (by k_is) (by k_is) (by k_is) (by rfl) fun us hl => match us, hl with | [_], _ => rfl
    have D1 := Dl.defT_mk (x := "is_term") (st := Rh.s_is_term) (ps := ["thing"]) KX G T (by kernel_rfl) (by k_is) (by k_is) (by k_is) (by k_is) (by k_is) (by rfl) fun us hl => match us, hl with | [_], _ => rfl
    have D2 := Dl.defT_mk (x := "check_term") (st := Rh.s_check_term) (ps := ["thing"]) KX G T (by kernel_rfl) (by k_is) (by k_is) (by k_is) (by k_is) (by k_is) (by rfl) fun us hl => match us, hl with | [_], _ => rfl
    have D3 := Dl.defT_mk (x := "variables") (st := Rh.s_variables) (ps := ["term"]) KX G T (by kernel_rfl) (by k_is) (by k_is) (by k_is) (by k_is) (by k_is) (by rfl) fun us hl => match us, hl with | [_], _ => rfl
    have D4 := Dl.defT_mk (x := "places") (st := Rh.s_places) (ps := ["term"]) KX G T (by kernel_rfl) (by k_is) (by k_is) (by k_is) (by k_is) (by k_is) (by rfl) fun us hl => match us, hl with | [_], _ => rfl
    have D5 := Dl.defT_mk (x := "sign_places") (st := Rh.s_sign_places) (ps := ["term"]) KX G T (by kernel_rfl) (by k_is) (by k_is) (by k_is) (by k_is) (by k_is) (by rfl) fun us hl => match us, hl with | [_], _ => rfl
    have D6 := Dl.defT_mk (x := "at") (st := Rh.s_at) (ps := ["term", "place"]) KX G T (by kernel_rfl) (by k_is) (by k_is) (by k_is) (by k_is) (by k_is) (by rfl) fun us hl => match us, hl with | [_, _], _ => rfl
    have D7 := Dl.defT_mk (x := "laid") (st := Rh.s_laid) (ps := ["term", "place", "other"]) KX G T (by kernel_rfl) (by k_is) (by k_is) (by k_is) (by k_is) (by k_is) (by rfl) fun us hl => match us, hl with | [_, _, _], _ => rfl
    have D8 := Dl.defT_mk (x := "put") (st := Rh.s_put) (ps := ["term", "table"]) KX G T (by kernel_rfl) (by k_is) (by k_is) (by k_is) (by k_is) (by k_is) (by rfl) fun us hl => match us, hl with | [_, _], _ => rfl
    have D9 := Dl.defT_mk (x := "matched") (st := Rh.s_matched) (ps := ["pattern", "term", "table"]) KX G T (by kernel_rfl) (by k_is) (by k_is) (by k_is) (by k_is) (by k_is) (by rfl) fun us hl => match us, hl with | [_, _, _], _ => rfl
    have D10 := Dl.defT_mk (x := "solve") (st := Rh.s_solve) (ps := ["pairs"]) KX G T (by kernel_rfl) (by k_is) (by k_is) (by k_is) (by k_is) (by k_is) (by rfl) fun us hl => match us, hl with | [_], _ => rfl
    have D11 := Dl.defT_mk (x := "unified") (st := Rh.s_unified) (ps := ["one", "other"]) KX G T (by kernel_rfl) (by k_is) (by k_is) (by k_is) (by k_is) (by k_is) (by rfl) fun us hl => match us, hl with | [_, _], _ => rfl
    have D12 := Dl.defT_mk (x := "skip") (st := Rh.s_skip) (ps := ["text", "k"]) KX G T (by kernel_rfl) (by k_is) (by k_is) (by k_is) (by k_is) (by k_is) (by rfl) fun us hl => match us, hl with | [_, _], _ => rfl
    have D13 := Dl.defT_mk (x := "term_at") (st := Rh.s_term_at) (ps := ["text", "k", "deep"]) KX G T (by kernel_rfl) (by k_is) (by k_is) (by k_is) (by k_is) (by k_is) (by rfl) fun us hl => match us, hl with | [_, _, _], _ => rfl
    have D14 := Dl.defT_mk (x := "read") (st := Rh.s_read) (ps := ["text"]) KX G T (by kernel_rfl) (by k_is) (by k_is) (by k_is) (by k_is) (by k_is) (by rfl) fun us hl => match us, hl with | [_], _ => rfl
    have D15 := Dl.defT_mk (x := "check_rules") (st := Rh.s_check_rules) (ps := ["rules"]) KX G T (by kernel_rfl) (by k_is) (by k_is) (by k_is) (by k_is) (by k_is) (by rfl) fun us hl => match us, hl with | [_], _ => rfl
    have D16 := Dl.defT_mk (x := "stepped") (st := Rh.s_stepped) (ps := ["term", "rules", "place"]) KX G T (by kernel_rfl) (by k_is) (by k_is) (by k_is) (by k_is) (by k_is) (by rfl) fun us hl => match us, hl with | [_, _, _], _ => rfl
    have D17 := Dl.defT_mk (x := "ended") (st := Rh.s_ended) (ps := ["term", "rules", "most", "inner"]) KX G T (by kernel_rfl) (by k_is) (by k_is) (by k_is) (by k_is) (by k_is) (by rfl) fun us hl => match us, hl with | [_, _, _, _], _ => rfl
    have D18 := Dl.defT_mk (x := "look_paper") (st := Rh.s_look_paper) (ps := ["equations", "one", "other", "paper"]) KX G T (by kernel_rfl) (by k_is) (by k_is) (by k_is) (by k_is) (by k_is) (by rfl) fun us hl => match us, hl with | [_, _, _, _], _ => rfl
    have D19 := Dl.defT_mk (x := "_law_dice") (st := Rh.s_dice) (ps := ["cell"]) KX G T (by kernel_rfl) (by k_is) (by k_is) (by k_is) (by k_is) (by k_is) (by rfl) fun us hl => match us, hl with | [_], _ => rfl
    have D20 := Dl.defT_mk (x := "_law_roll") (st := Rh.s_roll) (ps := ["dice", "many"]) KX G T (by kernel_rfl) (by k_is) (by k_is) (by k_is) (by k_is) (by k_is) (by rfl) fun us hl => match us, hl with | [_, _], _ => rfl
    have D21 := Dl.defT_mk (x := "_law_rounds") (st := Rh.s_rounds) (ps := ["script", "most"]) KX G T (by kernel_rfl) (by k_is) (by k_is) (by k_is) (by k_is) (by k_is) (by rfl) fun us hl => match us, hl with | [_, _], _ => rfl
    have D22 := Dl.defT_mk (x := "_law_told") (st := Rh.s_told_law) (ps := ["what"]) KX G T (by kernel_rfl) (by k_is) (by k_is) (by k_is) (by k_is) (by k_is) (by rfl) fun us hl => match us, hl with | [_], _ => rfl
    have D23 := Dl.defT_mk (x := "inner_first") (st := Rh.s_inner_first) (ps := ["term", "rules"]) KX G T (by kernel_rfl) (by k_is) (by k_is) (by k_is) (by k_is) (by k_is) (by rfl) fun us hl => match us, hl with | [_, _], _ => rfl
    have D24 := Dl.defT_mk (x := "law") (st := Rh.s_law) (ps := ["script"]) KX G T (by kernel_rfl) (by k_is) (by k_is) (by k_is) (by k_is) (by k_is) (by rfl) fun us hl => match us, hl with | [_], _ => rfl
    have gT := mg_of (n := ("BadTerm" : PySem.Str)) KX G (by k_is)
    have gR := mg_of (n := ("BadRule" : PySem.Str)) KX G (by k_is)
    have gX := mg_of (n := ("BadText" : PySem.Str)) KX G (by k_is)
    have gP := mg_of (n := ("BadPaper" : PySem.Str)) KX G (by k_is)
    have gN := mg_of (n := ("NoWay" : PySem.Str)) KX G (by k_is)
    have gL := mg_of (n := ("TooLarge" : PySem.Str)) KX G (by k_is)
    have gD := mg_of (n := ("BadDeed" : PySem.Str)) KX G (by k_is)
    have gF := mg_of (n := ("RewriteFault" : PySem.Str)) KX G (by k_is)
    have gK := mg_of (n := ("Desk" : PySem.Str)) KX G (by k_is)
    have hSM : ∃ tks, mg "SMALL" = some (.str Rh.SMs tks) := by first | exact ⟨_, mg_of KX G (by k_is)⟩ | exact ⟨0, mg_of KX G (by k_is)⟩ | exact ⟨_, mg_of KX G (by rfl)⟩
    refine' Rh.law_at (l := PySem.Challenge.rw_rewritehall_k34_refusals_apart) KX G hmg (by kernel_rfl) D0 D1 D2 D3 D4 D5 D6 D7 D8 D9 D10 D11 D12 D13 D14 D15 D16 D17 D18 D19 D20 D21 D22 D23 D24 (by decide) (by decide) (by decide) (by decide) (by decide) (by decide) (by decide) (by decide) (by decide) (by decide) (by decide) (by decide) (by decide) (by decide) (by decide) (by decide) (by decide) (by decide) (by decide) (by decide) (by decide) (by decide) (by decide) (by decide) (by decide) (by decide) (by decide) (by decide) (by decide) (by decide) (by decide) (by decide) (by decide) (by decide) (by decide) (by decide) (by decide) (by decide) (by decide) (by decide) (by decide) (by decide) (by decide) (by decide) (by decide) (by decide) (by decide) ?m0 ?m1 ?m2 ?m3 ?m4 ?m5 ?m6 ?m7 ?m8 ?m9 ?m10 ?m11 ?m12 ?m13 gT gR gX gP gN gL gD gF gK hSM ?SX ?SP ?oT ?oR ?oN ?oL ?oD ?k0 ?k1 ?k2 ?k3 ?k4 ?k5 ?k6 ?dk ?mk1 ?mk4 ?hI ?hD (fun s u => .of_eq rfl)
    (case m0 => exact mg_none_of KX G (by k_is))
    (case m1 => exact mg_none_of KX G (by k_is))
    (case m2 => exact mg_none_of KX G (by k_is))
    (case m3 => exact mg_none_of KX G (by k_is))
    (case m4 => exact mg_none_of KX G (by k_is))
    (case m5 => exact mg_none_of KX G (by k_is))
    (case m6 => exact mg_none_of KX G (by k_is))
    (case m7 => exact mg_none_of KX G (by k_is))
    (case m8 => exact mg_none_of KX G (by k_is))
    (case m9 => exact mg_none_of KX G (by k_is))
    (case m10 => exact mg_none_of KX G (by k_is))
    (case m11 => exact mg_none_of KX G (by k_is))
    (case m12 => exact mg_none_of KX G (by k_is))
    (case m13 => exact mg_none_of KX G (by k_is))
    case SX =>
      clear D0 D1 D2 D3 D4 D5 D6 D7 D8 D9 D10 D11 D12 D13 D14 D15 D16 D17 D18 D19 D20 D21 D22 D23 D24
      exact ⟨⟨_, _, _, _, _, _, _, _, _, _, _, _, _, _, _, by k_is, by kernel_rfl⟩, by k_is, by k_is, by k_is, by k_is, by k_is, ⟨_, _, _, _, _, _, _, _, _, _, _, _, _, _, _, _, _, _, _, _, _, _, _, _, _, _, _, _, _, _, _, _, _, _, _, _, by k_is, by k_is, by k_is, by k_is, by k_is, by rfl, by kernel_rfl, by k_is, by rfl, by rfl, ⟨by rfl, by rfl, by rfl, by rfl⟩, fun L => ⟨_, by rfl⟩, fun s e u => .of_eq (by rfl)⟩, by k_is, by ks_is, by k_is, by k_is, mg_none_of KX G (by k_is), by kernel_rfl, by rfl, by decide⟩
    case SP =>
      clear D0 D1 D2 D3 D4 D5 D6 D7 D8 D9 D10 D11 D12 D13 D14 D15 D16 D17 D18 D19 D20 D21 D22 D23 D24
      exact ⟨⟨_, _, _, _, _, _, _, _, _, _, _, _, _, _, _, by k_is, by kernel_rfl⟩, by k_is, by k_is, by k_is, by k_is, by k_is, ⟨_, _, _, _, _, _, _, _, _, _, _, _, _, _, _, _, _, _, _, _, _, _, _, _, _, _, _, _, _, _, _, _, _, _, _, _, by k_is, by k_is, by k_is, by k_is, by k_is, by rfl, by kernel_rfl, by k_is, by rfl, by rfl, ⟨by rfl, by rfl, by rfl, by rfl⟩, fun L => ⟨_, by rfl⟩, fun s e u => .of_eq (by rfl)⟩, by k_is, by ks_is, by k_is, by k_is, mg_none_of KX G (by k_is), by kernel_rfl, by rfl, by decide⟩
    case oT => exact ⟨by kernel_rfl, by k_is, by k_is, by k_is⟩
    case oR => exact ⟨by kernel_rfl, by k_is, by k_is, by k_is⟩
    case oN => exact ⟨by kernel_rfl, by k_is, by k_is, by k_is⟩
    case oL => exact ⟨by kernel_rfl, by k_is, by k_is, by k_is⟩
    case oD => exact ⟨by kernel_rfl, by k_is, by k_is, by k_is⟩
    case k0 => exact ⟨⟨by k_is, by k_is, by k_is, by k_is, by k_is, by k_is, by k_is, by k_is⟩, Dl.exm_mk (by k_is) (by k_is) (by k_is) (by k_is), by first | kernel_rfl | k_is, by first | kernel_rfl | k_is, by first | kernel_rfl | k_is, by first | kernel_rfl | k_is, by first | kernel_rfl | k_is, by first | kernel_rfl | k_is, by first | kernel_rfl | k_is, by first | kernel_rfl | k_is⟩
    case k1 => exact ⟨⟨by k_is, by k_is, by k_is, by k_is, by k_is, by k_is, by k_is, by k_is⟩, Dl.exm_mk (by k_is) (by k_is) (by k_is) (by k_is), by first | kernel_rfl | k_is, by first | kernel_rfl | k_is, by first | kernel_rfl | k_is, by first | kernel_rfl | k_is, by first | kernel_rfl | k_is, by first | kernel_rfl | k_is, by first | kernel_rfl | k_is, by first | kernel_rfl | k_is⟩
    case k2 => exact ⟨⟨by k_is, by k_is, by k_is, by k_is, by k_is, by k_is, by k_is, by k_is⟩, Dl.exm_mk (by k_is) (by k_is) (by k_is) (by k_is), by first | kernel_rfl | k_is, by first | kernel_rfl | k_is, by first | kernel_rfl | k_is, by first | kernel_rfl | k_is, by first | kernel_rfl | k_is, by first | kernel_rfl | k_is, by first | kernel_rfl | k_is, by first | kernel_rfl | k_is⟩
    case k3 => exact ⟨⟨by k_is, by k_is, by k_is, by k_is, by k_is, by k_is, by k_is, by k_is⟩, Dl.exm_mk (by k_is) (by k_is) (by k_is) (by k_is), by first | kernel_rfl | k_is, by first | kernel_rfl | k_is, by first | kernel_rfl | k_is, by first | kernel_rfl | k_is, by first | kernel_rfl | k_is, by first | kernel_rfl | k_is, by first | kernel_rfl | k_is, by first | kernel_rfl | k_is⟩
    case k4 => exact ⟨⟨by k_is, by k_is, by k_is, by k_is, by k_is, by k_is, by k_is, by k_is⟩, Dl.exm_mk (by k_is) (by k_is) (by k_is) (by k_is), by first | kernel_rfl | k_is, by first | kernel_rfl | k_is, by first | kernel_rfl | k_is, by first | kernel_rfl | k_is, by first | kernel_rfl | k_is, by first | kernel_rfl | k_is, by first | kernel_rfl | k_is, by first | kernel_rfl | k_is⟩
    case k5 => exact ⟨⟨by k_is, by k_is, by k_is, by k_is, by k_is, by k_is, by k_is, by k_is⟩, Dl.exm_mk (by k_is) (by k_is) (by k_is) (by k_is), by first | kernel_rfl | k_is, by first | kernel_rfl | k_is, by first | kernel_rfl | k_is, by first | kernel_rfl | k_is, by first | kernel_rfl | k_is, by first | kernel_rfl | k_is, by first | kernel_rfl | k_is, by first | kernel_rfl | k_is⟩
    case k6 => exact ⟨⟨by k_is, by k_is, by k_is, by k_is, by k_is, by k_is, by k_is, by k_is⟩, Dl.exm_mk (by k_is) (by k_is) (by k_is) (by k_is), by first | kernel_rfl | k_is, by first | kernel_rfl | k_is, by first | kernel_rfl | k_is, by first | kernel_rfl | k_is, by first | kernel_rfl | k_is, by first | kernel_rfl | k_is, by first | kernel_rfl | k_is, by first | kernel_rfl | k_is⟩
    case dk => exact Rh.deskC_mk ⟨by k_is, by k_is, by k_is, by k_is⟩ (by k_is) (by k_is) (by k_is) (by k_is)
    case mk1 => k_is
    case mk4 => k_is
    case hI =>
      clear D0 D1 D2 D3 D4 D5 D6 D7 D8 D9 D10 D11 D12 D13 D14 D15 D16 D17 D18 D19 D20 D21 D22 D23 D24
      exact Rh.methF_mk (by k_is) (by k_is) (by k_is) (by k_is) (by k_is) fun us hl => match us, hl with | [_, _], _ => rfl
    case hD =>
      clear D0 D1 D2 D3 D4 D5 D6 D7 D8 D9 D10 D11 D12 D13 D14 D15 D16 D17 D18 D19 D20 D21 D22 D23 D24
      exact Rh.methF_mk (by k_is) (by k_is) (by k_is) (by k_is) (by k_is) fun us hl => match us, hl with | [_, _], _ => rfl
