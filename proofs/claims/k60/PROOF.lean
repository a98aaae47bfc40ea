import PyProof.Rows.All
import Wide.All
import OpenK.AllK
import Wide.FinOn
import HandS.ForMost
import HandS.AnyAll
import HandS.GenList
import KE.GoesEnum
import HandS.Zip
import HandS.Walk
import HandS.TupAny
import HandS.TupMul
import HandS.SetFor
import HandS.Strs
import HandS.IsInst
import HandS.ExcInit
import HandS.ExcField
import HandS.NoneIn
import HandS.Flow
import HandS.Steps
import HandS.ExcOwn
import HandS.WordsExc
import HandS.EndTab
import KE.KDflt
import HandS.HeadHook4
import PyProof.StrLawsChain
import PyProof.Rows.RegReprOcc
import HandS.Head0
import HandS.Head1
import HandS.Head2
import HandS.HeadEnd
import HandS.HeadHook1
import HandS.HeadHook2
import HandS.HeadWalk
import PySem.Challenge.RW_liarpost_k60_whole_texts
set_option Elab.async false
set_option linter.all false
set_option maxRecDepth 100000
/-! LpGen -/
set_option maxHeartbeats 4000000
/-! all(element for target in walked): a generator expression whose element is any expression of the layer -/
namespace LP
open PySem PySem.Spec PyProof.Rows L2 GxR GenW

/-- the context of a generator expression that runs: its own frame over those of X -/
abbrev gcx (X : Cx) (s : Shared) (H : Hp) (genv : Env) (fp : List Addr) (pn : List (Addr × Obj)) : Cx :=
  { X with
    A := X.A.in1.in1.deeper genv
    s_0 := s
    H_0 := H
    env := genv
    outer := X.stack
    stack := genv :: X.stack
    ex := fp
    fn := fun _ => false
    pn := pn
    xe := fun _ _ => False }

theorem over_genloop {A : Around} {elt : Expr} {gs : List Comprehension} {scope : Scope} {pos : Pos} {it acc : Value} {env : Env} :
    A.over (.compLoop (.GeneratorExp elt gs scope pos) 0 it acc env) [] = A.deeper env := by
  first
    | rfl
    | (obtain ⟨hd, d, fr, gd, u⟩ := A
       simp [Around.over, Around.deeper, marksOver, frameCount, unitsOf, envsOf, guardsOf, pushEnvs, pushGuards, Code.envs, Code.env?, Code.isFrame, Code.guards, Code.isGuard, Code.weight, Code.frames, Code.isCreation, Code.isCaller, Code.cUnits])
theorem over_genstart {A : Around} {elt : Expr} {gs : List Comprehension} {scope : Scope} {pos : Pos} {it acc : Value} {env : Env} :
    A.over (.compStart (.GeneratorExp elt gs scope pos) 0 it acc env) [] = A.deeper env := by
  first
    | rfl
    | (obtain ⟨hd, d, fr, gd, u⟩ := A
       simp [Around.over, Around.deeper, marksOver, frameCount, unitsOf, envsOf, guardsOf, pushEnvs, pushGuards, Code.envs, Code.env?, Code.isFrame, Code.guards, Code.isGuard, Code.weight, Code.frames, Code.isCreation, Code.isCaller, Code.cUnits])

/-- while it sleeps nothing that stands is changed -/
structure Asleep (s s' : Shared) : Prop where
  os : s'.os = s.os
  bare : AllBare s'.gens
  keep : ∀ b o, s.heap.get? b = some o → s'.heap.get? b = some o

section
variable {X : Cx} {s4 : Shared} {H4 : Hp} {genv : Env} {fp : List Addr} {pn : List (Addr × Obj)} {σ0 : L2.St}
/-- what holds between two turns -/
structure Mid (Z : Cx) (σ0 : L2.St) (fp : List Addr) (tn : Nat → Heap → Prop) (i : Nat) (H : Hp) (s : Shared) : Prop where
  inv : Inv Z [] σ0 H s
  at_ : tn i s.heap
  fr : ∀ b ∈ fp, H b = none
def Yg (Z : Cx) (σ0 : L2.St) (fp : List Addr) (tn : Nat → Heap → Prop) (W : Nat → Nat → Hp → Prop) (Qd : Bool → Hp → Prop) : Protocol := fun n _ v s kap =>
  ∃ i b H, v = .bool b ∧ Mid Z σ0 fp tn i H s ∧ (b = false → Qd false H) ∧ (b = true → ∃ m, m ≤ n ∧ W i m H) ∧ ∀ s', Asleep s s' → b = true → kap (.send .none) s'
def Eg (Z : Cx) (σ0 : L2.St) (Qd : Bool → Hp → Prop) : Nat → Shared → Shared → Prop := fun _ _ s => ∃ H, Inv Z [] σ0 H s ∧ Qd true H

theorem inv_asleep {Z : Cx} {pins : List (Addr × Obj)} {σ : L2.St} {H : Hp} {s s' : Shared} (I : Inv Z pins σ H s) (z : Asleep s s') : Inv Z pins σ H s' :=
  I.call' (ch := []) z.os (Un.kept z.keep) (I.hok.kept z.keep) z.bare fun b hb => by simp at hb

theorem seg_gloop {Z : Cx} {A : Around} {tg elt iter : Expr} {scope : Scope} {pos : Pos} {it : Addr} {tn : Nat → Heap → Prop} {J : It} {g : TG} {te : TE} {own : List Nat} {σ : L2.St} {W : Nat → Nat → Hp → Prop} {Qd : Bool → Hp → Prop}
    (hA : Z.A = A.deeper Z.env) (hc : Z.calm = true) (hco : Z.env.scope.isCoroutine = false) (hex : Z.ex = fp) (hpn : ∀ p ∈ Z.pn, p.1 ∉ fp)
    (T : Turn Z.prog Z.w Z.K tg J fp it tn) (pg : PG Z tg g) (pe : PE Z elt te) (hxe : Z.xe = fun _ _ => False)
    (turn : ∀ i m H, W i m H → (J.stop i H ∧ Qd true H) ∨ (J.go i H ∧ ∀ x H', J.yld i H x H' → g x (wipe σ own) H' fun σ2 H2 => wipe σ2 own = wipe σ own ∧ te σ2 H2 fun y H3 =>
      ∃ b, y = .bl b ∧ if b = true then ∃ m', m' < m ∧ W (i + 1) m' H3 else 0 < m ∧ Qd false H3)) :
    ∀ (n i m : Nat) (H : Hp) (s₀ s : Shared), m ≤ n → W i m H → Mid Z (wipe σ own) fp tn i H s →
      Seg (model Z.prog Z.w) A (fun n s₀ r s₁ => r = .ok .next ∧ Eg Z (wipe σ own) Qd n s₀ s₁) (Yg Z (wipe σ own) fp tn W Qd) n s₀
        (.compLoop (.GeneratorExp elt [⟨tg, iter, [], 0⟩] scope pos) 0 (.ref it) .none Z.env)
        ((model Z.prog Z.w).den (.compLoop (.GeneratorExp elt [⟨tg, iter, [], 0⟩] scope pos) 0 (.ref it) .none Z.env)) [] s := by
  have stat : ∀ {σ' : L2.St} {H' : Hp} {s' : Shared}, Inv Z [] σ' H' s' → (∀ b ∈ fp, H' b = none) → ∀ b ∈ fp, FpOk Z [] H' b := fun {σ' H' s'} I' hn b hb => by
    have hb' : b ∈ Z.ex := hex ▸ hb
    refine ⟨hn b hb, (I'.ok.exf b hb').1, I'.ok.exfs b hb', .inl hb', fun x c e => (I'.ok.exf b hb').2 x c e, fun p hp z => ?_⟩
    rw [List.append_nil] at hp
    exact hpn p hp (z ▸ hb)
  intro n
  induction n with
  | zero =>
    intro i m H s₀ s hm w M
    have hm0 : m = 0 := by omega
    subst hm0
    show Seg _ A _ _ _ s₀ _ ((compTurn (.GeneratorExp elt [⟨tg, iter, [], 0⟩] scope pos) 0 (.ref it) .none Z.env).onRaise (leaving Z.env)) [] s
    rw [compTurn_gen, Sem.onRaise_eq_wrap]
    refine seg_bind_wrap (wpAny_standAt ?_)
    rcases turn i 0 H w with ⟨stop, q⟩ | ⟨go, step⟩
    · refine seg_bind_wrap ?_
      rw [over_genloop, ← hA]
      refine wpAny_mono (T.done Z rfl rfl rfl hc i [] s _ H (fun _ _ => False) M.inv (stat M.inv M.fr) M.at_ stop) (fun r s6 ⟨hr, I6⟩ => ?_) fun _ _ z => z.elim
      subst hr
      exact seg_end (.ok .next) ⟨rfl, H, I6, q⟩
    · -- a turn that would yield: the measure forbids it
      refine seg_bind_wrap ?_
      rw [over_genloop, ← hA]
      refine wpAny_mono (T.item Z rfl rfl rfl hc i [] s _ H (fun _ _ => False) M.inv (stat M.inv M.fr) M.at_ go) (fun r s6 ⟨u, hr, h6⟩ => ?_) fun _ _ z => z.elim
      subst hr
      refine seg_bind_wrap ?_
      rw [over_genloop, ← hA]
      refine wpAny_mono (thnF h6 fun _ s7 q7 => q7) (fun _ s7 ⟨x, H7, I7, r7, y7, st7, n7⟩ => ?_) fun _ _ z => (show False from z).elim
      refine seg_bind_wrap ?_
      rw [over_genloop, ← hA]
      have pgr := pg.run [] s7 _ H7 x u _ I7 r7 (step x H7 y7)
      rw [hxe] at pgr
      refine wpAny_mono pgr (fun _ s8 ⟨σ8, H8, I8, hw8, q8⟩ => ?_) fun _ _ z => (show False from z).elim
      refine seg_bind_wrap ?_
      rw [over_genloop, ← hA, List.forIn_nil]
      refine wpAny_pure ?_
      simp only [if_true]
      rw [Sem.bind_eq_wrap', Sem.bind_eq_wrap', Sem.wrap_wrap, Sem.wrap_wrap]
      refine seg_wrap ?_
      rw [over_genloop, ← hA]
      have per := pe.run [] s8 σ8 H8 _ I8 q8
      rw [hxe] at per
      refine wpAny_mono per (fun v s9 ⟨y, H9, I9, r9, b, ey, q9⟩ => ?_) fun _ _ z => (show False from z).elim
      exfalso
      cases b with
      | true => obtain ⟨m', h, _⟩ := q9; omega
      | false => obtain ⟨h, _⟩ := q9; omega
  | succ n ih =>
    intro i m H s₀ s hm w M
    show Seg _ A _ _ _ s₀ _ ((compTurn (.GeneratorExp elt [⟨tg, iter, [], 0⟩] scope pos) 0 (.ref it) .none Z.env).onRaise (leaving Z.env)) [] s
    rw [compTurn_gen, Sem.onRaise_eq_wrap]
    refine seg_bind_wrap (wpAny_standAt ?_)
    rcases turn i m H w with ⟨stop, q⟩ | ⟨go, step⟩
    · refine seg_bind_wrap ?_
      rw [over_genloop, ← hA]
      refine wpAny_mono (T.done Z rfl rfl rfl hc i [] s _ H (fun _ _ => False) M.inv (stat M.inv M.fr) M.at_ stop) (fun r s6 ⟨hr, I6⟩ => ?_) fun _ _ z => z.elim
      subst hr
      exact seg_end (.ok .next) ⟨rfl, H, I6, q⟩
    · refine seg_bind_wrap ?_
      rw [over_genloop, ← hA]
      refine wpAny_mono (T.item Z rfl rfl rfl hc i [] s _ H (fun _ _ => False) M.inv (stat M.inv M.fr) M.at_ go) (fun r s6 ⟨u, hr, h6⟩ => ?_) fun _ _ z => z.elim
      subst hr
      refine seg_bind_wrap ?_
      rw [over_genloop, ← hA]
      refine wpAny_mono (thnF h6 fun _ s7 q7 => q7) (fun _ s7 ⟨x, H7, I7, r7, y7, st7, n7⟩ => ?_) fun _ _ z => (show False from z).elim
      have I7' := I7.pinned (stat I7 n7) (T.obj _ _ st7)
      refine seg_bind_wrap ?_
      rw [over_genloop, ← hA]
      have pgr := pg.run _ s7 _ H7 x u _ I7' r7 (step x H7 y7)
      rw [hxe] at pgr
      refine wpAny_mono pgr (fun _ s8 ⟨σ8, H8, I8, hw8, q8⟩ => ?_) fun _ _ z => (show False from z).elim
      refine seg_bind_wrap ?_
      rw [over_genloop, ← hA, List.forIn_nil]
      refine wpAny_pure ?_
      simp only [if_true]
      have hy : ∀ v, yieldOut Z.env v = yieldValue v := fun v => by simp only [yieldOut, hco, Bool.false_eq_true, if_false]
      simp only [hy]
      rw [Sem.bind_eq_wrap', Sem.bind_eq_wrap', Sem.wrap_wrap, Sem.wrap_wrap]
      refine seg_wrap ?_
      rw [over_genloop, ← hA]
      have per := pe.run _ s8 σ8 H8 _ I8 q8
      rw [hxe] at per
      refine wpAny_mono per (fun v s9 ⟨y, H9, I9, r9, b, ey, q9⟩ => ?_) fun _ _ z => (show False from z).elim
      subst ey
      have ev : v = .bool b := r9
      subst ev
      have pin' : ∀ b ∈ fp, ∀ o, s7.heap.get? b = some o → s9.heap.get? b = some o ∧ H9 b = none := fun b hb o e =>
        let z := I9.pin (b, o) (List.mem_append_right _ (List.mem_append_right _ (mem_pinsAt hb e)))
        ⟨z.1, z.2.1⟩
      have hl : (wipe σ own).length = σ8.length := by rw [← hw8, wipe_length]
      have I9' : Inv Z [] (wipe σ own) H9 s9 := (I9.unpinned (pins := [])).weak hl fun j v e => by
        rw [← hw8] at e
        exact (wipe_some e).1
      have M9 : Mid Z (wipe σ own) fp tn (i + 1) H9 s9 := ⟨I9', T.keep _ _ _ st7 fun b hb o e => (pin' b hb o e).1, fun b hb => by
        obtain ⟨o, e, _⟩ := T.obj _ _ st7 b hb
        exact (pin' b hb o e).2⟩
      refine seg_at (seg_yield rfl rfl rfl ⟨i + 1, b, H9, rfl, M9, fun hb => ?_, fun hb => ?_, fun s'' hal hb => ?_⟩)
      · rw [hb] at q9
        exact q9.2
      · rw [hb] at q9
        obtain ⟨m', h1, h2⟩ := q9
        exact ⟨m', by omega, h2⟩
      · rw [hb] at q9
        obtain ⟨m', h1, h2⟩ := q9
        refine seg_again rfl (ih (i + 1) m' H9 s'' s'' (by omega) h2 ⟨inv_asleep M9.inv hal, T.keep _ _ _ M9.at_ fun b hb o e => hal.keep b o e, M9.fr⟩)
end
end LP

/-! LpAll -/
set_option maxHeartbeats 4000000
namespace LP
open PySem PySem.Spec PyProof.Rows L2 GxR GenW

theorem all_gloop {Z : Cx} {A : Around} {σ0 : L2.St} {fp : List Addr} {tn : Nat → Heap → Prop} {W : Nat → Nat → Hp → Prop} {Qd : Bool → Hp → Prop} {R : Result → Shared → Prop} {a : Addr} {g : Nat} {go : Obj} {nm qn : Value}
    (hh : A.handled = none) (hroom : A.depth < recursionLimit) (hpn : (a, go) ∈ Z.pn) (hgc : go.cls = .type "generator") (hgd : go.data = .fields #[.int g 0, nm, qn]) (hgs0 : go.slots = #[])
    (hR : ∀ b H s, Inv Z [] σ0 H s → Qd b H → R (.ok (.ret (.bool b))) s) :
    ∀ (n i : Nat) (H : Hp) (gs : GenState) (s : Shared), s.gens[g]? = some gs → Mid Z σ0 fp tn i H s →
      (∀ s'', Asleep s s'' → gs.Goes (model Z.prog Z.w) A.in1.in1 (fun n s₀ r s₁ => r = .ok .next ∧ Eg Z σ0 Qd n s₀ s₁) (Yg Z σ0 fp tn W Qd) n (.send .none) s'') →
      codeAny (model Z.prog Z.w) A (.builtin "all.loop" ⟨[.ref a], []⟩) R s := by
  intro n
  induction n with
  | zero =>
    intro i H gs s hgs M hgo
    have pin := M.inv.pin (a, go) (List.mem_append_left _ hpn)
    have hg : s.heap.IsGen a g := ⟨go, nm, qn, pin.1, hgc, hgd, hgs0⟩
    have hgl : g < s.gens.size := (Array.getElem?_eq_some_iff.mp hgs).1
    refine codeAny_builtin F.entry_all_loop ?_
    rw [Around.under_plainId F.plain_all_loop _]
    show wpAny _ A.in1 (pyNext (.ref a) >>= _) _ _ s
    refine wpAny_bind (wpAny_gsz (n := g + 1) hgl (wpAny_pyNext_genexpQ (A := A.in1) hh M.inv.nolimit hroom hg hgs (hgo _ ⟨rfl, allBare_setGen M.inv.bare rfl, fun _ _ e => e⟩) (fun v s₁ gs' hbare hv => ?_) (fun s₁ hp h' hk => ?_)))
    · intro hsz
      obtain ⟨i', b, H', rfl, M', hF, hT, hkap⟩ := hv
      refine wpAny_bind (wpAny_holding (wpAny_truthy_bool ?_))
      refine wpAny_bind (wpAny_letGo ?_)
      cases b with
      | true => exact (hkap s₁ ⟨rfl, M'.inv.bare, fun _ _ e => e⟩ rfl).elim
      | false =>
        simp only [Bool.false_eq_true, if_false]
        refine wpAny_bind (wpAny_rule (wpAny_pure ?_))
        exact hR false H' _ (inv_asleep M'.inv ⟨rfl, allBare_setGen M'.inv.bare hbare, fun _ _ e => e⟩) (hF rfl)
    · intro hsz
      obtain ⟨H', I', q⟩ := hp
      refine wpAny_bind (wpAny_rule (wpAny_pure ?_))
      exact hR true H' _ (inv_asleep I' ⟨rfl, allBare_setGen I'.bare rfl, hk⟩) q
  | succ n ih =>
    intro i H gs s hgs M hgo
    have pin := M.inv.pin (a, go) (List.mem_append_left _ hpn)
    have hg : s.heap.IsGen a g := ⟨go, nm, qn, pin.1, hgc, hgd, hgs0⟩
    have hgl : g < s.gens.size := (Array.getElem?_eq_some_iff.mp hgs).1
    refine codeAny_builtin F.entry_all_loop ?_
    rw [Around.under_plainId F.plain_all_loop _]
    show wpAny _ A.in1 (pyNext (.ref a) >>= _) _ _ s
    refine wpAny_bind (wpAny_gsz (n := g + 1) hgl (wpAny_pyNext_genexpQ (A := A.in1) hh M.inv.nolimit hroom hg hgs (hgo _ ⟨rfl, allBare_setGen M.inv.bare rfl, fun _ _ e => e⟩) (fun v s₁ gs' hbare hv => ?_) (fun s₁ hp h' hk => ?_)))
    · intro hsz
      obtain ⟨i', b, H', rfl, M', hF, hT, hkap⟩ := hv
      refine wpAny_bind (wpAny_holding (wpAny_truthy_bool ?_))
      refine wpAny_bind (wpAny_letGo ?_)
      have z : Asleep s₁ (s₁.setGen g gs') := ⟨rfl, allBare_setGen M'.inv.bare hbare, fun _ _ e => e⟩
      have hsz1 : g < s₁.gens.size := by
        have q : (s₁.setGen g gs').gens.size = s₁.gens.size := setGen_size _ _ _
        have hsz' : g + 1 ≤ (s₁.setGen g gs').gens.size := hsz
        omega
      cases b with
      | true =>
        simp only [if_true]
        obtain ⟨m, hm, w⟩ := hT rfl
        exact wpAny_pure ⟨plainId_quiet F.plain_all_loop _, ih i' H' gs' _ (setGen_at hsz1) ⟨inv_asleep M'.inv z, M'.at_, M'.fr⟩ fun s'' hz => hkap s'' ⟨hz.os, hz.bare, hz.keep⟩ rfl⟩
      | false =>
        simp only [Bool.false_eq_true, if_false]
        refine wpAny_bind (wpAny_rule (wpAny_pure ?_))
        exact hR false H' _ (inv_asleep M'.inv z) (hF rfl)
    · intro hsz
      obtain ⟨H', I', q⟩ := hp
      refine wpAny_bind (wpAny_rule (wpAny_pure ?_))
      exact hR true H' _ (inv_asleep I' ⟨rfl, allBare_setGen I'.bare rfl, hk⟩) q

/-- the generator's start -/
theorem goes_gstart {Z : Cx} {A : Around} {tg elt iter : Expr} {scope : Scope} {pos : Pos} {it : Addr} {tn : Nat → Heap → Prop} {fp : List Addr} {J : It} {g : TG} {te : TE} {own : List Nat} {σ : L2.St} {W : Nat → Nat → Hp → Prop} {Qd : Bool → Hp → Prop}
    (hA : Z.A = A.deeper Z.env) (hc : Z.calm = true) (hco : Z.env.scope.isCoroutine = false) (hex : Z.ex = fp) (hpn : ∀ p ∈ Z.pn, p.1 ∉ fp)
    (T : Turn Z.prog Z.w Z.K tg J fp it tn) (pg : PG Z tg g) (pe : PE Z elt te) (hxe : Z.xe = fun _ _ => False)
    (turn : ∀ i m H, W i m H → (J.stop i H ∧ Qd true H) ∨ (J.go i H ∧ ∀ x H', J.yld i H x H' → g x (wipe σ own) H' fun σ2 H2 => wipe σ2 own = wipe σ own ∧ te σ2 H2 fun y H3 =>
      ∃ b, y = .bl b ∧ if b = true then ∃ m', m' < m ∧ W (i + 1) m' H3 else 0 < m ∧ Qd false H3))
    {m : Nat} {H : Hp} {s : Shared} (w : W 0 m H) (M : Mid Z (wipe σ own) fp tn 0 H s) :
    (GenState.fresh (.compStart (.GeneratorExp elt [⟨tg, iter, [], 0⟩] scope pos) 0 (.ref it) .none Z.env)).Goes (model Z.prog Z.w) A (fun n s₀ r s₁ => r = .ok .next ∧ Eg Z (wipe σ own) Qd n s₀ s₁) (Yg Z (wipe σ own) fp tn W Qd) m (.send .none) s := by
  refine ⟨rfl, ?_⟩
  have loop := seg_gloop (iter := iter) (scope := scope) (pos := pos) hA hc hco hex hpn T pg pe hxe turn m 0 m H s s (Nat.le_refl _) w M
  show Seg _ A _ _ _ s _ ((compStart (.GeneratorExp elt [⟨tg, iter, [], 0⟩] scope pos) 0 (.ref it) .none Z.env).onRaise (leaving Z.env)) [] s
  unfold compStart
  rw [Sem.onRaise_eq_wrap]
  show Seg _ A _ _ _ s _ ((ask >>= _).wrap _ _ _ _) [] s
  refine seg_bind_wrap (wpAny_askSetting ?_)
  split
  · exact seg_again rfl loop
  · first
      | exact seg_bind_wrap (wpAny_rule (seg_bind_wrap (wpAny_standAt (seg_bind_wrap (T.self _ 0 s _ _ M.at_ (seg_again rfl loop))))))
      | (refine seg_bind_wrap (wpAny_rule ?_)
         show Seg _ A _ _ _ s _ ((standAt iter.pos >>= _).wrap _ _ _ _) [] s
         exact seg_bind_wrap (wpAny_standAt (seg_bind_wrap (T.self _ 0 s _ _ M.at_ (seg_again rfl loop)))))
end LP

/-! LpInv -/
set_option maxHeartbeats 4000000
namespace LP
open PySem PySem.Spec PyProof.Rows L2 GxR GenW
section
variable {X : Cx} {pins : List (Addr × Obj)} {σ : L2.St} {H : Hp} {s : Shared}
/-- the frame of a generator expression, just made, and its object -/
theorem inv_gen {scope : Scope} {own : List (Str × Nat)} {fp : List Addr} {code itv : Value} {bi : Addr} {h' : Heap} {go : Obj} {gens' : Array GenState} {tk : Nat} (I : Inv X pins σ H s) (hd : X.A.handled = none) (ok : BlkOk X.N X.env.scope scope own)
    (hcell : ∀ y ∈ scope.names, y.2 ≠ .cell) (hN : X.N.Nodup) (hfp : ∀ b ∈ fp, FpOk X pins H b ∧ b < s.heap.objs.size) (hbi : bi = builtinsNs)
    (hn : h'.Ns s.heap.objs.size (fun y => if y = ".0" then some itv else none)) (hsb : Heap.SameBut s.heap.objs.size (s.heap.push { cls := .type "frame", data := .dict #[] }) h')
    (hgo : ∀ v, go.data ≠ .cell v) (hpush : (h'.push go).get? h'.objs.size = some go) (hg : AllBare gens') :
    Inv (gcx X s H (genEnv scope (cloFrom X.env.cells scope.names []) s.heap.objs.size code bi X.env) fp [(h'.objs.size, go)]) [] (wipe σ (own.map (·.2))) H { s with gens := gens', toks := tk, heap := h'.push go } := by
  have hsz : h'.objs.size = s.heap.objs.size + 1 := by rw [hsb.1, Heap.size_push]
  have kp' : ∀ b o, s.heap.get? b = some o → h'.get? b = some o := fun b o e => hsb.extBut b o (Nat.ne_of_lt (Heap.lt_size e)) (Heap.get?_push_of_some _ e)
  have kp : ∀ b o, s.heap.get? b = some o → (h'.push go).get? b = some o := fun b o e => Heap.get?_push_of_some _ (kp' b o e)
  have hfree : ∀ y ∈ scope.names, y.2 = .free → ∃ c, X.env.cells.lookup y.1 = some c := fun y hy e => by
    rcases ok.free y hy e with k | k
    · exact I.ok.has _ (.inl k)
    · exact I.ok.has _ (.inr k)
  have cm : ∀ {y c}, (cloFrom X.env.cells scope.names []).lookup y = some c → X.env.cells.lookup y = some c ∧ c < s.heap.objs.size := fun {y c} e => by
    rcases cloFrom_mem (PySem.mem_of_lookup e) with hm | ⟨h1, rfl⟩
    · cases hm
    · obtain ⟨c, hc⟩ := hfree _ h1 rfl
      rw [hc]
      obtain ⟨w, z⟩ := I.cell _ _ hc
      exact ⟨rfl, z.lt⟩
  have look : ∀ {y}, scope.names.lookup y = some .free → ∃ c, (cloFrom X.env.cells scope.names []).lookup y = some c := fun {y} hl =>
    mem_lookup (cloFrom_has (cells := X.env.cells) (acc := []) (PySem.mem_of_lookup hl))
  have noc : ∀ y, scope.names.lookup y ≠ some .cell := fun y e => hcell _ (PySem.mem_of_lookup e) rfl
  have okZ : (gcx X s H (genEnv scope (cloFrom X.env.cells scope.names []) s.heap.objs.size code bi X.env) fp [(h'.objs.size, go)]).Ok := by
    refine ⟨I.ok.mod, ok.kind, I.ok.glob, hbi, Nat.le_refl _, fun y z c e1 e2 => I.ok.inj y z c (cm e1).1 (cm e2).1, fun y hy => ?_, fun y c z _ => (Bool.noConfusion (show false = true from z)), fun _ => hd, ?_, .inr ⟨rfl, rfl⟩, fun b hb => ⟨?_, fun y c e z => ?_⟩, I.bs, Nat.le_trans I.ok.bsz I.sz,
      fun b o e hb => ?_, fun b hb z => ?_, I.stack, I.stkFree⟩
    · have hy : scope.names.lookup y = some .cell ∨ scope.names.lookup y = some .free := hy
      rcases hy with hy | hy
      · exact absurd hy (noc y)
      · exact look hy
    · exact Around.frames_deeper I.ok.frames
    · exact Nat.ne_of_lt (hfp b hb).2
    · exact (hfp b hb).1.2.2.2.2.1 y c (cm e).1 z
    · rcases (hfp b hb).1.2.2.2.1 with z | z
      · exact I.ok.noex b o e z
      · exact absurd (Nat.lt_of_lt_of_le (Heap.lt_size e) (Nat.le_trans I.ok.bsz z)) (Nat.lt_irrefl _)
    · rcases List.mem_cons.mp (I.stkSub b z) with z | z
      · exact (hfp b hb).1.2.1 z
      · exact (hfp b hb).1.2.2.1 z
  refine ⟨okZ, rfl, hg, Un.kept kp, ⟨_, hn.push _, fun i y av e1 e2 e3 => ?_⟩, fun y c e => ?_, I.hok.fresh (Nat.le_refl _), fun y c e => I.freeC y c (cm e).1, fun q hq => ?_, I.hok.kept kp, by rw [wipe_length]; exact I.len⟩
  · obtain ⟨e2, hne⟩ := wipe_some e2
    have no : ∀ k, scope.names.lookup y = some k → ¬ (k = .local ∨ k = .cell) := fun k e hh => by
      rcases ok.own _ (PySem.mem_of_lookup e) hh with e' | e'
      · obtain ⟨q, hq, hqy⟩ := List.mem_map.mp e'
        have e3 := ok.ix q hq
        have : q.1 = y := hqy
        rw [this] at e3
        exact hne (List.mem_map.mpr ⟨q, hq, nodup_ix hN e3 e1⟩)
      · exact e' (List.mem_of_getElem? e1)
    have e3 : Vis scope y := e3
    have hfr : scope.names.lookup y = some .free := by
      rcases e3 with e3 | e3 | e3
      · exact absurd (.inl rfl) (no _ e3)
      · exact absurd (.inr rfl) (no _ e3)
      · exact e3
    obtain ⟨m, hn2, hl⟩ := I.loc
    have hvis : Vis X.env.scope y := (ok.free _ (PySem.mem_of_lookup hfr) rfl).elim (fun k => .inr (.inl k)) (fun k => .inr (.inr k))
    obtain ⟨w, r, q⟩ := hl i y av e1 e2 hvis
    refine ⟨w, r, .inr ⟨.inr hfr, ?_⟩⟩
    obtain ⟨c, h1⟩ := look hfr
    rcases q with ⟨k, _⟩ | ⟨_, c', e', z⟩
    · have k : X.env.scope.names.lookup y = some .local := k
      rcases ok.free _ (PySem.mem_of_lookup hfr) rfl with k' | k' <;> rw [show X.env.scope.names.lookup y = _ from k'] at k <;> cases k
    · have h2 := (cm h1).1
      rw [h2] at e'
      cases e'
      exact ⟨c, h1, z.keeps kp⟩
  · obtain ⟨w, z⟩ := I.cell y c (cm e).1
    exact ⟨w, z.keeps kp⟩
  · have hq : q ∈ [(h'.objs.size, go)] ++ [] := hq
    rw [List.append_nil] at hq
    have eq := List.mem_singleton.mp hq
    subst eq
    have hle : s.heap.objs.size ≤ h'.objs.size := by
      rw [hsz]
      exact Nat.le_succ _
    refine ⟨hpush, I.hok.fresh hle, ?_, fun z => ?_, hgo⟩
    · show h'.objs.size ≠ s.heap.objs.size
      rw [hsz]
      exact Nat.succ_ne_self _
    · have z : h'.objs.size ∈ frs X.stack := z
      rcases List.mem_cons.mp (I.stkSub _ z) with z | z
      · have := I.lt
        rw [← z] at this
        exact absurd (Nat.lt_of_lt_of_le this hle) (Nat.lt_irrefl _)
      · exact I.nofs hle z
end

/-- all(element for target in walked); behind it the def's table may have grown -/
def tAllG (P : Addr) (wi : TI) (g : TG) (te : TE) (vs : List Nat) : TE := fun σ H Q => wi σ H fun J H1 => TabG H1 P ∧ ∀ H2, Tabbed P H1 H2 → ∃ W : Nat → Nat → Hp → Prop, (∃ m, W 0 m H2) ∧ ∀ i m H, W i m H →
  (J.stop i H ∧ Q (.bl true) H) ∨ (J.go i H ∧ ∀ x H', J.yld i H x H' → g x (wipe σ vs) H' fun σ2 H2 => wipe σ2 vs = wipe σ vs ∧ te σ2 H2 fun y H3 =>
    ∃ b, y = .bl b ∧ if b = true then ∃ m', m' < m ∧ W (i + 1) m' H3 else 0 < m ∧ Q (.bl false) H3)

section
variable {X : Cx}
theorem pe_allG {tg elt iter : Expr} {wi : TI} {g : TG} {te : TE} {own : List (Str × Nat)} {scope : Scope} {p pos gpos : Pos} {c P : Addr} {k : Nat}
    (hr : Room (k + 1) X.A) (hc : X.calm = true) (hN : X.N.Nodup) (hg : Gl X "all") (hm : X.mg "all" = none) (hb : bootBuiltins "all" = some (.builtin "all")) (TB : TabB X.base X.mg c P) (hcode : X.env.code = .ref c)
    (hco : scope.isCoroutine = false) (hcell : ∀ y ∈ scope.names, y.2 ≠ .cell) (h0 : scope.names.lookup (".0" : Str) = some NameKind.local) (ok : BlkOk X.N X.env.scope scope own) (hi : PI X tg iter wi)
    (hpg : ∀ (s : Shared) (H : Hp) (C : Addr) (cl : List (Str × Addr)) (code : Value) (bi : Addr) (fp : List Addr) (pn : List (Addr × Obj)), PG (gcx X s H (genEnv scope cl C code bi X.env) fp pn) tg g)
    (he : ∀ (s : Shared) (H : Hp) (C : Addr) (cl : List (Str × Addr)) (code : Value) (bi : Addr) (fp : List Addr) (pn : List (Addr × Obj)), Room k (X.A.in1.in1.deeper (genEnv scope cl C code bi X.env)) → PE (gcx X s H (genEnv scope cl C code bi X.env) fp pn) elt te)
    (hs : ∀ v, genFold iter X.env v = pure v)
    (hst : starEach [.GeneratorExp elt [⟨tg, iter, [], 0⟩] scope gpos] X.env = (false, eval (.GeneratorExp elt [⟨tg, iter, [], 0⟩] scope gpos) X.env) :: starEach [] X.env := by rfl) :
    PE X (.Call (.Name "all" p) [.GeneratorExp elt [⟨tg, iter, [], 0⟩] scope gpos] [] pos) (tAllG P wi g te (own.map (·.2))) := by
  refine ⟨fun pins s σ H Q I h => ?_⟩
  refine wpAny_Call_Name_kw (ld_blt I hg hm hb ?_)
  refine PyProof.Rows.callWith_builtin1 ?_ hst (by rfl)
  rw [hst]
  show wpAny _ _ (spliced ((false, eval (.GeneratorExp elt [⟨tg, iter, [], 0⟩] scope gpos) X.env) :: backTo pos (starEach [] X.env))) _ _ s
  have hfree : ∀ y ∈ scope.names, y.2 = .free → ∃ c, X.env.cells.lookup y.1 = some c := fun y hy e => by
    rcases ok.free y hy e with k | k
    · exact I.ok.has _ (.inl k)
    · exact I.ok.has _ (.inr k)
  have hr0 : X.A.depth < recursionLimit := by have := hr.dp; omega
  refine Calls.spliced_cons (wpAny_GeneratorExp_make hco (closure_ok hfree) hcell h0 ok.kind hr0 ?_ hs)
  refine thn (hi.run pins s σ H _ I h) fun xv s1 hx => thn hx fun itv s2 h2 => ?_
  obtain ⟨it, fp, tn, J, H2, rfl, I2, T, st2, f2, q⟩ := h2
  obtain ⟨⟨ps, hP, ht⟩, q⟩ := q
  have hPs : s2.heap.get? P = some { cls := .none, data := .fields ps } := I2.hok P _ hP
  have cd : PySem.W.CodeHd s2.heap c P := TB.code.keeps fun b u e => I2.bk b u e
  refine ⟨I2.nolimit, ?_⟩
  -- behind the code object
  have cont : ∀ (code : Value) (H4 : Hp) (s3 : Shared), Inv X pins σ H4 s3 → Tabbed P H2 H4 → tn 0 s3.heap → (∀ b ∈ fp, FpOk X pins H4 b ∧ b < s3.heap.objs.size) →
      wpAny (model X.prog X.w) X.A (builtinsFor X.env.globals X.env.builtins) (fun bi s₄ =>
        ∀ h', h'.Ns s₄.heap.objs.size (fun y => if y = ".0" then some (Value.ref it) else none) → Heap.SameBut s₄.heap.objs.size (s₄.heap.push { cls := .type "frame", data := .dict #[] }) h' →
          wpAny (model X.prog X.w) X.A (spliced (backTo pos (starEach [] X.env))) (fun us s' => wpAny (model X.prog X.w) X.A (call (.builtin "all") (Value.ref h'.objs.size :: us)) (EP X pins σ Q) X.xe s') X.xe { s₄ with
            gens := s₄.gens.push (.fresh (.compStart (.GeneratorExp elt [⟨tg, iter, [], 0⟩] scope gpos) 0 (.ref it) .none (genEnv scope (cloFrom X.env.cells scope.names []) s₄.heap.objs.size code bi X.env))),
            toks := s₄.toks + 1 + 1 + 1,
            heap := h'.push { cls := .type "generator", data := .fields #[.int s₄.gens.size 0, .str "<genexpr>" (s₄.toks + 1), .str (X.env.qual ++ "<genexpr>") (s₄.toks + 1 + 1)] } }) X.xe s3 := by
    intro code H4 s3 I3 hT st3 f3
    obtain ⟨bm, ob, e1, e2, e3, e4, e5, e6, e7, e8⟩ := TB.bm
    refine wpAny_builtinsFor (m := X.mg) (by rw [I3.ok.glob]; exact I3.mod.glob.keeps I3.bk) e1 e2 (I3.bk _ _ e5) e6 e7 e8 ?_
    intro h' hn' hs'
    refine Calls.spliced_nil ?_
    obtain ⟨W, ⟨m0, w0⟩, turn⟩ := q H4 hT
    generalize hgv : genEnv scope (cloFrom X.env.cells scope.names []) s3.heap.objs.size code builtinsNs X.env = genv
    generalize hgo : ({ cls := .type "generator", data := .fields #[.int s3.gens.size 0, .str "<genexpr>" (s3.toks + 1), .str (X.env.qual ++ "<genexpr>") (s3.toks + 1 + 1)] } : Obj) = go
    have hgd : go.data = .fields #[.int s3.gens.size 0, .str "<genexpr>" (s3.toks + 1), .str (X.env.qual ++ "<genexpr>") (s3.toks + 1 + 1)] := by rw [← hgo]
    have hpush : (h'.push go).get? h'.objs.size = some go := by
      subst hgo
      exact Heap.get?_push_size _ rfl
    have hbare : AllBare (s3.gens.push (.fresh (.compStart (.GeneratorExp elt [⟨tg, iter, [], 0⟩] scope gpos) 0 (.ref it) .none genv))) := I3.bare.push rfl
    have IZ := inv_gen (code := code) (bi := builtinsNs) (itv := .ref it) (gens' := s3.gens.push (.fresh (.compStart (.GeneratorExp elt [⟨tg, iter, [], 0⟩] scope gpos) 0 (.ref it) .none genv))) (tk := s3.toks + 1 + 1 + 1) I3 hr.hd ok hcell hN f3 rfl hn' hs'
      (fun v z => by rw [hgd] at z; cases z) hpush hbare
    rw [hgv] at IZ
    have ez : genv.scope = scope := by rw [← hgv]; rfl
    have PGZ := hpg s3 H4 s3.heap.objs.size (cloFrom X.env.cells scope.names []) code builtinsNs fp [(h'.objs.size, go)]
    have rz : Room k (X.A.in1.in1.deeper genv) := ⟨hr.hd, by have := hr.dp; show X.A.depth + 1 + 3 * k + 5 < _; omega, by have := hr.un; show X.A.units + 1 + 1 + 3 + 16 * k + 200 < _; omega⟩
    have PEZ := he s3 H4 s3.heap.objs.size (cloFrom X.env.cells scope.names []) code builtinsNs fp [(h'.objs.size, go)] (by rw [hgv]; exact rz)
    rw [hgv] at PGZ PEZ
    have kp : ∀ b o, s3.heap.get? b = some o → (h'.push go).get? b = some o := fun b o e => Heap.get?_push_of_some _ (hs'.extBut b o (Nat.ne_of_lt (Heap.lt_size e)) (Heap.get?_push_of_some _ e))
    have hsz : h'.objs.size = s3.heap.objs.size + 1 := by rw [hs'.1, Heap.size_push]
    have MZ : Mid (gcx X s3 H4 genv fp [(h'.objs.size, go)]) (wipe σ (own.map (·.2))) fp tn 0 H4 _ := ⟨IZ, T.keep _ _ _ st3 fun b _ o e => kp b o e, fun b hb => (f3 b hb).1.1⟩
    have back : ∀ {H5 : Hp} {s5 : Shared}, Inv (gcx X s3 H4 genv fp [(h'.objs.size, go)]) [] (wipe σ (own.map (·.2))) H5 s5 → Inv X pins σ H5 s5 := fun {H5 s5} I5 =>
      I3.call' (ch := fp) I5.os I5.base I5.hok I5.bare fun b hb => ⟨(f3 b hb).1.2.2.2.1, (f3 b hb).1.2.1, (f3 b hb).1.2.2.2.2.1, (f3 b hb).1.2.2.2.2.2⟩
    have hpn : ∀ p ∈ (gcx X s3 H4 genv fp [(h'.objs.size, go)]).pn, p.1 ∉ fp := fun p hp hf => by
      have e : p = (h'.objs.size, go) := List.mem_singleton.mp hp
      subst e
      have := (f3 _ hf).2
      have h9 : h'.objs.size < s3.heap.objs.size := this
      omega
    have hg5 : Heap.IsGen (h'.push go) h'.objs.size s3.gens.size := ⟨go, _, _, hpush, by rw [← hgo], hgd, by rw [← hgo]⟩
    refine call_function_tree F.kind_all F.plain_all F.entry_all (F.args_all1 _) ?_
    unfold Builtin.«all»
    refine wpAny_bind (m := oneArg "all" _) (wpAny_pure ?_)
    refine wpAny_bind (wpAny_pyIter_gen hg5 ?_)
    refine wpAny_pure ⟨plainId_quiet F.plain_all_loop _, ?_⟩
    refine all_gloop (Z := gcx X s3 H4 genv fp [(h'.objs.size, go)]) (σ0 := wipe σ (own.map (·.2))) (fp := fp) (tn := tn) (W := W) (Qd := fun b H5 => Q (.bl b) H5) (A := X.A) (a := h'.objs.size) (g := s3.gens.size) (go := go) hr.hd (by have := hr.dp; show X.A.depth < _; omega) (List.mem_singleton.mpr rfl) (by rw [← hgo]) hgd (by rw [← hgo])
      (fun b H5 s5 I5 q5 => ⟨.bl b, H5, back I5, rfl, q5⟩) m0 0 H4 _ _ (Array.getElem?_push_size ..) MZ fun s'' hz => ?_
    refine goes_gstart (Z := gcx X s3 H4 genv fp [(h'.objs.size, go)]) (iter := iter) (scope := scope) (A := X.A.in1.in1) rfl hc (by show genv.scope.isCoroutine = false; rw [ez]; exact hco) rfl hpn T PGZ PEZ rfl (fun i m H5 w => ?_) w0 ⟨inv_asleep MZ.inv hz, T.keep _ _ _ MZ.at_ fun b _ o e => hz.keep b o e, MZ.fr⟩
    exact turn i m H5 w
  have sz : ∀ b ∈ fp, b < s2.heap.objs.size := fun b hb => by
    obtain ⟨o, e, _⟩ := T.obj _ _ st2 b hb
    exact Heap.lt_size e
  cases hf : codeAmong gpos ps.toList with
  | none =>
    refine wpAny_genexprCodeX hcode (cd.code hPs ht) (cd.tab hPs) hf fun c' h' tk hx hge hlt hco' _ htab' _ => ?_
    obtain ⟨o1, vs, f1, tf, fl, tg, inF, tx, tt, op, _, _, _, _, _, _, _, _, _, htr, _⟩ := hco'
    have J1 := inv_tab (more := #[rawInt gpos.line, rawInt gpos.col, .ref c']) (h' := h') (g' := s2.gens) (d' := s2.drawn) (t' := tk) I2 hP (fun b u hb e => hx b u hb e) htab'.2 I2.bare
    have nPf : ∀ b ∈ fp, b ≠ P := fun b hb z => by
      have := (f2 b hb).1
      rw [z, hP] at this
      cases this
    have hle : s2.heap.objs.size ≤ h'.objs.size := Nat.le_trans hge (Nat.le_of_lt hlt)
    refine cont _ _ _ J1 ⟨⟨_, upd_same, htr⟩, fun b hb => upd_ne hb⟩ (T.keep _ _ _ st2 fun b hb o e => hx b o (nPf b hb) e) fun b hb => ⟨⟨?_, (f2 b hb).2⟩, Nat.lt_of_lt_of_le (sz b hb) hle⟩
    rw [upd_ne (nPf b hb)]
    exact (f2 b hb).1
  | some cv =>
    refine wpAny_genexprCode_hit hcode (cd.code hPs ht) hf ?_
    exact cont cv H2 s2 I2 ⟨⟨ps, hP, ht⟩, fun _ _ => rfl⟩ st2 fun b hb => ⟨f2 b hb, sz b hb⟩
end
end LP

/-! LpRules -/
set_option maxHeartbeats 4000000
namespace LP
open PySem PySem.Spec PyProof.Rows L2 RZ
open AutoSeq1 (wpAny_loadPart')

/-! ### enumerate over a tuple -/
theorem newEnumT (l : Addr) (o : Obj) (items : Array Value) : Meets (Builtin.«enumerate.__new__» ⟨[.type "enumerate", .ref l], []⟩) (fun _ R s => (s.heap.get? l = some o ∧ s.heap.IsTuple l items) ∧
      R (.ok (.ret (.ref (s.heap.push { cls := .type "tuple_iterator", data := .fields #[.ref l, .int 0 0] }).objs.size)))
        { s with heap := (s.heap.push { cls := .type "tuple_iterator", data := .fields #[.ref l, .int 0 0] }).push { cls := .type "enumerate", data := .fields #[.none, .bool false, .ref s.heap.objs.size, rawInt 0, .none, .none] } }) :=
  .of_wp fun prog w A R s h => by
    obtain ⟨hp, g, d, tk, os⟩ := s
    obtain ⟨⟨hl, hT⟩, h⟩ := h
    have hsub := sub_enumerate
    wp_walk using wpAny_loadPart' hl
    refine wpAny_stack_any fun st => wpAny_pure ?_
    split
    · rename_i c _ _ _ _ _
      cases (c == Value.type "enumerate")
      · wp_walk using wpAny_loadPart' hl, wpAny_pyIter_tuple hT
        exact ⟨_, rfl, h⟩
      · wp_walk using wpAny_loadPart' hl, wpAny_pyIter_tuple hT
        exact ⟨_, rfl, h⟩
    · wp_walk using wpAny_loadPart' hl, wpAny_pyIter_tuple hT
      exact ⟨_, rfl, h⟩
theorem callEnumT {prog : Program} {w : World} {A : Around} {E : Value → Shared → Prop} {s : Shared} {l : Addr} {items : Array Value} {Q : Value → Shared → Prop} (hT : s.heap.IsTuple l items)
    (h : ∀ h', IsEnum h' (s.heap.objs.size + 1) s.heap.objs.size 0 .none → h'.IsTupleIter s.heap.objs.size l 0 → h'.objs.size = s.heap.objs.size + 2 →
      (∀ b o, s.heap.get? b = some o → h'.get? b = some o) → Q (.ref (s.heap.objs.size + 1)) { s with heap := h' }) :
    wpAny (model prog w) A (call (.type "enumerate") [.ref l]) Q E s := by
  obtain ⟨o, ho, hr⟩ := id hT
  refine callType_new F.called_enumerate (by decide) (F.typeCall_enumerate_1 _) (F.newCall_enumerate_1 _) (fun obj => F.args_object_init_2 obj _) F.entry_enumerate_new
    (newEnumT l o items) ⟨⟨ho, hT⟩, ?_⟩
  have hz : (s.heap.push { cls := .type "tuple_iterator", data := .fields #[.ref l, .int 0 0] }).objs.size = s.heap.objs.size + 1 := Heap.size_push ..
  show _ ∧ _
  rw [hz]
  have he : IsEnum ((s.heap.push { cls := .type "tuple_iterator", data := .fields #[.ref l, .int 0 0] }).push
      { cls := .type "enumerate", data := .fields #[.none, .bool false, .ref s.heap.objs.size, rawInt 0, .none, .none] }) (s.heap.objs.size + 1) s.heap.objs.size 0 .none := by
    have := Heap.get?_push_size (s.heap.push { cls := .type "tuple_iterator", data := .fields #[.ref l, .int 0 0] })
      (o := { cls := .type "enumerate", data := .fields #[.none, .bool false, .ref s.heap.objs.size, rawInt 0, .none, .none] }) rfl
    rw [hz] at this
    exact this
  exact ⟨⟨_, he, rfl⟩, h _ he ⟨_, Heap.get?_push_of_some _ (Heap.get?_push_size _ rfl), rfl, rfl⟩ (by rw [Heap.size_push, hz]) fun b o x => Heap.get?_push_of_some _ (Heap.get?_push_of_some _ x)⟩

/-- the tuple at a, each item in a new pair -/
def ItET (K : PySem.W.Frag) (a : Addr) : It :=
  ⟨fun i H => ∃ (xs : List V) (x : V), SqT K H a xs ∧ xs[i]? = some x, fun i H v H' => ∃ T x, v = .ref T ∧ H T = none ∧ H' = upd H T (.tup [.int (i : Nat), x]) ∧ ∀ xs, SqT K H a xs → xs[i]? = some x, fun i H => ∃ xs : List V, SqT K H a xs ∧ xs.length = i⟩
theorem turn_enumT {P : Program} {w : World} {K : PySem.W.Frag} {elts : List Expr} {kk : Nat} {tpos : Pos} (a e it : Addr) :
    Turn P w K (.Tuple elts kk tpos) (ItET K a) [e, it] e (fun i h => (∃ old, IsEnum h e it ((i : Nat) : Int) old) ∧ h.IsTupleIter it a i ∧ e ≠ it ∧ a ≠ it ∧ a ≠ e) where
  mem := by simp
  obj := fun i h st b hb => by
    obtain ⟨⟨old, he⟩, ⟨o, ho, hc, hd⟩, _⟩ := st
    have e' : b = e ∨ b = it := by simpa using hb
    rcases e' with z | z
    · rw [z]; exact ⟨_, he, fun v q => nomatch q⟩
    · rw [z]; exact ⟨o, ho, fun v q => by rw [hd] at q; cases q⟩
  keep := fun i h h' st k => let ⟨⟨old, he⟩, hi, hne⟩ := st; ⟨⟨old, k e (by simp) _ he⟩, hi.at fun o q => k it (by simp) o q, hne⟩
  item := by
    intro X hP hw hK hc i pins s σ H E I hf st hg
    subst hP hw hK
    obtain ⟨⟨old, he⟩, hit, hne, hai, hae⟩ := st
    obtain ⟨xs, x, hq, hx⟩ := hg
    obtain ⟨its, rv, p, hz⟩ := I.tuple hq
    obtain ⟨u, hu, ru⟩ := rv.get hx
    have hel : e < s.heap.objs.size := Heap.lt_size he
    have hil : it < s.heap.objs.size := by obtain ⟨_, q, _⟩ := hit; exact Heap.lt_size q
    have hh : X.A.handled = none := I.ok.hd hc
    have hsz : i < its.toArray.size := by
      rw [List.size_toArray]
      exact (List.getElem?_eq_some_iff.mp hu).1
    have D : Draws X.prog X.w X.A.in1 it [it, a] its.toArray.size (fun i v => its.toArray[i]? = some v) (fun i h => h.IsTupleIter it a i ∧ h.IsTuple a its.toArray) := Draws.tuple (A := X.A.in1) hh it a hai its.toArray
    refine wpAny_pyNext_enum_itemD D he ⟨hit, p⟩ hsz hne (by simp only [List.mem_cons, List.not_mem_nil, or_false, not_or]; exact ⟨hne, Ne.symm hae⟩) fun x' h' tk hx' ho hst' hT hsz' hk => ?_
    have ex : x' = u := by
      have hu' : its.toArray[i]? = some u := by rw [List.getElem?_toArray]; exact hu
      rw [hu'] at hx'
      exact (Option.some.inj hx').symm
    subst ex
    refine ⟨_, rfl, wpAny_letOwnedTupleGo_enum (s := { s with heap := h', toks := tk + 1 }) ho fun h'' he' sb => ?_⟩
    have hT2 : h''.get? s.heap.objs.size = some { cls := .type "tuple", data := .seq #[.int i tk, x'] } := (sb.2 _ (Nat.ne_of_gt hel)).trans hT
    have new : ObjOk X.prog X.w (upd H s.heap.objs.size (.tup [.int (i : Nat), x])) h'' s.heap.objs.size (.tup [.int (i : Nat), x]) :=
      ⟨by show 2 ≤ sizeLine; decide, [.int i tk, x'], .cons ⟨_, rfl⟩ (.cons ru .nil), ⟨_, hT2, rfl, _, rfl⟩⟩
    have I1 : Inv X pins σ (upd H s.heap.objs.size (.tup [.int (i : Nat), x])) { s with heap := h'', toks := tk + 1 } :=
      I.turnedNew (ch := [e, it]) (fun b ob hb q => (sb.2 b (fun z => hb (by simp [z]))).trans (hk b ob (fun z => hb (by simp [z])) (fun z => hb (by simp [z])) q)) hf (Nat.le_refl _) new
    refine ⟨.ref s.heap.objs.size, _, I1, rfl, ⟨_, x, rfl, I.hok.fresh (Nat.le_refl _), rfl, fun ys hy => by rw [I.tuple_inj hy hq]; exact hx⟩, ⟨⟨x', ?_⟩, hst'.1.at fun o q => (sb.2 it (Ne.symm hne)).trans q, hne, hai, hae⟩, fun b hb => ?_⟩
    · have e1 : ((i + 1 : Nat) : Int) = (i : Int) + 1 := by omega
      rw [e1]; exact he'
    · have hb' : b < s.heap.objs.size := by
        have e' : b = e ∨ b = it := by simpa using hb
        rcases e' with z | z
        · rw [z]; exact hel
        · rw [z]; exact hil
      rw [upd_ne (Nat.ne_of_lt hb')]
      exact (hf b hb).1
  done := by
    intro X hP hw hK hc i pins s σ H E I hf st hg
    subst hP hw hK
    obtain ⟨⟨old, he⟩, hit, hne, hai, hae⟩ := st
    obtain ⟨xs, hq, hx⟩ := hg
    obtain ⟨its, rv, p, hz⟩ := I.tuple hq
    obtain ⟨f0, f1, f2, f3, f4, f5⟩ := hf it (by simp)
    have hl := rv.length
    have hh : X.A.handled = none := I.ok.hd hc
    have D : Draws X.prog X.w X.A.in1 it [it, a] its.toArray.size (fun i v => its.toArray[i]? = some v) (fun i h => h.IsTupleIter it a i ∧ h.IsTuple a its.toArray) := Draws.tuple (A := X.A.in1) hh it a hai its.toArray
    have hsz : its.toArray.size = i := by rw [List.size_toArray]; omega
    exact wpAny_pyNext_enum_endD D he ⟨hsz ▸ hit, p⟩ fun h' eb => ⟨rfl, I.turned (t' := s.toks) (fun b o hb q => eb b o hb q) f0 f1 f3 f4 f5⟩
  self := fun A i s Q E st h => let ⟨⟨_, he⟩, _⟩ := st; wpAny_pyIter_enum he h
def iEnumT (K : PySem.W.Frag) (ta : TA) : TI := fun σ H R => ta σ H fun vs H1 => ∃ a xs, vs = [.ref a] ∧ SqT K H1 a xs ∧ R (ItET K a) H1
theorem pi_enumT {X : Cx} {e : Expr} {ta : TA} {p pos tpos : Pos} {elts : List Expr} {kk : Nat} (hg : Gl X "enumerate") (hm : X.mg "enumerate" = none) (ha : PA X [e] ta) (hs : starEach [e] X.env = [(false, eval e X.env)] := by rfl) :
    PI X (.Tuple elts kk tpos) (.Call (.Name "enumerate" p) [e] [] pos) (iEnumT X.K ta) := by
  refine ⟨fun pins s σ H R I h => ?_⟩
  refine Call_ (ld_blt I hg hm boot_enumerate (PyProof.Rows.callWith_type1 (thn (ha.run pos pins s σ H _ I h) fun us s1 ⟨vs, H1, I1, r1, q1⟩ => ?_) hs rfl))
  obtain ⟨a, xs, ex, hq, q⟩ := q1
  subst ex
  cases r1 with
  | cons r rr =>
    cases rr
    cases r
    obtain ⟨its, rv, p', hz⟩ := I1.tuple hq
    have hal : a < s1.heap.objs.size := p'.lt
    refine callEnumT p' fun h' he hit hsz hk => wpAny_pyIter_enum he ?_
    have I2 : Inv X pins σ H1 { s1 with heap := h' } := I1.kept (t' := s1.toks) hk
    refine ⟨s1.heap.objs.size + 1, [s1.heap.objs.size + 1, s1.heap.objs.size], _, _, H1, rfl, I2, turn_enumT a (s1.heap.objs.size + 1) s1.heap.objs.size, ⟨⟨.none, he⟩, hit, Nat.succ_ne_self _, Nat.ne_of_lt hal, Nat.ne_of_lt (Nat.lt_succ_of_lt hal)⟩, fun b hb => ?_, q⟩
    have e' : b = s1.heap.objs.size + 1 ∨ b = s1.heap.objs.size := by simpa using hb
    have hle : s1.heap.objs.size ≤ b := by
      rcases e' with z | z
      · rw [z]; exact Nat.le_add_right _ _
      · rw [z]; exact Nat.le_refl _
    exact I1.fpOk hle (I1.hok.fresh hle)
theorem walk_enumT {K : PySem.W.Frag} {a : Addr} {xs : List V} : Walk (ItET K a) xs.length (fun H => SqT K H a xs) (YPair (fun i => some (.int (i : Nat))) (fun i => xs[i]?)) := by
  refine ⟨fun i _ hi q => ⟨xs, xs[i], q, by simp [hi]⟩, fun _ q => ⟨xs, q, rfl⟩, fun i H v H' _ q y => ?_⟩
  obtain ⟨T, x, h1, h2, h3, h4⟩ := y
  exact ⟨T, .int (i : Nat), x, h1, h2, h3, rfl, h4 xs q⟩
theorem walk_zipT {K : PySem.W.Frag} {a b : Addr} {xs ys : List V} {n : Nat} (hn : n = min xs.length ys.length) : Walk (ItzT K a b) n (fun H => SqT K H a xs ∧ SqT K H b ys) (YPair (fun i => xs[i]?) (fun i => ys[i]?)) := by
  subst hn
  refine ⟨fun i _ hi q => ?_, fun _ q => ⟨xs, ys, q.1, q.2, by omega⟩, fun i H v H' _ q y => ?_⟩
  · have h1 : i < xs.length := by omega
    have h2 : i < ys.length := by omega
    exact ⟨xs, ys, xs[i], ys[i], q.1, q.2, by simp [h1], by simp [h2]⟩
  · obtain ⟨T, x, z, h1, h2, h3, h4, h5⟩ := y
    exact ⟨T, x, z, h1, h2, h3, h4 xs q.1, h5 ys q.2⟩

/-! ### further operators -/
section
variable {X : Cx}
/-- text * number -/
theorem op_mulS : OpR X (binaryOp .Mult) (fun x y H Q => ∃ z n, x = .str z ∧ y = .int n ∧ MulOk z n ∧ Q (.str (Txt.mul z n)) H) := by
  intro pins s σ H x y v u Q I rx ry h
  obtain ⟨z, n, rfl, rfl, hok, q⟩ := h
  obtain ⟨t, rfl⟩ := rx
  obtain ⟨t', rfl⟩ := ry
  exact SB.mul hok fun t2 k => ⟨.str (Txt.mul z n), H, I.tok _, ⟨t2, rfl⟩, q⟩
theorem nodup_le : ∀ {xs L : List Int}, xs.Nodup → (∀ k ∈ xs, k ∈ L) → xs.length ≤ L.length
  | [], _, _, _ => Nat.zero_le _
  | x :: r, L, d, h => by
    obtain ⟨d1, d2⟩ := List.nodup_cons.mp d
    have hx := h x List.mem_cons_self
    have ih := nodup_le (xs := r) (L := L.erase x) d2 fun k hk => (List.mem_erase_of_ne (fun (z : k = x) => d1 (z ▸ hk))).mpr (h k (List.mem_cons_of_mem _ hk))
    rw [List.length_erase_of_mem hx] at ih
    have := List.length_pos_of_mem hx
    simp only [List.length_cons]
    omega
/-- set(tuple of numbers) -/
def rSetI (K : PySem.W.Frag) (w : World) : List V → Hp → VK → Prop := fun xs H Q => ∃ (p : Addr) (ns : List Int), xs = [.ref p] ∧ SqT K H p (ns.map V.int) ∧ ns.length ≤ 4000 ∧ ∀ (a : Addr) (c : Nat), H a = none → (∀ L : List Int, (∀ j ∈ ns, j ∈ L) → c ≤ L.length) → Q (.ref a) (upd H a (SetO w a (fun j => decide (j ∈ ns)) c))
theorem cr_setI (hc : X.calm = true) : CallR X (.type "set") (rSetI X.K X.w) := by
  intro pins s σ H xs us Q I r h
  obtain ⟨p, ns, rfl, hq, hl, q⟩ := h
  cases r with
  | cons r rr =>
    cases rr
    cases r
    obtain ⟨its, rv, pt, hz⟩ := I.tuple hq
    refine call_set_tupI (w := X.w) ns (I.ok.hd hc) (show s.heap.IsTuple p its.toArray from pt) (by simpa using intsAre_vals rv) (Nat.lt_of_le_of_lt (Nat.succ_le_succ hl) (by decide)) fun h' tk c R hcl hk => ?_
    refine ⟨.ref _, _, I.laid (t' := tk) hk (Nat.le_refl _) (setO_new R), rfl, q _ c (I.hok.fresh (Nat.le_refl _)) fun L hL => ?_⟩
    obtain ⟨o, es, ep, t, _, _, _, _, nd, hm, _, _, hn, _, _⟩ := R
    rw [← hn, ← Array.length_toList, ← List.length_map (f := keyOf)]
    exact nodup_le nd fun k hk => hL k (of_decide_eq_true ((hm k).mpr hk))
end
end LP

/-! LpTold -/
set_option maxHeartbeats 4000000
namespace LP
open PySem PySem.Spec PyProof.Rows L2 LamX
abbrev LTabB := LamX.TabB

/-- the names of a lambda: captured ones, globals, and locals that the def around has not -/
structure LamD (N : List Str) (sc scope : Scope) : Prop where
  kind : scope.kind = .function
  co : scope.isCoroutine = false
  gen : scope.isGenerator = false
  own : ∀ y ∈ scope.names, y.2 ≠ .cell ∧ (y.2 = .local → y.1 ∉ N)
  free : ∀ y ∈ scope.names, y.2 = .free → sc.names.lookup y.1 = some .cell ∨ sc.names.lookup y.1 = some .free
theorem LamD.has {X : Cx} {scope : Scope} (L : LamD X.N X.env.scope scope) (ok : X.Ok) : ∀ y ∈ scope.names, y.2 = .free → ∃ c, X.env.cells.lookup y.1 = some c := fun y hy e => by
  rcases L.free y hy e with k | k
  · exact ok.has _ (.inl k)
  · exact ok.has _ (.inr k)
def lamDB (N : List Str) (sc scope : Scope) : Bool :=
  decide (scope.kind = .function) && !scope.isCoroutine && !scope.isGenerator && scope.names.all fun y => !decide (y.2 = .cell) && (!decide (y.2 = .local) || !decide (y.1 ∈ N)) && (!decide (y.2 = .free) || decide (sc.names.lookup y.1 = some .cell) || decide (sc.names.lookup y.1 = some .free))
theorem lamD_by {N : List Str} {sc scope : Scope} (h : lamDB N sc scope = true) : LamD N sc scope := by
  unfold lamDB at h
  simp only [Bool.and_eq_true, Bool.or_eq_true, Bool.not_eq_true', decide_eq_true_eq, decide_eq_false_iff_not, List.all_eq_true] at h
  obtain ⟨⟨⟨h1, h2⟩, h3⟩, h4⟩ := h
  refine ⟨h1, h2, h3, fun y hy => ⟨(h4 y hy).1.1, fun e => ?_⟩, fun y hy e => ?_⟩
  · rcases (h4 y hy).1.2 with z | z
    · exact absurd e z
    · exact z
  · rcases (h4 y hy).2 with (z | z) | z
    · exact absurd e z
    · exact .inl z
    · exact .inr z
abbrev lamO (q : Str) (params : Arguments) (body : Expr) (scope : Scope) (clos : List (Str × Addr)) (dV doc pm : Value) (c' : Addr) (ctv : Value) : Obj := PySem.W.kdv_obj "<lambda>" q params (.expr body) scope clos dV doc pm c' ctv

section
variable {X : Cx} {pins : List (Addr × Obj)} {σ : L2.St} {H : Hp} {s : Shared}
/-- a lambda is made, its defaults at hand -/
theorem lam_tail {T : List (Addr × Str)} {c P : Addr} {params : Arguments} {body : Expr} {scope : Scope} {pos : Pos} {dV : Value} {E : Value → Shared → Prop} {Q : Value → Shared → Prop} (I : Inv X pins σ H s) (TB : LTabB X.base X.mg c P) (hcode : X.env.code = .ref c)
    (hm : (P, X.env.qual ++ "<lambda>") ∈ T) (hu : ∀ p ∈ T, p.1 = P → p.2 = X.env.qual ++ "<lambda>") (hT : Tabs T H) (hfree : ∀ y ∈ scope.names, y.2 = .free → ∃ c, X.env.cells.lookup y.1 = some c)
    (h : ∀ (f c' : Addr) (pm ctv doc : Value) (H1 : Hp) (s' : Shared), Inv X pins σ H1 s' → ExtN H H1 → Tabs T H1 → (∀ b o, s.heap.get? b = some o → H b = none → s'.heap.get? b = some o ∧ H1 b = none) →
      (∀ b o, b ≠ P → H b = some o → H1 b = some o) →
      s'.heap.get? f = some (lamO (X.env.qual ++ "<lambda>") params body scope (cloFrom X.env.cells scope.names []) dV doc pm c' ctv) → H1 f = none → f ∉ frs X.stack → H1 c' = some (CodeO c' (X.env.qual ++ "<lambda>")) → Q (.ref f) s') :
    wpAny (model X.prog X.w) X.A (makeTail "<lambda>" (X.env.qual ++ "<lambda>") params (.expr body) scope X.env dV .none none pos pos.line) Q E s := by
  obtain ⟨ps, hP, ht, ha⟩ := hT _ hm
  have bP : s.heap.BuiltinsAt X.mg P := TB.bm.keeps I.bk
  have hP' : s.heap.get? P = some { cls := .none, data := .fields ps } := I.hok P _ hP
  have nofr : ∀ f, s.heap.objs.size ≤ f → f ∉ frs X.stack := fun f hf z => by
    rcases List.mem_cons.mp (I.stkSub _ z) with e | e
    · have h1 := I.lt
      rw [← e] at h1
      exact Nat.lt_irrefl _ (Nat.lt_of_lt_of_le h1 hf)
    · exact I.nofs hf e
  have nPn : ∀ b, H b = none → b ≠ P := fun b n z => by
    rw [z, hP] at n
    cases n
  cases hc : codeAmong pos ps.toList with
  | none =>
    refine PySem.W.kdv_makeTail (mg := X.mg) (c := c) (P := P) (ps := ps) (closure_ok hfree) I.ok.glob (I.mod.glob.keeps I.bk) hcode (TB.code.keeps I.bk) hP' ht hc TB.gP bP fun c' ctv doc h' tk hx hge hlt hrec htb => ?_
    obtain ⟨c2, oc, vs, t, e2, hoc, hd, hv⟩ := hrec
    cases e2
    have hsz : s.heap.objs.size ≤ h'.objs.size := Nat.le_trans hge (Nat.le_of_lt hlt)
    have nC : H c' = none := I.hok.fresh hge
    have I1 := inv_table (t' := tk) (more := #[rawInt pos.line, rawInt pos.col, .ref c']) (h' := h'.push (lamO (X.env.qual ++ "<lambda>") params body scope (cloFrom X.env.cells scope.names []) dV doc ((X.mg "__name__").getD .none) c' ctv)) I hP
      (fun b o hb e => Heap.get?_push_of_some _ (hx b o hb e)) (Heap.get?_push_of_some _ htb) hge ⟨oc, vs, t, Heap.get?_push_of_some _ hoc, hd, hv⟩
    have hK : ∀ b o, b ≠ P → H b = some o → (upd (upd H P (.tbl (ps ++ #[rawInt pos.line, rawInt pos.col, .ref c']))) c' (CodeO c' (X.env.qual ++ "<lambda>"))) b = some o := fun b o n e => by
      rw [upd_ne (ne_of_none e nC), upd_ne n]
      exact e
    have hE : ExtN H (upd (upd H P (.tbl (ps ++ #[rawInt pos.line, rawInt pos.col, .ref c']))) c' (CodeO c' (X.env.qual ++ "<lambda>"))) := fun b o e n =>
      hK b o (fun z => n ps (Option.some.inj (e.symm.trans (by rw [z]; exact hP)))) e
    have eL : (ps ++ #[rawInt pos.line, rawInt pos.col, .ref c']).toList = ps.toList ++ [rawInt pos.line, rawInt pos.col, .ref c'] := by simp
    refine h h'.objs.size c' ((X.mg "__name__").getD .none) ctv doc _ _ I1 hE (fun p hp => ?_) (fun b o e n => ⟨Heap.get?_push_of_some _ (hx b o (nPn b n) e), ?_⟩) hK (Heap.get?_push_size _ rfl) ?_ (nofr _ hsz) upd_same
    · by_cases hb : p.1 = P
      · rw [hu p hp hb, hb]
        refine ⟨_, by rw [upd_ne (ne_of_none hP nC), upd_same], by rw [eL]; exact PySem.TriplesOk_snoc _ _ _ _ ht, fun p' cv hcv => ?_⟩
        rw [eL] at hcv
        rcases among_app _ ht hcv with z | z
        · obtain ⟨c0, e1, e2⟩ := ha p' cv z
          exact ⟨c0, e1, hE _ _ e2 codeO_ne⟩
        · exact ⟨c', z, upd_same⟩
      · obtain ⟨ps', a1, a2, a3⟩ := hT p hp
        refine ⟨ps', by rw [upd_ne (ne_of_none a1 nC), upd_ne hb]; exact a1, a2, fun p' cv hcv => ?_⟩
        obtain ⟨c0, e1, e2⟩ := a3 p' cv hcv
        exact ⟨c0, e1, hE _ _ e2 codeO_ne⟩
    · have n2 : b ≠ c' := Nat.ne_of_lt (Nat.lt_of_lt_of_le (Heap.lt_size e) hge)
      rw [upd_ne n2, upd_ne (nPn b n)]
      exact n
    · have n1 : h'.objs.size ≠ c' := Nat.ne_of_gt hlt
      have n2 : h'.objs.size ≠ P := Nat.ne_of_gt (Nat.lt_of_lt_of_le (Heap.lt_size hP') hsz)
      rw [upd_ne n1, upd_ne n2]
      exact I.hok.fresh hsz
  | some cv =>
    obtain ⟨c', e, hco⟩ := ha pos cv hc
    subst e
    refine PySem.W.kdv_makeTailHit (mg := X.mg) (c := c) (P := P) (ps := ps) (closure_ok hfree) I.ok.glob (I.mod.glob.keeps I.bk) hcode (TB.code.keeps I.bk) hP' ht hc bP fun ctv doc h' tk hx hsz => ?_
    have I1 : Inv X pins σ H { s with heap := h'.push (lamO (X.env.qual ++ "<lambda>") params body scope (cloFrom X.env.cells scope.names []) dV doc ((X.mg "__name__").getD .none) c' ctv), toks := tk } := I.kept fun b o e => Heap.get?_push_of_some _ (hx b o e)
    exact h h'.objs.size c' ((X.mg "__name__").getD .none) ctv doc H _ I1 (ExtN.refl H) hT (fun b o e n => ⟨Heap.get?_push_of_some _ (hx b o e), n⟩) (fun b o _ e => e) (Heap.get?_push_size _ rfl) (I.hok.fresh hsz) (nofr _ hsz) hco

/-- the lambda's body begins -/
theorem lam_startD {HZ : Hp} {s1 : Shared} {A : Around} {outer : List Env} {E : XK} {scope : Scope} {f c' : Addr} {h₁ : Heap} {tk : Nat} {m : Str → Option Value} (I : Inv X pins σ H s) (L : LamD X.N X.env.scope scope) (e0 : Env0 X.prog X.w X.K X.mg X.base A outer s1 HZ) (hd : A.handled = none)
    (un : Un (frs X.stack) [] H HZ s.heap s1.heap) (hns : h₁.Ns s1.heap.objs.size m) (kp : ∀ b o, s1.heap.get? b = some o → h₁.get? b = some o) :
    Inv (lamCx X A outer s1 HZ E scope f c') [] σ HZ { s1 with heap := h₁, toks := tk } := by
  have hfree := L.has I.ok
  have cm : ∀ {y c}, (cloFrom X.env.cells scope.names []).lookup y = some c → X.env.cells.lookup y = some c := fun {y c} e => by
    rcases cloFrom_mem (PySem.mem_of_lookup e) with hm | ⟨h1, h2⟩
    · cases hm
    · obtain ⟨c1, hc⟩ := hfree _ h1 rfl
      have hc : X.env.cells.lookup y = some c1 := hc
      have e2 : c = c1 := by
        rw [h2, hc] <;> rfl
      rw [e2]
      exact hc
  have look : ∀ {y}, scope.names.lookup y = some .free → ∃ c, (cloFrom X.env.cells scope.names []).lookup y = some c := fun {y} hl =>
    mem_lookup (cloFrom_has (cells := X.env.cells) (acc := []) (PySem.mem_of_lookup hl))
  have cellK : ∀ {c : Addr} {v : Option Value}, H c = none → s.heap.IsCell c v → h₁.IsCell c v := fun {c v} n ⟨o, ho, hd⟩ => by
    obtain ⟨sl, q⟩ := un.any ho n (by simp)
    exact ⟨_, kp _ _ q, hd⟩
  have noA : ∀ b : Addr, b ∉ (lamCx X A outer s1 HZ E scope f c').ex := fun b z => absurd (show b ∈ ([] : List Addr) from z) (by simp)
  refine ⟨⟨e0.mod, L.kind, rfl, rfl, Nat.le_refl _, fun y z c e1 e2 => I.ok.inj y z c (cm e1) (cm e2), fun y hy => ?_, fun y c z _ => ?_, fun _ => hd, Around.frames_deeper e0.frames, .inr ⟨rfl, rfl⟩, fun b z => absurd z (noA b), e0.bs, e0.bsz, fun b _ _ => noA b,
      fun b z => absurd z (noA b), e0.funs, e0.frf⟩,
    rfl, e0.bare, Un.kept kp, ⟨_, hns, fun i y v e1 e2 e3 => ?_⟩, fun y c e => ?_, e0.hok.fresh (Nat.le_refl _), fun y c e => ?_, fun q hq => absurd (show q ∈ ([] : List (Addr × Obj)) ++ [] from hq) (by simp), e0.hok.kept kp, I.len⟩
  · have hy : scope.names.lookup y = some .cell ∨ scope.names.lookup y = some .free := hy
    rcases hy with hy | hy
    · exact absurd rfl (L.own _ (PySem.mem_of_lookup hy)).1
    · exact look hy
  · have z : false = true := z
    cases z
  · have e3 : Vis scope y := e3
    rcases e3 with k | k | k
    · exact absurd (List.mem_of_getElem? e1) ((L.own _ (PySem.mem_of_lookup k)).2 rfl)
    · exact absurd rfl (L.own _ (PySem.mem_of_lookup k)).1
    · obtain ⟨m, hn, hl⟩ := I.loc
      have hvis : Vis X.env.scope y := (L.free _ (PySem.mem_of_lookup k) rfl).elim (fun k => .inr (.inl k)) (fun k => .inr (.inr k))
      obtain ⟨w', r, q⟩ := hl i y v e1 e2 hvis
      obtain ⟨c2, h2⟩ := look k
      refine ⟨w', r, .inr ⟨.inr k, c2, h2, ?_⟩⟩
      have c1 := cm h2
      rcases q with ⟨k', _⟩ | ⟨_, c3, e', z⟩
      · have k' : X.env.scope.names.lookup y = some .local := k'
        rcases L.free _ (PySem.mem_of_lookup k) rfl with k2 | k2 <;> rw [show X.env.scope.names.lookup y = _ from k2] at k' <;> cases k'
      · rw [c1] at e'
        cases e'
        exact cellK (I.freeC y _ c1) z
  · obtain ⟨w', z⟩ := I.cell y c (cm e)
    exact ⟨w', cellK (I.freeC y c (cm e)) z⟩
  · obtain ⟨v, o, ho, hd⟩ := I.cell y c (cm e)
    exact un.free c o ho (I.freeC y c (cm e)) (by simp)

/-- x(), in the def that got the lambda -/
theorem pe_actD {CXg : CXT} {Eg : XK} {Ng : List Str} {qg : Str} {sg : Scope} {g f c' : Addr} {cdg dV doc pm ctv : Value} {params : Arguments} {body : Expr} {scope : Scope} {binds : List (Str × Value)} {k i : Nat} {a : Str} {pn : List (Addr × Obj)} {xe : Value → Shared → Prop} {W : WX} {tb : XK → TE} {p1 p2 : Pos}
    (I : Inv X pins σ H s) (L : LamD X.N X.env.scope scope) (hf : s.heap.get? f = some (lamO (X.env.qual ++ "<lambda>") params body scope (cloFrom X.env.cells scope.names []) dV doc pm c' ctv)) (hfn : H f = none) (hfr : f ∉ frs X.stack)
    (hbind : ∀ (HZ : Hp) (s1 : Shared), Un (frs X.stack) [] H HZ s.heap s1.heap → BindsTo s1 (PySem.W.kdv_fn "<lambda>" (X.env.qual ++ "<lambda>") params (.expr body) scope (cloFrom X.env.cells scope.names []) dV doc pm (.ref c') ctv) ⟨[], []⟩ binds)
    (hloc : ∀ y ∈ binds, scope.names.lookup y.1 = some .local)
    (tk : Takes ((cxOf CXg X.prog X.w X.K X.mg X.base Ng qg sg g cdg X.A X.stack s H Eg).tr pn xe) W) (hr : Room (k + 1) (X.A.deeper (envOfC qg sg s.heap.objs.size g cdg)))
    (hbody : ∀ (A : Around) (outer : List Env) (s : Shared) (H : Hp) (E : XK), Room k (A.deeper (lamEnv X scope s.heap.objs.size f c')) → PE (lamCx X A outer s H E scope f c') body (tb E))
    (hN : Ng[i]? = some a) (hv : Vis sg a) (hd : (a == ("__debug__" : Str)) = false := by decide) (hcd : (a == ("__classdict__" : Str)) = false := by decide) :
    PE ((cxOf CXg X.prog X.w X.K X.mg X.base Ng qg sg g cdg X.A X.stack s H Eg).tr pn xe) (.Call (.Name a p1) [] [] p2)
      (fun σZ HZ Q => σZ[i]? = some (some (.ref f)) ∧ HZ c' = some (CodeO c' (X.env.qual ++ "<lambda>")) ∧ tb (WE W σZ) σ HZ Q) := by
  refine ⟨fun pinsZ sZ σZ HZ Q IZ h => ?_⟩
  obtain ⟨hs, hc, ht⟩ := h
  refine wpAny_Call_Name_kw (thn ((pe_var (pos := p1) (i := i) hN hv hd hcd).run pinsZ sZ σZ HZ (fun v H1 => v = .ref f ∧ H1 = HZ) IZ ⟨.ref f, hs, rfl, rfl⟩) fun u s1 ⟨v, H1, I1, r1, q1⟩ => ?_)
  obtain ⟨ev, eH⟩ := q1
  subst ev
  rw [eH] at I1
  obtain rfl : u = Value.ref f := r1
  have of1 : s1.heap.get? f = some (lamO (X.env.qual ++ "<lambda>") params body scope (cloFrom X.env.cells scope.names []) dV doc pm c' ctv) := I1.base.keep f _ hf hfn hfr (fun z => nomatch (show f ∈ ([] : List Addr) from z))
  refine PySem.W.callWith_F0 ⟨_, _, _, _, of1⟩ ?_
  have un : Un (frs X.stack) [] H HZ s.heap s1.heap := I1.base
  obtain ⟨⟨oc, vs, t, hoc, hdc, hvc⟩, _, _⟩ := I1.hok c' _ hc
  have rc : codeAny (model X.prog X.w) (X.A.deeper (envOfC qg sg s.heap.objs.size g cdg)) (.call (.ref f) ⟨[], []⟩) (CR (L2.CX X.prog X.w) (envOfC qg sg s.heap.objs.size g cdg :: X.stack) X.prog X.w HZ s1 Q (WE W σZ)) s1 := by
    refine PySem.W.kla_callFunE hr.depth of1 rfl L.co L.gen rfl ⟨c', oc, vs, t, rfl, hoc, hdc, hvc⟩ (hbind HZ s1 un _ _ _ _ ?_)
    refine wpAny_newFunctionEnv (fun y hy => (L.own y hy).1) hloc (fun h₁ hns hsb => ⟨I1.nolimit.fresh _ hsb, ?_⟩) L.kind
    show codeAny _ _ (.expr body (lamEnv X scope s1.heap.objs.size f c')) _ _
    have kp : ∀ b o, s1.heap.get? b = some o → h₁.get? b = some o := fun b o e => hsb.extBut b o (Nat.ne_of_lt (Heap.lt_size e)) (Heap.get?_push_of_some _ e)
    have J : Inv (lamCx X (X.A.deeper (envOfC qg sg s.heap.objs.size g cdg)) (envOfC qg sg s.heap.objs.size g cdg :: X.stack) s1 HZ (WE W σZ) scope f c') [] σ HZ { s1 with heap := h₁, toks := s1.toks + binds.length } :=
      lam_startD I L I1.env0 hr.hd un hns kp
    refine PySem.W.kla_codeExpr (wpAny_mono ((hbody _ _ s1 HZ _ (hr.deeper _)).run [] _ _ HZ Q J ht) (fun v s' hq => ?_) fun e s' hq => hq)
    obtain ⟨w', H', J', rv, q⟩ := hq
    exact ⟨w', H', J'.os, J'.bare, J'.base, J'.hok, rv, q⟩
  have hx := passAt tk σZ
  refine wpAny_call (codeAny_mono rc fun r s' hq => ?_)
  cases r with
  | error e => exact hx pinsZ HZ s1 e s' I1 hq
  | ok fl =>
    cases fl with
    | ret u => exact I1.after hq
    | next => exact False.elim hq
    | brk => exact False.elim hq
    | cont => exact False.elim hq
end

/-- the def that calls what it got: a calls it; TT: what it makes of the lambda's reading -/
def GivesL (X : Cx) (Ng : List Str) (x : Str) (sg : Scope) (g : Addr) (cdg : Value) (bg : List Stmt) (a : Str) (q : Str) (TT : (XK → Hp → VK → Prop) → Hp → VK → Prop) : Prop :=
  ∀ (f c' : Addr) (s : Shared) (H : Hp) (Q : VK) (tl : XK → Hp → VK → Prop),
    (∀ (W : WX) (pn : List (Addr × Obj)) (xe : Value → Shared → Prop) (p1 p2 : Pos), Takes ((cxOf C8.CX0 X.prog X.w X.K X.mg X.base Ng x sg g cdg X.A X.stack s H C8.E0).tr pn xe) W →
      PE ((cxOf C8.CX0 X.prog X.w X.K X.mg X.base Ng x sg g cdg X.A X.stack s H C8.E0).tr pn xe) (.Call (.Name a p1) [] [] p2) (fun σZ HZ Q => σZ[0]? = some (some (.ref f)) ∧ HZ c' = some (CodeO c' q) ∧ tl (WE W σZ) HZ Q)) →
    H c' = some (CodeO c' q) → TT tl H Q →
    ∃ t, PSs (cxOf C8.CX0 X.prog X.w X.K X.mg X.base Ng x sg g cdg X.A X.stack s H C8.E0).nox bg t ∧ t { nx := fun _ H' => Q .non H', rt := Q } (L2.start Ng [.ref f]) H
/-- told: try: return a() / except X as e: return (word, e.f) -/
def TToldL (CS : Addr) (word fld : Str) : (XK → Hp → VK → Prop) → Hp → VK → Prop := fun tl H Q =>
  ∀ E : XK, (∀ (dd : Addr) (fs : List (Str × V)) (v : V) (H' : Hp), H' dd = some (.xd fs) → fs.lookup fld = some v → (∀ p, H' p = none → Q (.ref p) (upd H' p (.tup [.str word, v]))) → E (.ref CS) (some dd) H') → tl E H Q
theorem told_givesL {X : Cx} {Ng : List Str} {x a e n q word fld : Str} {sg : Scope} {g CS : Addr} {cdg : Value} {j kk : Nat} {p1 p2 p3 p4 p5 p6 p7 p8 p9 p10 p11 : Pos} (hge : sg.names.lookup e = some .globalImplicit) (hme : X.mg e = some (.ref CS)) (hde : (e == ("__debug__" : Str)) = false)
    (hN : Ng.Nodup) (hn : Ng[1]? = some n) (hln : sg.names.lookup n = some .local) (T : XfC X.K CS) (hno : PySem.W.findIn X.K (.ref CS) fld = some none) (hex : PySem.W.exmOne X.K (.ref CS) (.ref CS) = some true)
    (hdn : (n == ("__debug__" : Str)) = false) (hcn : (n == ("__classdict__" : Str)) = false)
    (h0 : ∀ f : Addr, (L2.start Ng [V.ref f])[0]? = some (some (V.ref f))) (h1 : ∀ (f : Addr) (v : Option V), ((L2.start Ng [V.ref f]).set 1 v)[1]? = some v) :
    GivesL X Ng x sg g cdg [.Try [.Return (some (.Call (.Name a p1) [] [] p2)) p3] [.ExceptHandler (some (.Name e p4)) (some n) [.Return (some (.Tuple [.Constant (.str word) j p5, .Attribute (.Name n p6) fld p7] kk p8)) p9] p10] [] [] p11] a q (TToldL CS word fld) := by
  intro f c' s H Q tl act hc h
  have hgl : Gl (cxOf C8.CX0 X.prog X.w X.K X.mg X.base Ng x sg g cdg X.A X.stack s H C8.E0).nox e := hge
  refine ⟨_, pss_one (ps_try_as (i := 1) (X := (cxOf C8.CX0 X.prog X.w X.K X.mg X.base Ng x sg g cdg X.A X.stack s H C8.E0).nox) (c := .ref CS)
      (tb := fun W D σ H => σ[0]? = some (some (.ref f)) ∧ H c' = some (CodeO c' q) ∧ tl (WE W σ) H D.rt)
      (ts := fun a cls d => tRet (tTup (tCons (tC (.str word)) (tCons (tXf a cls d CS fld (tVar 1)) tNil)))) (Wout := fun _ _ _ _ => False)
      rfl rfl hN hn hln ⟨hgl, hde, .inl hme⟩ L2.takes0 (fun W pn xe tk _ => ?_) (fun a oe cls d pn hz hf => pss_one (ps_ret (pe_tup (pa_cons pe_str (pa_cons (pe_xf T hno hz hf (pe_var (i := 1) hn (.inl hln) hdn hcn)) pa_nil)))))), ?_⟩
  · refine ⟨fun pins s' σ H' D I h' => ?_⟩
    exact (pss_one (ps_ret (pos := p3) (act W pn xe p1 p2 tk))).run pins s' σ H' D I h'
  · refine ⟨h0 f, hc, h _ fun dd fs v H' hd hl hq => ⟨true, hex, fun _ a ha => ?_, fun z => nomatch z⟩⟩
    refine ⟨.ref a, h1 f _, rfl, rfl, dd, fs, v, rfl, hd, hl, ?_⟩
    exact ⟨by show 2 ≤ sizeLine; decide, hq⟩

def tLamD (T : List (Addr × Str)) (P : Addr) (TT : (XK → Hp → VK → Prop) → Hp → VK → Prop) (t : XK → TE) : TE := fun σ H Q => Tabs T H ∧ ∀ H1, (∀ b o, b ≠ P → H b = some o → H1 b = some o) → Tabs T H1 → TT (fun E H' Q' => t E σ H' Q') H1 Q
section
variable {X : Cx}
/-- what the def g does with the lambda at f -/
theorem told_rest {TT : (XK → Hp → VK → Prop) → Hp → VK → Prop} {x a : Str} {g : Addr} {k : Nat} {pg : Arguments} {bg : List Stmt} {sg : Scope} {dVg kVg docg pmg cdv ctg ocg : Value} {an od : Option Addr} {osl : Array (Option Value)} {Ng : List Str}
    {params : Arguments} {body : Expr} {scope : Scope} {t : XK → TE} {pins : List (Addr × Obj)} {σ : L2.St} {H1 : Hp} {s' : Shared} {Q : VK} {f c' : Addr} {dV doc pm ctv : Value} {binds : List (Str × Value)} {E1 : Value → Shared → Prop}
    (lk : X.K.lookup g = some ⟨ocg, od, .func (PySem.W.fnOf x x pg bg sg dVg kVg docg pmg an cdv ctg), osl⟩) (hcg : PySem.W.codeIn X.K cdv x = true) (hb : L2.Binds X.K (PySem.W.fnOf x x pg bg sg dVg kVg docg pmg an cdv ctg) [a] []) (Sg : FnScope Ng [a] sg) (hNg : Ng[0]? = some a) (hva : Vis sg a)
    (hG : GivesL X Ng x sg g cdv bg a (X.env.qual ++ "<lambda>") TT) (hr : Room (k + 2) X.A) (L : LamD X.N X.env.scope scope)
    (hbody : ∀ (A : Around) (outer : List Env) (s : Shared) (H : Hp) (E : XK) (f c' : Addr), Room k (A.deeper (lamEnv X scope s.heap.objs.size f c')) → PE (lamCx X A outer s H E scope f c') body (t E))
    (hd : (a == ("__debug__" : Str)) = false) (hcd : (a == ("__classdict__" : Str)) = false)
    (I1 : Inv X pins σ H1 s') (hf : s'.heap.get? f = some (lamO (X.env.qual ++ "<lambda>") params body scope (cloFrom X.env.cells scope.names []) dV doc pm c' ctv)) (hfn : H1 f = none) (hfr : f ∉ frs X.stack) (hco : H1 c' = some (CodeO c' (X.env.qual ++ "<lambda>")))
    (hbind : ∀ (HZ : Hp) (s1 : Shared), Un (frs X.stack) [] H1 HZ s'.heap s1.heap → BindsTo s1 (PySem.W.kdv_fn "<lambda>" (X.env.qual ++ "<lambda>") params (.expr body) scope (cloFrom X.env.cells scope.names []) dV doc pm (.ref c') ctv) ⟨[], []⟩ binds)
    (hloc : ∀ y ∈ binds, scope.names.lookup y.1 = some .local) (h : TT (fun E H' Q' => t E σ H' Q') H1 Q) :
    wpAny (model X.prog X.w) X.A (call (.ref g) [.ref f]) (EP X pins σ Q) E1 s' := by
  have rc : codeAny (model X.prog X.w) X.A (.call (.ref g) ⟨[.ref f], []⟩) (CR C8.CX0 X.stack X.prog X.w H1 s' Q C8.E0) s' := by
    refine run_ofS (N := Ng) (ps := [a]) (us := [.ref f]) (vs := [.ref f]) lk hcg Sg hr I1.env0 (hb s' [.ref f] I1.kIn rfl) (.cons rfl .nil) rfl fun hr' => ?_
    obtain ⟨t', ht', hq'⟩ := hG f c' s' H1 Q (fun E H' Q' => t E σ H' Q') (fun W pn xe p1 p2 tk => pe_actD (i := 0) I1 L hf hfn hfr hbind hloc tk hr' (fun A outer s H E hr2 => hbody A outer s H E f c' hr2) hNg hva hd hcd) hco h
    exact ⟨t', ht'.nox, hq'⟩
  refine wpAny_call (codeAny_mono rc fun r s2 hq => ?_)
  cases r with
  | error e => exact (show False from hq).elim
  | ok fl =>
    cases fl with
    | ret u => exact I1.after hq
    | next => exact False.elim hq
    | brk => exact False.elim hq
    | cont => exact False.elim hq
/-- x(lambda: body) -/
theorem pe_told0 {T : List (Addr × Str)} {TT : (XK → Hp → VK → Prop) → Hp → VK → Prop} {x a : Str} {g c P : Addr} {k : Nat} {pg : Arguments} {bg : List Stmt} {sg : Scope} {dVg kVg docg pmg cdv ctg ocg : Value} {an od : Option Addr} {osl : Array (Option Value)} {Ng : List Str}
    {params : Arguments} {body : Expr} {scope : Scope} {t : XK → TE} {p lpos pos : Pos} (hg : Gl X x) (hm : X.mg x = some (.ref g)) (hk : PySem.W.keepIn X.K (.ref g) = true)
    (lk : X.K.lookup g = some ⟨ocg, od, .func (PySem.W.fnOf x x pg bg sg dVg kVg docg pmg an cdv ctg), osl⟩) (hcg : PySem.W.codeIn X.K cdv x = true) (hb : L2.Binds X.K (PySem.W.fnOf x x pg bg sg dVg kVg docg pmg an cdv ctg) [a] []) (Sg : FnScope Ng [a] sg) (hNg : Ng[0]? = some a) (hva : Vis sg a)
    (hG : GivesL X Ng x sg g cdv bg a (X.env.qual ++ "<lambda>") TT)
    (TB : LTabB X.base X.mg c P) (hcode : X.env.code = .ref c) (hmT : (P, X.env.qual ++ "<lambda>") ∈ T) (hu : ∀ p ∈ T, p.1 = P → p.2 = X.env.qual ++ "<lambda>") (hr : Room (k + 2) X.A) (L : LamD X.N X.env.scope scope) (hdef : defaultsOf params X.env = ([], []))
    (hbind : ∀ (q : Str) (cl : List (Str × Addr)) (doc pm cv ctv : Value), bindArgs (PySem.W.kdv_fn "<lambda>" q params (.expr body) scope cl .none doc pm cv ctv) ⟨[], []⟩ = pure [])
    (hbody : ∀ (A : Around) (outer : List Env) (s : Shared) (H : Hp) (E : XK) (f c' : Addr), Room k (A.deeper (lamEnv X scope s.heap.objs.size f c')) → PE (lamCx X A outer s H E scope f c') body (t E))
    (hdb : (x == ("__debug__" : Str)) = false := by decide) (hd : (a == ("__debug__" : Str)) = false := by decide) (hcd : (a == ("__classdict__" : Str)) = false := by decide) :
    PE X (.Call (.Name x p) [.Lambda params body scope lpos] [] pos) (tLamD T P TT t) := by
  refine ⟨fun pins s σ H Q I h => ?_⟩
  obtain ⟨hT, h⟩ := h
  refine wpAny_Call_Name_kw (ld_glob I hg hm ?_ hdb)
  refine PySem.W.callWith_K (h₀ := X.base) I.ok.mod.kin hk ?_ (by rfl) (by rfl)
  show wpAny _ _ (spliced ((false, eval (.Lambda params body scope lpos) X.env) :: backTo pos (starEach [] X.env))) _ _ s
  refine Calls.spliced_cons (PySem.W.kla_eval hdef ?_)
  rw [makeFunction_eq]
  simp only [List.zip_nil_right, List.filterMap_nil, List.isEmpty_nil, if_true, pure_bind]
  refine lam_tail I TB hcode hmT hu hT (L.has I.ok) fun f c' pm' ctv doc H1 s' I1 eN T1 _ kK hf hfn hfr hco => ?_
  refine Calls.spliced_nil ⟨I1.kIn, ?_⟩
  exact told_rest lk hcg hb Sg hNg hva hG hr L hbody hd hcd I1 hf hfn hfr hco (fun HZ s1 _ => .of_eq (hbind _ _ _ _ _ _)) (fun y hy => absurd hy (by simp)) (h H1 kK T1)
/-- x(lambda y = i: body), i a written number -/
theorem pe_told1 {T : List (Addr × Str)} {TT : (XK → Hp → VK → Prop) → Hp → VK → Prop} {x a y : Str} {g c P : Addr} {k : Nat} {pg : Arguments} {bg : List Stmt} {sg : Scope} {dVg kVg docg pmg cdv ctg ocg : Value} {an od : Option Addr} {osl : Array (Option Value)} {Ng : List Str}
    {params : Arguments} {body : Expr} {scope : Scope} {t : XK → TE} {p lpos pos pi : Pos} {i : Int} {ji : Nat} (hg : Gl X x) (hm : X.mg x = some (.ref g)) (hk : PySem.W.keepIn X.K (.ref g) = true)
    (lk : X.K.lookup g = some ⟨ocg, od, .func (PySem.W.fnOf x x pg bg sg dVg kVg docg pmg an cdv ctg), osl⟩) (hcg : PySem.W.codeIn X.K cdv x = true) (hb : L2.Binds X.K (PySem.W.fnOf x x pg bg sg dVg kVg docg pmg an cdv ctg) [a] []) (Sg : FnScope Ng [a] sg) (hNg : Ng[0]? = some a) (hva : Vis sg a)
    (hG : GivesL X Ng x sg g cdv bg a (X.env.qual ++ "<lambda>") TT)
    (TB : LTabB X.base X.mg c P) (hcode : X.env.code = .ref c) (hmT : (P, X.env.qual ++ "<lambda>") ∈ T) (hu : ∀ p ∈ T, p.1 = P → p.2 = X.env.qual ++ "<lambda>") (hr : Room (k + 2) X.A) (L : LamD X.N X.env.scope scope)
    (hdef : params.defaults = [.Constant (.int i) ji pi]) (hkw : params.kw_defaults = []) (hyl : scope.names.lookup y = some .local)
    (hbind : ∀ (s : Shared) (T0 : Addr) (v : Value) (q : Str) (cl : List (Str × Addr)) (doc pm cv ctv : Value), s.heap.get? T0 = some { cls := .type "tuple", data := .seq #[v] } → BindsTo s (PySem.W.kdv_fn "<lambda>" q params (.expr body) scope cl (.ref T0) doc pm cv ctv) ⟨[], []⟩ [(y, v)])
    (hbody : ∀ (A : Around) (outer : List Env) (s : Shared) (H : Hp) (E : XK) (f c' : Addr), Room k (A.deeper (lamEnv X scope s.heap.objs.size f c')) → PE (lamCx X A outer s H E scope f c') body (t E))
    (hdb : (x == ("__debug__" : Str)) = false := by decide) (hd : (a == ("__debug__" : Str)) = false := by decide) (hcd : (a == ("__classdict__" : Str)) = false := by decide) :
    PE X (.Call (.Name x p) [.Lambda params body scope lpos] [] pos) (tLamD T P TT t) := by
  refine ⟨fun pins s σ H Q I h => ?_⟩
  obtain ⟨hT, h⟩ := h
  refine wpAny_Call_Name_kw (ld_glob I hg hm ?_ hdb)
  refine PySem.W.callWith_K (h₀ := X.base) I.ok.mod.kin hk ?_ (by rfl) (by rfl)
  show wpAny _ _ (spliced ((false, eval (.Lambda params body scope lpos) X.env) :: backTo pos (starEach [] X.env))) _ _ s
  refine Calls.spliced_cons (PySem.W.kdv_lam (by rw [hdef]; rfl) hkw ?_)
  rw [hdef]
  refine PySem.W.kdv_all1 (wpAny_Constant_int (PySem.W.kdv_all0 ?_))
  rw [makeFunction_eq]
  simp only [List.zip_nil_right, List.filterMap_nil, List.isEmpty_nil, List.isEmpty_cons, if_true, pure_bind, Bool.false_eq_true, if_false]
  refine wpAny_bind (wpAny_newTextTuple ?_)
  have I0 : Inv X pins σ H { s with toks := s.toks + 1, heap := s.heap.push { cls := .type "tuple", data := .seq [Value.int i s.toks].toArray } } := I.kept fun b o e => Heap.get?_push_of_some _ e
  have hT0 : (s.heap.push { cls := .type "tuple", data := .seq [Value.int i s.toks].toArray }).get? s.heap.objs.size = some { cls := .type "tuple", data := .seq #[Value.int i s.toks] } := Heap.get?_push_size _ rfl
  have nT0 : H s.heap.objs.size = none := I.hok.fresh (Nat.le_refl _)
  have fT0 : s.heap.objs.size ∉ frs X.stack := fun z => by
    rcases List.mem_cons.mp (I.stkSub _ z) with e | e
    · have h1 := I.lt
      rw [← e] at h1
      exact Nat.lt_irrefl _ h1
    · exact I.nofs (Nat.le_refl _) e
  refine lam_tail I0 TB hcode hmT hu hT (L.has I.ok) fun f c' pm' ctv doc H1 s' I1 eN T1 kp kK hf hfn hfr hco => ?_
  obtain ⟨t1, t2⟩ := kp _ _ hT0 nT0
  refine Calls.spliced_nil ⟨I1.kIn, ?_⟩
  refine told_rest lk hcg hb Sg hNg hva hG hr L hbody hd hcd I1 hf hfn hfr hco (fun HZ s1 un => hbind s1 s.heap.objs.size (.int i s.toks) _ _ _ _ _ _ (un.keep _ _ t1 t2 fT0 (by simp))) (fun z hz => ?_) (h H1 kK T1)
  have ez : z = (y, Value.int i s.toks) := List.mem_singleton.mp hz
  rw [ez]
  exact hyl
end
end LP

/-! LpEv -/
set_option maxHeartbeats 4000000
/-! What a reading gives at the level of data. -/
namespace LP
open PySem PySem.Spec PyProof.Rows L2 RZ
abbrev Fg := PySem.W.Frag
/-- the table of a def's code object -/
abbrev tb (K : Fg) (x : Str) : Addr := (He.cT K (x, none)).2
abbrev gtNames : List Str := ["need_question", "is_text", "is_lot", "need_plan", "is_row"]
/-- the tables of the defs that hold generator expressions are in order -/
def GT (K : Fg) (H : Hp) : Prop := ∀ x ∈ gtNames, GxR.TabG H (tb K x)
abbrev ltb (K : Fg) : Addr := tb K "law"
/-- all stands but for those tables -/
structure Gx (K : Fg) (H H' : Hp) : Prop where
  gt : GT K H → GT K H'
  keep : ∀ b o, H b = some o → ((∀ ps, o ≠ .tbl ps) ∨ b = ltb K) → H' b = some o
  tbl : ∀ b ps, H b = some (.tbl ps) → ∃ ps', H' b = some (.tbl ps')
section
variable {K : Fg} {H H1 H2 H' : Hp} {p : Addr} {o : HO}
theorem Gx.refl : Gx K H H := ⟨id, fun _ _ h _ => h, fun _ ps h => ⟨ps, h⟩⟩
theorem Gx.trans (a : Gx K H H1) (b : Gx K H1 H2) : Gx K H H2 := ⟨fun g => b.gt (a.gt g), fun x o h n => b.keep x o (a.keep x o h n) n, fun x ps h => by
  obtain ⟨ps', h'⟩ := a.tbl x ps h
  exact b.tbl x ps' h'⟩
theorem Gx.of (s : ∀ b o, H b = some o → H' b = some o) : Gx K H H' := ⟨fun g x hx => by
  obtain ⟨ps, h1, h2⟩ := g x hx
  exact ⟨ps, s _ _ h1, h2⟩, fun b o h _ => s b o h, fun b ps h => ⟨ps, s _ _ h⟩⟩
theorem Gx.new (n : H p = none) : Gx K H (upd H p o) := .of fun b u e => by
  rw [upd_ne (ne_of_none e n)]
  exact e
/-- an object that H does not know changes -/
theorem Gx.mut {xs : List V} (g : Gx K H H') (n : H p = none) (m : H' p = some (.lst xs)) : Gx K H (upd H' p o) := ⟨fun t x hx => by
  obtain ⟨ps, h1, h2⟩ := g.gt t x hx
  refine ⟨ps, ?_, h2⟩
  rw [upd_ne (ne_of h1 m (by intro z; cases z))]
  exact h1, fun b u h nt => by
  rw [upd_ne (ne_of_none h n)]
  exact g.keep b u h nt, fun b ps h => by
  obtain ⟨ps', h'⟩ := g.tbl b ps h
  exact ⟨ps', by rw [upd_ne (ne_of_none h n)]; exact h'⟩⟩
theorem GT.mut {xs : List V} (t : GT K H) (m : H p = some (.lst xs)) : GT K (upd H p o) := fun x hx => by
  obtain ⟨ps, h1, h2⟩ := t x hx
  refine ⟨ps, ?_, h2⟩
  rw [upd_ne (ne_of h1 m (by intro z; cases z))]
  exact h1
theorem GT.new (t : GT K H) (n : H p = none) : GT K (upd H p o) := Gx.new n |>.gt t
theorem Gx.tup {xs : List V} (g : Gx K H H') (h : H p = some (.tup xs)) : H' p = some (.tup xs) := g.keep p _ h (.inl fun ps z => by cases z)
theorem Gx.lst {xs : List V} (g : Gx K H H') (h : H p = some (.lst xs)) : H' p = some (.lst xs) := g.keep p _ h (.inl fun ps z => by cases z)
theorem Gx.frz {ob : Obj} {u : HO} (g : Gx K H H') (h : H p = some (.frz ob u)) : H' p = some (.frz ob u) := g.keep p _ h (.inl fun ps z => by cases z)
theorem Gx.free (g : Gx K H H') (h : H' p = none) : H p = none := by
  cases e : H p with
  | none => rfl
  | some u =>
    by_cases hu : ∀ ps, u ≠ .tbl ps
    · rw [g.keep p u e (.inl hu)] at h
      cases h
    · obtain ⟨ps, hps⟩ := Classical.not_forall.mp hu
      have z : u = .tbl ps := Classical.not_not.mp hps
      rw [z] at e
      obtain ⟨ps', h'⟩ := g.tbl p ps e
      rw [h'] at h
      cases h
theorem Gx.seqL {a : Addr} {xs : List V} (g : Gx K H H') (h : SqL K H a xs) : SqL K H' a xs := by
  rcases h with (h | ⟨o, h⟩) | h
  · exact .inl (.inl (g.lst h))
  · exact .inl (.inr ⟨o, g.frz h⟩)
  · exact .inr h
end

/-! ### data -/
mutual
/-- v is the datum d: numbers, texts, truth values, tuples of such -/
inductive Tv (H : Hp) : V → PyData → Prop
  | non : Tv H .non .none
  | bl (b : Bool) : Tv H (.bl b) (.bool b)
  | int (i : Int) : Tv H (.int i) (.int i)
  | str (x : Str) : Tv H (.str x) (.str x)
  | tup {a : Addr} {xs : List V} {ds : List PyData} : H a = some (.tup xs) → TvAll H xs ds → Tv H (.ref a) (.tuple ds)
inductive TvAll (H : Hp) : List V → List PyData → Prop
  | nil : TvAll H [] []
  | cons {v : V} {vs : List V} {d : PyData} {ds : List PyData} : Tv H v d → TvAll H vs ds → TvAll H (v :: vs) (d :: ds)
end
/-- the tuples stand -/
def Kt (H H' : Hp) : Prop := ∀ b xs, H b = some (.tup xs) → H' b = some (.tup xs)
section
variable {K : Fg} {H H1 H2 H' : Hp} {p : Addr} {o : HO}
theorem Kt.refl : Kt H H := fun _ _ h => h
theorem Kt.trans (a : Kt H H1) (b : Kt H1 H2) : Kt H H2 := fun x xs h => b x xs (a x xs h)
theorem Gx.kt (g : Gx K H H') : Kt H H' := fun _ _ h => g.tup h
theorem Kt.new (n : H p = none) : Kt H (upd H p o) := fun b xs e => by
  rw [upd_ne (ne_of_none e n)]
  exact e
theorem Kt.mut {xs : List V} (m : H p = some (.lst xs)) : Kt H (upd H p o) := fun b ys e => by
  rw [upd_ne (ne_of e m (by intro z; cases z))]
  exact e
mutual
theorem Tv.kt (k : Kt H H') : ∀ {v : V} {d : PyData}, Tv H v d → Tv H' v d
  | _, _, .non => .non
  | _, _, .bl b => .bl b
  | _, _, .int i => .int i
  | _, _, .str x => .str x
  | _, _, .tup h a => .tup (k _ _ h) (TvAll.kt k a)
theorem TvAll.kt (k : Kt H H') : ∀ {vs : List V} {ds : List PyData}, TvAll H vs ds → TvAll H' vs ds
  | _, _, .nil => .nil
  | _, _, .cons h t => .cons (Tv.kt k h) (TvAll.kt k t)
end
mutual
theorem Tv.dp : ∀ {v : V} {d : PyData}, Tv H v d → Dp K H v d
  | _, _, .non => .non
  | _, _, .bl b => .bl b
  | _, _, .int i => .int i
  | _, _, .str x => .str x
  | _, _, .tup h a => .tup (SqT.of h) (TvAll.dp a)
theorem TvAll.dp : ∀ {vs : List V} {ds : List PyData}, TvAll H vs ds → DpAll K H vs ds
  | _, _, .nil => .nil
  | _, _, .cons h t => .cons (Tv.dp h) (TvAll.dp t)
end
theorem TvAll.length : ∀ {vs : List V} {ds : List PyData}, TvAll H vs ds → vs.length = ds.length
  | _, _, .nil => rfl
  | _, _, .cons _ t => congrArg (· + 1) (TvAll.length t)
theorem TvAll.app : ∀ {vs us : List V} {ds es : List PyData}, TvAll H vs ds → TvAll H us es → TvAll H (vs ++ us) (ds ++ es)
  | _, _, _, _, .nil, t => t
  | _, _, _, _, .cons h r, t => .cons h (TvAll.app r t)
theorem TvAll.get : ∀ {vs : List V} {ds : List PyData} {i : Nat} {d : PyData}, TvAll H vs ds → ds[i]? = some d → ∃ v, vs[i]? = some v ∧ Tv H v d
  | _, _, _, _, .nil, h => by simp at h
  | _, _, 0, _, .cons h _, e => by
    simp at e
    subst e
    exact ⟨_, rfl, h⟩
  | _, _, i + 1, d, .cons _ t, e => by
    obtain ⟨v, h1, h2⟩ := TvAll.get (i := i) (d := d) t (by simpa using e)
    exact ⟨v, by simpa using h1, h2⟩
theorem TvAll.getV : ∀ {vs : List V} {ds : List PyData} {i : Nat} {v : V}, TvAll H vs ds → vs[i]? = some v → ∃ d, ds[i]? = some d ∧ Tv H v d
  | _, _, _, _, .nil, h => by simp at h
  | _, _, 0, _, .cons h _, e => by
    simp at e
    subst e
    exact ⟨_, rfl, h⟩
  | _, _, i + 1, d, .cons _ t, e => by
    obtain ⟨v, h1, h2⟩ := TvAll.getV (i := i) t (by simpa using e)
    exact ⟨v, by simpa using h1, h2⟩
theorem TvAll.take : ∀ {vs : List V} {ds : List PyData} (n : Nat), TvAll H vs ds → TvAll H (vs.take n) (ds.take n)
  | _, _, 0, _ => .nil
  | _, _, _ + 1, .nil => .nil
  | _, _, n + 1, .cons h t => .cons h (TvAll.take n t)
theorem TvAll.drop : ∀ {vs : List V} {ds : List PyData} (n : Nat), TvAll H vs ds → TvAll H (vs.drop n) (ds.drop n)
  | _, _, 0, h => h
  | _, _, _ + 1, .nil => .nil
  | _, _, n + 1, .cons _ t => TvAll.drop n t
theorem TvAll.strs : ∀ ws : List Str, TvAll H (ws.map V.str) (ws.map PyData.str)
  | [] => .nil
  | w :: r => .cons (.str w) (TvAll.strs r)
theorem TvAll.ints : ∀ ns : List Int, TvAll H (ns.map V.int) (ns.map PyData.int)
  | [] => .nil
  | n :: r => .cons (.int n) (TvAll.ints r)
theorem TvAll.strsV : ∀ {ws : List Str} {vs : List V}, TvAll H vs (ws.map PyData.str) → vs = ws.map V.str
  | [], _, .nil => rfl
  | w :: r, _, .cons h t => by
    cases h
    rw [TvAll.strsV t]
    rfl
theorem TvAll.intsV : ∀ {ns : List Int} {vs : List V}, TvAll H vs (ns.map PyData.int) → vs = ns.map V.int
  | [], _, .nil => rfl
  | w :: r, _, .cons h t => by
    cases h
    rw [TvAll.intsV t]
    rfl
/-- v is a datum, or a list of such -/
def Dv (H : Hp) (v : V) (d : PyData) : Prop := Tv H v d ∨ ∃ ds a xs, d = .list ds ∧ v = .ref a ∧ H a = some (.lst xs) ∧ TvAll H xs ds
theorem Dv.gx {v : V} {d : PyData} (g : Gx K H H') (h : Dv H v d) : Dv H' v d := by
  rcases h with h | ⟨ds, a, xs, e1, e2, h1, h2⟩
  · exact .inl (h.kt g.kt)
  · exact .inr ⟨ds, a, xs, e1, e2, g.lst h1, h2.kt g.kt⟩
theorem Dv.dp {v : V} {d : PyData} (h : Dv H v d) : Dp K H v d := by
  rcases h with h | ⟨ds, a, xs, e1, e2, h1, h2⟩
  · exact h.dp
  · subst e1 e2
    exact .lst (SqL.of h1) h2.dp
theorem Dv.list {v : V} {ds : List PyData} (h : Dv H v (.list ds)) : ∃ a xs, v = .ref a ∧ H a = some (.lst xs) ∧ TvAll H xs ds := by
  rcases h with h | ⟨ds', a, xs, e1, e2, h1, h2⟩
  · cases h
  · cases e1
    exact ⟨a, xs, e2, h1, h2⟩
theorem Dv.tup {v : V} {ds : List PyData} (h : Dv H v (.tuple ds)) : ∃ a xs, v = .ref a ∧ H a = some (.tup xs) ∧ TvAll H xs ds := by
  rcases h with h | ⟨ds', a, xs, e1, e2, h1, h2⟩
  · cases h with
    | tup h a => exact ⟨_, _, rfl, h, a⟩
  · cases e1
theorem Dv.intE {v : V} {i : Int} (h : Dv H v (.int i)) : v = .int i := by
  rcases h with h | ⟨ds', a, xs, e1, e2, h1, h2⟩
  · cases h
    rfl
  · cases e1
theorem Dv.strE {v : V} {i : Str} (h : Dv H v (.str i)) : v = .str i := by
  rcases h with h | ⟨ds', a, xs, e1, e2, h1, h2⟩
  · cases h
    rfl
  · cases e1
theorem Dv.blE {v : V} {i : Bool} (h : Dv H v (.bool i)) : v = .bl i := by
  rcases h with h | ⟨ds', a, xs, e1, e2, h1, h2⟩
  · cases h
    rfl
  · cases e1
theorem Dv.nonE {v : V} (h : Dv H v .none) : v = .non := by
  rcases h with h | ⟨ds', a, xs, e1, e2, h1, h2⟩
  · cases h
    rfl
  · cases e1
theorem Dv.int (i : Int) : Dv H (.int i) (.int i) := .inl (.int i)
theorem Dv.str (i : Str) : Dv H (.str i) (.str i) := .inl (.str i)
theorem Dv.bl (i : Bool) : Dv H (.bl i) (.bool i) := .inl (.bl i)
theorem Dv.non : Dv H .non .none := .inl .non
theorem Dv.ofT {a : Addr} {xs : List V} {ds : List PyData} (h : H a = some (.tup xs)) (t : TvAll H xs ds) : Dv H (.ref a) (.tuple ds) := .inl (.tup h t)
theorem Dv.ofL {a : Addr} {xs : List V} {ds : List PyData} (h : H a = some (.lst xs)) (t : TvAll H xs ds) : Dv H (.ref a) (.list ds) := .inr ⟨ds, a, xs, rfl, rfl, h, t⟩
/-- no list -/
def plainD : PyData → Bool
  | .list _ => false
  | _ => true
theorem Dv.tv {v : V} {d : PyData} (h : Dv H v d) (p : plainD d = true) : Tv H v d := by
  rcases h with h | ⟨ds', a, xs, e1, e2, h1, h2⟩
  · exact h
  · subst e1
    cases p
end
/-- several -/
abbrev DvAll (H : Hp) : List V → List PyData → Prop := Paired (Dv H)
theorem DvAll.gx {K : Fg} {H H' : Hp} (g : Gx K H H') : ∀ {vs : List V} {ds : List PyData}, DvAll H vs ds → DvAll H' vs ds
  | _, _, .nil => .nil
  | _, _, .cons h t => .cons (h.gx g) (DvAll.gx g t)
theorem DvAll.tv {H : Hp} : ∀ {vs : List V} {ds : List PyData}, DvAll H vs ds → ds.all plainD = true → TvAll H vs ds
  | _, _, .nil, _ => .nil
  | _, _, .cons h t, p => by
    obtain ⟨p1, p2⟩ := Bool.and_eq_true_iff.mp (show (plainD _ && List.all _ plainD) = true from p)
    exact .cons (h.tv p1) (DvAll.tv t p2)
theorem DvAll.length {H : Hp} {vs : List V} {ds : List PyData} (h : DvAll H vs ds) : vs.length = ds.length := Paired.length h
theorem sz {n : Nat} (h : n ≤ 200000) : n ≤ sizeLine := Nat.le_trans h (by decide)
theorem szl {n : Nat} (h : n ≤ 200000) : n < sizeLine := Nat.lt_of_le_of_lt h (by decide)

/-! ### what a reading gives -/
def Ev (K : Fg) (te : TE) (σ : L2.St) (H : Hp) (d : PyData) : Prop := ∀ H1, Gx K H H1 → ∀ Q : VK, (∀ v H2, Gx K H1 H2 → Dv H2 v d → Q v H2) → te σ H1 Q
/-- a new list -/
def En (K : Fg) (te : TE) (σ : L2.St) (H : Hp) (ds : List PyData) : Prop := ∀ H1, Gx K H H1 → ∀ Q : VK, (∀ a xs H2, Gx K H1 H2 → H1 a = none → H2 a = some (.lst xs) → TvAll H2 xs ds → Q (.ref a) H2) → te σ H1 Q
def EvT (K : Fg) (tt : TT) (σ : L2.St) (H : Hp) (b : Bool) : Prop := ∀ H1, Gx K H H1 → ∀ Q : Bool → Hp → Prop, (∀ H2, Gx K H1 H2 → Q b H2) → tt σ H1 Q
def EvA (K : Fg) (ta : TA) (σ : L2.St) (H : Hp) (ds : List PyData) : Prop := ∀ H1, Gx K H H1 → ∀ Q : List V → Hp → Prop, (∀ vs H2, Gx K H1 H2 → DvAll H2 vs ds → Q vs H2) → ta σ H1 Q
def EvO (K : Fg) (to : TO) (σ : L2.St) (H : Hp) (o : Option Int) : Prop := ∀ H1, Gx K H H1 → ∀ Q : Option Int → Hp → Prop, (∀ H2, Gx K H1 H2 → Q o H2) → to σ H1 Q
section
variable {K : Fg} {σ : L2.St} {H H1 H' : Hp} {ta tb' tc te : TE} {d e f : PyData} {t u : TT} {D : Ends}
theorem Ev.gx (g : Gx K H H') (h : Ev K te σ H d) : Ev K te σ H' d := fun H1 a Q q => h H1 (g.trans a) Q q
theorem EvT.gx {b : Bool} (g : Gx K H H') (h : EvT K t σ H b) : EvT K t σ H' b := fun H1 a Q q => h H1 (g.trans a) Q q
theorem En.ev {ds : List PyData} (h : En K te σ H ds) : Ev K te σ H (.list ds) := fun H1 g Q q => h H1 g Q fun a xs H2 g2 _ e1 e2 => q _ H2 g2 (.ofL e1 e2)
theorem ev_var {i : Nat} {v : V} (h : σ[i]? = some (some v)) (x : Dv H v d) : Ev K (tVar i) σ H d := fun H1 g _ q => ⟨v, h, q v H1 .refl (x.gx g)⟩
theorem ev_int {i : Int} : Ev K (tC (.int i)) σ H (.int i) := fun H1 _ _ q => q _ H1 .refl (.int i)
theorem ev_str {i : Str} : Ev K (tC (.str i)) σ H (.str i) := fun H1 _ _ q => q _ H1 .refl (.str i)
theorem ev_bl {i : Bool} : Ev K (tC (.bl i)) σ H (.bool i) := fun H1 _ _ q => q _ H1 .refl (.bl i)
theorem ev_non : Ev K (tC .non) σ H .none := fun H1 _ _ q => q _ H1 .refl .non
theorem ev_is {d' : PyData} (h : Ev K te σ H d) (e : d = d') : Ev K te σ H d' := e ▸ h
/-! operators -/
theorem ev_op {r : R2} (ha : Ev K ta σ H d) (hb : Ev K tb' σ H e) (hr : ∀ H1 x y, Gx K H H1 → Dv H1 x d → Dv H1 y e → ∀ Q : VK, (∀ v H2, Gx K H1 H2 → Dv H2 v f → Q v H2) → r x y H1 Q) : Ev K (tOp r ta tb') σ H f := fun H1 g Q q =>
  ha H1 g _ fun x H2 g2 hx => hb H2 (g.trans g2) _ fun y H3 g3 hy => hr H3 x y (g.trans (g2.trans g3)) (hx.gx g3) hy Q fun v H4 g4 hv => q v H4 (g2.trans (g3.trans g4)) hv
theorem ev_I0 {g : Int → Int → V} {i j : Int} (ha : Ev K ta σ H (.int i)) (hb : Ev K tb' σ H (.int j)) (hg : ∀ H, Dv H (g i j) f) : Ev K (tOp (rI0 g) ta tb') σ H f :=
  ev_op ha hb fun H1 x y _ hx hy Q q => ⟨i, j, hx.intE, hy.intE, q _ H1 .refl (hg H1)⟩
theorem ev_I {C : Int → Int → Prop} {g : Int → Int → V} {i j : Int} (ha : Ev K ta σ H (.int i)) (hb : Ev K tb' σ H (.int j)) (hc : C i j) (hg : ∀ H, Dv H (g i j) f) : Ev K (tOp (rI C g) ta tb') σ H f :=
  ev_op ha hb fun H1 x y _ hx hy Q q => ⟨i, j, hx.intE, hy.intE, hc, q _ H1 .refl (hg H1)⟩
theorem ev_add {i j : Int} (ha : Ev K ta σ H (.int i)) (hb : Ev K tb' σ H (.int j)) : Ev K (tOp (rI0 fun i j => .int (i + j)) ta tb') σ H (.int (i + j)) := ev_I0 ha hb fun _ => .int _
theorem ev_sub {i j : Int} (ha : Ev K ta σ H (.int i)) (hb : Ev K tb' σ H (.int j)) : Ev K (tOp (rI0 fun i j => .int (i - j)) ta tb') σ H (.int (i - j)) := ev_I0 ha hb fun _ => .int _
theorem ev_lt {i j : Int} (ha : Ev K ta σ H (.int i)) (hb : Ev K tb' σ H (.int j)) : Ev K (tOp (rI0 fun i j => .bl (decide (i < j))) ta tb') σ H (.bool (decide (i < j))) := ev_I0 ha hb fun _ => .bl _
theorem ev_le {i j : Int} (ha : Ev K ta σ H (.int i)) (hb : Ev K tb' σ H (.int j)) : Ev K (tOp (rI0 fun i j => .bl (decide (i ≤ j))) ta tb') σ H (.bool (decide (i ≤ j))) := ev_I0 ha hb fun _ => .bl _
theorem ev_gt {i j : Int} (ha : Ev K ta σ H (.int i)) (hb : Ev K tb' σ H (.int j)) : Ev K (tOp (rI0 fun i j => .bl (decide (j < i))) ta tb') σ H (.bool (decide (j < i))) := ev_I0 ha hb fun _ => .bl _
theorem ev_ge {i j : Int} (ha : Ev K ta σ H (.int i)) (hb : Ev K tb' σ H (.int j)) : Ev K (tOp (rI0 fun i j => .bl (decide (j ≤ i))) ta tb') σ H (.bool (decide (j ≤ i))) := ev_I0 ha hb fun _ => .bl _
theorem ev_addS {a b : Str} (ha : Ev K ta σ H (.str a)) (hb : Ev K tb' σ H (.str b)) (hz : a.length + b.length ≤ 200000) :
    Ev K (tOp (fun x y H Q => ∃ i j, x = .str i ∧ y = .str j ∧ i.length + j.length ≤ sizeLine ∧ Q (.str (i ++ j)) H) ta tb') σ H (.str (a ++ b)) :=
  ev_op ha hb fun H1 x y _ hx hy Q q => ⟨a, b, hx.strE, hy.strE, sz hz, q _ H1 .refl (.str _)⟩
theorem ev_eqI {i j : Int} (ha : Ev K ta σ H (.int i)) (hb : Ev K tb' σ H (.int j)) : Ev K (tOp rEq ta tb') σ H (.bool (decide (i = j))) :=
  ev_op ha hb fun H1 x y _ hx hy Q q => by
    cases hx.intE
    cases hy.intE
    refine ⟨rfl, ?_⟩
    have e : decide (V.int i = V.int j) = decide (i = j) := by simp
    rw [e]
    exact q _ H1 .refl (.bl _)
theorem ev_neI {i j : Int} (ha : Ev K ta σ H (.int i)) (hb : Ev K tb' σ H (.int j)) : Ev K (tOp rNe ta tb') σ H (.bool (!decide (i = j))) :=
  ev_op ha hb fun H1 x y _ hx hy Q q => by
    cases hx.intE
    cases hy.intE
    refine ⟨rfl, ?_⟩
    have e : decide (V.int i = V.int j) = decide (i = j) := by simp
    rw [e]
    exact q _ H1 .refl (.bl _)
theorem ev_eqS {i j : Str} (ha : Ev K ta σ H (.str i)) (hb : Ev K tb' σ H (.str j)) : Ev K (tOp rEq ta tb') σ H (.bool (decide (i = j))) :=
  ev_op ha hb fun H1 x y _ hx hy Q q => by
    cases hx.strE
    cases hy.strE
    refine ⟨rfl, ?_⟩
    have e : decide (V.str i = V.str j) = decide (i = j) := by simp
    rw [e]
    exact q _ H1 .refl (.bl _)
theorem ev_neS {i j : Str} (ha : Ev K ta σ H (.str i)) (hb : Ev K tb' σ H (.str j)) : Ev K (tOp rNe ta tb') σ H (.bool (!decide (i = j))) :=
  ev_op ha hb fun H1 x y _ hx hy Q q => by
    cases hx.strE
    cases hy.strE
    refine ⟨rfl, ?_⟩
    have e : decide (V.str i = V.str j) = decide (i = j) := by simp
    rw [e]
    exact q _ H1 .refl (.bl _)
theorem ev_eqB {i j : Bool} (ha : Ev K ta σ H (.bool i)) (hb : Ev K tb' σ H (.bool j)) : Ev K (tOp rEq ta tb') σ H (.bool (decide (i = j))) :=
  ev_op ha hb fun H1 x y _ hx hy Q q => by
    cases hx.blE
    cases hy.blE
    refine ⟨rfl, ?_⟩
    have e : decide (V.bl i = V.bl j) = decide (i = j) := by simp
    rw [e]
    exact q _ H1 .refl (.bl _)
theorem ev_neB {i j : Bool} (ha : Ev K ta σ H (.bool i)) (hb : Ev K tb' σ H (.bool j)) : Ev K (tOp rNe ta tb') σ H (.bool (!decide (i = j))) :=
  ev_op ha hb fun H1 x y _ hx hy Q q => by
    cases hx.blE
    cases hy.blE
    refine ⟨rfl, ?_⟩
    have e : decide (V.bl i = V.bl j) = decide (i = j) := by simp
    rw [e]
    exact q _ H1 .refl (.bl _)
theorem ev_eqD (ha : Ev K ta σ H d) (hb : Ev K tb' σ H e) (h1 : SeqAt.shaped d = true) (h2 : SeqAt.shaped e = true) : Ev K (tOp (rEqD K) ta tb') σ H (.bool (PyData.eqv d e)) :=
  ev_op ha hb fun H1 x y _ hx hy Q q => ⟨d, e, hx.dp, hy.dp, h1, h2, q _ H1 .refl (.bl _)⟩
theorem ev_neD (ha : Ev K ta σ H d) (hb : Ev K tb' σ H e) (h1 : SeqAt.shaped d = true) (h2 : SeqAt.shaped e = true) : Ev K (tOp (rNeD K) ta tb') σ H (.bool (!PyData.eqv d e)) :=
  ev_op ha hb fun H1 x y _ hx hy Q q => ⟨d, e, hx.dp, hy.dp, h1, h2, q _ H1 .refl (.bl _)⟩
/-- x is None -/
def isNoneD : PyData → Bool
  | .none => true
  | _ => false
theorem Dv.isN {v : V} (h : Dv H v d) : decide (v = .non) = isNoneD d := by
  rcases h with h | ⟨ds', a, xs, e1, e2, h1, h2⟩
  · cases h <;> simp [isNoneD]
  · subst e1 e2
    simp [isNoneD]
theorem ev_isN (ha : Ev K ta σ H d) : Ev K (tOp (fun x y H Q => y = .non ∧ Q (.bl (decide (x = .non))) H) ta (tC .non)) σ H (.bool (isNoneD d)) :=
  ev_op ha ev_non fun H1 x y _ hx hy Q q => ⟨hy.nonE, by rw [hx.isN]; exact q _ H1 .refl (.bl _)⟩
theorem ev_notN (ha : Ev K ta σ H d) : Ev K (tOp (fun x y H Q => y = .non ∧ Q (.bl (!decide (x = .non))) H) ta (tC .non)) σ H (.bool (!isNoneD d)) :=
  ev_op ha ev_non fun H1 x y _ hx hy Q q => ⟨hy.nonE, by rw [hx.isN]; exact q _ H1 .refl (.bl _)⟩
/-- c in s, c one sign -/
theorem ev_inSign {c : Nat} {z : Str} (ha : Ev K ta σ H (.str ⟨#[c]⟩)) (hb : Ev K tb' σ H (.str z)) :
    Ev K (tOp (fun x y H Q => ∃ (c : Nat) (z : Str), x = .str ⟨#[c]⟩ ∧ y = .str z ∧ Q (.bl (decide (c ∈ z.cps.toList))) H) ta tb') σ H (.bool (decide (c ∈ z.cps.toList))) :=
  ev_op ha hb fun H1 x y _ hx hy Q q => ⟨c, z, hx.strE, hy.strE, q _ H1 .refl (.bl _)⟩
/-! in, not in, over flat things -/
def flatD : PyData → Bool
  | .none => true
  | .bool _ => true
  | .int _ => true
  | .str _ => true
  | _ => false
theorem TvAll.flat : ∀ {vs : List V} {ds : List PyData}, TvAll H vs ds → ds.all flatD = true → vs.all flatV = true
  | _, _, .nil, _ => rfl
  | _, _, .cons h t, p => by
    obtain ⟨p1, p2⟩ := Bool.and_eq_true_iff.mp (show (flatD _ && List.all _ flatD) = true from p)
    refine Bool.and_eq_true_iff.mpr ⟨?_, TvAll.flat t p2⟩
    cases h <;> first | rfl | cases p1
def eqvD : PyData → PyData → Bool
  | .none, .none => true
  | .bool a, .bool b => a == b
  | .bool a, .int b => (if a then 1 else 0) == b
  | .int a, .bool b => a == (if b then 1 else 0)
  | .int a, .int b => a == b
  | .str a, .str b => a == b
  | _, _ => false
theorem eqvV {v w : V} {d e : PyData} (h : Tv H v d) (h2 : Tv H w e) : eqV v w = eqvD d e := by
  cases h <;> cases h2 <;> rfl
theorem inV_D {x : V} (hx : Tv H x d) : ∀ {vs : List V} {ds : List PyData}, TvAll H vs ds → inV x vs = ds.any fun y => eqvD y d
  | _, _, .nil => rfl
  | _, _, .cons h t => by
    show (eqV _ x || inV x _) = (eqvD _ d || List.any _ _)
    rw [eqvV h hx, inV_D hx t]
theorem ev_in {neg : Bool} {ds : List PyData} (ha : Ev K ta σ H d) (hb : Ev K tb' σ H e) (hl : e = .list ds ∨ e = .tuple ds) (h1 : flatD d = true) (h2 : ds.all flatD = true) : Ev K (tOp (rIn K neg) ta tb') σ H (.bool (if neg then !(ds.any fun y => eqvD y d) else ds.any fun y => eqvD y d)) :=
  ev_op ha hb fun H1 x y _ hx hy Q q => by
    have hx' : Tv H1 x d := hx.tv (by cases d <;> first | rfl | cases h1)
    have fx : flatV x = true := by cases hx' <;> first | rfl | cases h1
    rcases hl with rfl | rfl
    · obtain ⟨a, xs, rfl, e1, e2⟩ := hy.list
      refine ⟨a, xs, rfl, .inl (SqL.of e1), fx, e2.flat h2, ?_⟩
      rw [inV_D hx' e2]
      exact q _ H1 .refl (.bl _)
    · obtain ⟨a, xs, rfl, e1, e2⟩ := hy.tup
      refine ⟨a, xs, rfl, .inr (SqT.of e1), fx, e2.flat h2, ?_⟩
      rw [inV_D hx' e2]
      exact q _ H1 .refl (.bl _)
/-! tests -/
theorem et_test {b : Bool} (h : Ev K te σ H (.bool b)) : EvT K (tTest te) σ H b := fun H1 g Q q => h H1 g _ fun v H2 g2 hv => ⟨b, hv.blE, q H2 g2⟩
theorem et_B {b : Bool} (h : Ev K te σ H (.bool b)) : EvT K (tB te) σ H b := fun H1 g Q q => h H1 g _ fun v H2 g2 hv => ⟨b, hv.blE, q H2 g2⟩
theorem et_is {a b : Bool} (h : EvT K t σ H a) (e : a = b) : EvT K t σ H b := e ▸ h
theorem et_and {a b : Bool} (h1 : EvT K t σ H a) (h2 : a = true → EvT K u σ H b) : EvT K (tAnd t u) σ H (a && b) := fun H1 g Q q => h1 H1 g _ fun H2 g2 => by
  cases a with
  | true =>
    rw [if_pos rfl]
    exact h2 rfl H2 (g.trans g2) Q fun H3 g3 => q H3 (g2.trans g3)
  | false =>
    rw [if_neg Bool.false_ne_true]
    exact q H2 g2
theorem et_or {a b : Bool} (h1 : EvT K t σ H a) (h2 : a = false → EvT K u σ H b) : EvT K (tOr t u) σ H (a || b) := fun H1 g Q q => h1 H1 g _ fun H2 g2 => by
  cases a with
  | true =>
    rw [if_pos rfl]
    exact q H2 g2
  | false =>
    rw [if_neg Bool.false_ne_true]
    exact h2 rfl H2 (g.trans g2) Q fun H3 g3 => q H3 (g2.trans g3)
theorem et_not {a : Bool} (h1 : EvT K t σ H a) : EvT K (tNot t) σ H (!a) := fun H1 g _ q => h1 H1 g _ fun H2 g2 => q H2 g2
theorem ev_andV {a b : Bool} (h1 : Ev K ta σ H (.bool a)) (h2 : a = true → Ev K tb' σ H (.bool b)) : Ev K (tAndV ta tb') σ H (.bool (a && b)) := fun H1 g Q q => h1 H1 g _ fun v H2 g2 hv => ⟨a, hv.blE, by
  cases a with
  | true =>
    rw [if_pos rfl]
    exact h2 rfl H2 (g.trans g2) Q fun v H3 g3 hv => q v H3 (g2.trans g3) hv
  | false =>
    rw [if_neg Bool.false_ne_true]
    exact q _ H2 g2 (.bl _)⟩
theorem ev_notV {a : Bool} (h1 : Ev K ta σ H (.bool a)) : Ev K (tNotV ta) σ H (.bool (!a)) := fun H1 g _ q => h1 H1 g _ fun v H2 g2 hv => ⟨a, hv.blE, q _ H2 g2 (.bl _)⟩
theorem ev_if {b : Bool} (h : EvT K t σ H b) (h1 : b = true → Ev K ta σ H d) (h2 : b = false → Ev K tb' σ H d) : Ev K (tIf t ta tb') σ H d := fun H1 g Q q => h H1 g _ fun H2 g2 => by
  cases b with
  | true =>
    rw [if_pos rfl]
    exact h1 rfl H2 (g.trans g2) Q fun v H3 g3 hv => q v H3 (g2.trans g3) hv
  | false =>
    rw [if_neg Bool.false_ne_true]
    exact h2 rfl H2 (g.trans g2) Q fun v H3 g3 hv => q v H3 (g2.trans g3) hv
theorem ev_chain {r r' : R2} {a b : Bool} {x y z : PyData} (ha : Ev K ta σ H x) (hb : Ev K tb' σ H y) (hc : Ev K tc σ H z)
    (h1 : ∀ H1 v w, Gx K H H1 → Dv H1 v x → Dv H1 w y → ∀ Q : VK, (∀ u H2, Gx K H1 H2 → u = .bl a → Q u H2) → r v w H1 Q) (h2 : ∀ H1 v w, Gx K H H1 → Dv H1 v y → Dv H1 w z → ∀ Q : VK, (∀ u H2, Gx K H1 H2 → u = .bl b → Q u H2) → r' v w H1 Q) :
    Ev K (tChain r r' ta tb' tc) σ H (.bool (a && b)) := fun H1 g Q q => ha H1 g _ fun v H2 g2 hv => hb H2 (g.trans g2) _ fun w H3 g3 hw => h1 H3 v w (g.trans (g2.trans g3)) (hv.gx g3) hw _ fun s H4 g4 hs => ⟨a, hs, by
  cases a with
  | true =>
    rw [if_pos rfl]
    exact hc H4 (g.trans (g2.trans (g3.trans g4))) _ fun s2 H5 g5 hs2 => h2 H5 w s2 (g.trans (g2.trans (g3.trans (g4.trans g5)))) (hw.gx (g4.trans g5)) hs2 Q fun s3 H6 g6 hs3 => by
      subst hs3
      exact q _ H6 (g2.trans (g3.trans (g4.trans (g5.trans g6)))) (.bl _)
  | false =>
    rw [if_neg Bool.false_ne_true]
    exact q _ H4 (g2.trans (g3.trans g4)) (.bl _)⟩
/-- i <= j <= k -/
theorem ev_between {i j k : Int} (ha : Ev K ta σ H (.int i)) (hb : Ev K tb' σ H (.int j)) (hc : Ev K tc σ H (.int k)) :
    Ev K (tChain (rI0 fun i j => .bl (decide (i ≤ j))) (rI0 fun i j => .bl (decide (i ≤ j))) ta tb' tc) σ H (.bool (decide (i ≤ j) && decide (j ≤ k))) :=
  ev_chain ha hb hc (fun H1 v w _ hv hw Q q => ⟨i, j, hv.intE, hw.intE, q _ H1 .refl rfl⟩) fun H1 v w _ hv hw Q q => ⟨j, k, hv.intE, hw.intE, q _ H1 .refl rfl⟩
/-! truth -/
def truD : PyData → Bool
  | .none => false
  | .bool b => b
  | .int i => i != 0
  | .str s => (s.length : Int) != 0
  | .list xs => !xs.isEmpty
  | .tuple xs => !xs.isEmpty
  | .dict _ => false
theorem isEmpty_of {α β : Type} {xs : List α} {ys : List β} (h : xs.length = ys.length) : xs.isEmpty = ys.isEmpty := by
  cases xs <;> cases ys <;> simp at h <;> rfl
theorem Dv.tru {v : V} (h : Dv H v d) (hs : ∀ s, d = .str s → s.length ≤ 200000) : TruV K v H (truD d) := by
  rcases h with h | ⟨ds', a, xs, e1, e2, h1, h2⟩
  · cases h with
    | non => rfl
    | bl b => rfl
    | int i => rfl
    | str x => exact ⟨sz (hs x rfl), rfl⟩
    | tup h a => exact .inr (.inl ⟨_, SqT.of h, by rw [show truD (.tuple _) = !List.isEmpty _ from rfl, isEmpty_of a.length]⟩)
  · subst e1 e2
    exact .inl ⟨_, SqL.of h1, by rw [show truD (.list _) = !List.isEmpty _ from rfl, isEmpty_of h2.length]⟩
/-! arguments, displays -/
theorem ea_nil : EvA K tNil σ H [] := fun H1 _ _ q => q [] H1 .refl .nil
theorem ea_cons {tr : TA} {ds : List PyData} (h : Ev K ta σ H d) (hr : EvA K tr σ H ds) : EvA K (tCons ta tr) σ H (d :: ds) := fun H1 g _ q =>
  h H1 g _ fun v H2 g2 hv => hr H2 (g.trans g2) _ fun vs H3 g3 hvs => q _ H3 (g2.trans g3) (.cons (hv.gx g3) hvs)
theorem ev_tup {ta : TA} {ds : List PyData} (h : EvA K ta σ H ds) (hp : ds.all plainD = true) (hz : ds.length ≤ 200000) : Ev K (tTup ta) σ H (.tuple ds) := fun H1 g Q q =>
  h H1 g _ fun vs H2 g2 hvs => ⟨sz (by rw [hvs.length]; exact hz), fun p np => q _ _ (g2.trans (.new np)) (.ofT upd_same ((hvs.tv hp).kt (.new np)))⟩
theorem en_lst {ta : TA} {ds : List PyData} (h : EvA K ta σ H ds) (hp : ds.all plainD = true) (hz : ds.length ≤ 200000) : En K (tLst ta) σ H ds := fun H1 g Q q =>
  h H1 g _ fun vs H2 g2 hvs => ⟨sz (by rw [hvs.length]; exact hz), fun p np => q p vs _ (g2.trans (.new np)) (g2.free np) upd_same ((hvs.tv hp).kt (.new np))⟩
/-! parts -/
theorem eo_none : EvO K tNoPart σ H none := fun H1 _ _ q => q H1 .refl
theorem eo_some {i : Int} (h : Ev K te σ H (.int i)) : EvO K (tPart te) σ H (some i) := fun H1 g _ q => h H1 g _ fun v H2 g2 hv => ⟨i, hv.intE, q H2 g2⟩
/-- the places of a slice over data -/
def cutD (xs : List PyData) (lo hi : Option Int) : List PyData := (xs.drop (HT.sIx xs.length 0 lo)).take (HT.sIx xs.length xs.length hi - HT.sIx xs.length 0 lo)
theorem TvAll.cut {vs : List V} {ds : List PyData} (h : TvAll H vs ds) (lo hi : Option Int) : TvAll H (cutV vs lo hi) (cutD ds lo hi) := by
  unfold cutV cutD
  rw [h.length]
  exact (h.drop _).take _
theorem en_sl {tlo thi : TO} {ds : List PyData} {lo hi : Option Int} (h : Ev K te σ H (.list ds)) (h1 : EvO K tlo σ H lo) (h2 : EvO K thi σ H hi) : En K (L2.tSl (rSlL K) te tlo thi) σ H (cutD ds lo hi) := fun H1 g Q q =>
  h H1 g _ fun v H2 g2 hv => h1 H2 (g.trans g2) _ fun H3 g3 => h2 H3 (g.trans (g2.trans g3)) _ fun H4 g4 => by
    obtain ⟨a, xs, rfl, e1, e2⟩ := hv.list
    have e3 := (g3.trans g4).lst e1
    exact ⟨a, xs, rfl, SqL.of e3, fun p np => q p _ _ (g2.trans (g3.trans (g4.trans (.new np)))) ((g2.trans (g3.trans g4)).free np) upd_same (((e2.kt (g3.trans g4).kt).cut lo hi).kt (.new np))⟩
theorem ev_slS {tlo thi : TO} {z : Str} {lo hi : Option Int} (h : Ev K te σ H (.str z)) (h1 : EvO K tlo σ H lo) (h2 : EvO K thi σ H hi) (hz : z.length ≤ 200000) : Ev K (L2.tSl rSlS te tlo thi) σ H (.str (cutS z lo hi)) := fun H1 g Q q =>
  h H1 g _ fun v H2 g2 hv => h1 H2 (g.trans g2) _ fun H3 g3 => h2 H3 (g.trans (g2.trans g3)) _ fun H4 g4 => ⟨z, hv.strE, sz hz, q _ H4 (g2.trans (g3.trans g4)) (.str _)⟩
/-! items -/
theorem atI_some {α : Type} {xs : List α} {i : Int} {j : Nat} (h : ixN xs.length i = some j) {x : α} (hx : xs[j]? = some x) : atI xs i = some x := by
  unfold atI
  rw [h]
  exact hx
theorem TvAll.at {vs : List V} {ds : List PyData} {i : Int} (h : TvAll H vs ds) (e : atI ds i = some d) : ∃ v, atI vs i = some v ∧ Tv H v d := by
  unfold atI at e ⊢
  rw [h.length]
  cases q : ixN ds.length i with
  | none =>
    rw [q] at e
    cases e
  | some j =>
    rw [q] at e
    exact h.get e
theorem ev_ixL {ds : List PyData} {i : Int} (ha : Ev K ta σ H (.list ds)) (hb : Ev K tb' σ H (.int i)) (h : atI ds i = some d) : Ev K (tOp (rIxL K) ta tb') σ H d :=
  ev_op ha hb fun H1 x y _ hx hy Q q => by
    obtain ⟨a, xs, rfl, e1, e2⟩ := hx.list
    obtain ⟨v, h1, h2⟩ := e2.at h
    exact ⟨a, xs, i, v, rfl, hy.intE, SqL.of e1, h1, q v H1 .refl (.inl h2)⟩
theorem ev_ixT {ds : List PyData} {i : Int} (ha : Ev K ta σ H (.tuple ds)) (hb : Ev K tb' σ H (.int i)) (h : atI ds i = some d) : Ev K (tOp (rIxT K) ta tb') σ H d :=
  ev_op ha hb fun H1 x y _ hx hy Q q => by
    obtain ⟨a, xs, rfl, e1, e2⟩ := hx.tup
    obtain ⟨v, h1, h2⟩ := e2.at h
    exact ⟨a, xs, i, v, rfl, hy.intE, SqT.of e1, h1, q v H1 .refl (.inl h2)⟩
theorem ev_ixS {z : Str} {i : Int} {c : Nat} (ha : Ev K ta σ H (.str z)) (hb : Ev K tb' σ H (.int i)) (hz : z.length ≤ 200000) (h : atI z.cps.toList i = some c) : Ev K (tOp rIxS ta tb') σ H (.str ⟨#[c]⟩) :=
  ev_op ha hb fun H1 x y _ hx hy Q q => ⟨z, i, c, hx.strE, hy.intE, sz hz, h, q _ H1 .refl (.str _)⟩
/-! built-ins -/
theorem ev_cb {r : List V → Hp → VK → Prop} {ta : TA} {ds : List PyData} (h : EvA K ta σ H ds) (hr : ∀ H1 vs, Gx K H H1 → DvAll H1 vs ds → ∀ Q : VK, (∀ v H2, Gx K H1 H2 → Dv H2 v d → Q v H2) → r vs H1 Q) : Ev K (tCB r ta) σ H d := fun H1 g Q q =>
  h H1 g _ fun vs H2 g2 hvs => hr H2 vs (g.trans g2) hvs Q fun v H3 g3 hv => q v H3 (g2.trans g3) hv
theorem ea1 (h : Ev K ta σ H d) : EvA K (tCons ta tNil) σ H [d] := ea_cons h ea_nil
theorem ea2 (h : Ev K ta σ H d) (h2 : Ev K tb' σ H e) : EvA K (tCons ta (tCons tb' tNil)) σ H [d, e] := ea_cons h (ea_cons h2 ea_nil)
theorem ea3 (h : Ev K ta σ H d) (h2 : Ev K tb' σ H e) (h3 : Ev K tc σ H f) : EvA K (tCons ta (tCons tb' (tCons tc tNil))) σ H [d, e, f] := ea_cons h (ea_cons h2 (ea_cons h3 ea_nil))
theorem DvAll.one {v : List V} (h : DvAll H v [d]) : ∃ x, v = [x] ∧ Dv H x d := by
  cases h with
  | cons a b =>
    cases b
    exact ⟨_, rfl, a⟩
theorem DvAll.two {v : List V} (h : DvAll H v [d, e]) : ∃ x y, v = [x, y] ∧ Dv H x d ∧ Dv H y e := by
  cases h with
  | cons a b =>
    obtain ⟨y, rfl, h2⟩ := DvAll.one b
    exact ⟨_, y, rfl, a, h2⟩
theorem DvAll.three {v : List V} (h : DvAll H v [d, e, f]) : ∃ x y z, v = [x, y, z] ∧ Dv H x d ∧ Dv H y e ∧ Dv H z f := by
  cases h with
  | cons a b =>
    obtain ⟨y, z, rfl, h2, h3⟩ := DvAll.two b
    exact ⟨_, y, z, rfl, a, h2, h3⟩
theorem ev_lenL {ds : List PyData} (ha : Ev K ta σ H d) (hl : d = .list ds ∨ d = .tuple ds) : Ev K (tCB (fun xs H Q => ∃ p ys, xs = [.ref p] ∧ (SqL K H p ys ∨ SqT K H p ys) ∧ Q (.int ys.length) H) (tCons ta tNil)) σ H (.int (ds.length : Nat)) :=
  ev_cb (ea1 ha) fun H1 vs _ hvs Q q => by
    obtain ⟨x, rfl, hx⟩ := hvs.one
    rcases hl with rfl | rfl
    · obtain ⟨a, xs, rfl, e1, e2⟩ := hx.list
      exact ⟨a, xs, rfl, .inl (SqL.of e1), by rw [e2.length]; exact q _ H1 .refl (.int _)⟩
    · obtain ⟨a, xs, rfl, e1, e2⟩ := hx.tup
      exact ⟨a, xs, rfl, .inr (SqT.of e1), by rw [e2.length]; exact q _ H1 .refl (.int _)⟩
theorem ev_lenS {z : Str} (ha : Ev K ta σ H (.str z)) (hz : z.length ≤ 200000) : Ev K (tCB (fun xs H Q => ∃ z, xs = [.str z] ∧ z.length ≤ sizeLine ∧ Q (.int z.length) H) (tCons ta tNil)) σ H (.int (z.length : Nat)) :=
  ev_cb (ea1 ha) fun H1 vs _ hvs Q q => by
    obtain ⟨x, rfl, hx⟩ := hvs.one
    cases hx.strE
    exact ⟨z, rfl, sz hz, q _ H1 .refl (.int _)⟩
theorem ev_min {i j : Int} (ha : Ev K ta σ H (.int i)) (hb : Ev K tb' σ H (.int j)) : Ev K (tCB (fun xs H Q => ∃ i j, xs = [.int i, .int j] ∧ Q (.int (if j < i then j else i)) H) (tCons ta (tCons tb' tNil))) σ H (.int (if j < i then j else i)) :=
  ev_cb (ea2 ha hb) fun H1 vs _ hvs Q q => by
    obtain ⟨x, y, rfl, hx, hy⟩ := hvs.two
    cases hx.intE
    cases hy.intE
    exact ⟨i, j, rfl, q _ H1 .refl (.int _)⟩
theorem ev_max {i j : Int} (ha : Ev K ta σ H (.int i)) (hb : Ev K tb' σ H (.int j)) : Ev K (tCB (fun xs H Q => ∃ i j, xs = [.int i, .int j] ∧ Q (.int (if j > i then j else i)) H) (tCons ta (tCons tb' tNil))) σ H (.int (if j > i then j else i)) :=
  ev_cb (ea2 ha hb) fun H1 vs _ hvs Q q => by
    obtain ⟨x, y, rfl, hx, hy⟩ := hvs.two
    cases hx.intE
    cases hy.intE
    exact ⟨i, j, rfl, q _ H1 .refl (.int _)⟩
theorem ev_intI {i : Int} (ha : Ev K ta σ H (.int i)) : Ev K (tCB (fun xs H Q => (∃ i, xs = [.int i] ∧ Q (.int i) H) ∨ ∃ k, xs = [.bl k] ∧ Q (.int (if k then 1 else 0)) H) (tCons ta tNil)) σ H (.int i) :=
  ev_cb (ea1 ha) fun H1 vs _ hvs Q q => by
    obtain ⟨x, rfl, hx⟩ := hvs.one
    cases hx.intE
    exact .inl ⟨i, rfl, q _ H1 .refl (.int _)⟩
theorem ev_intS {z : Str} {n : Int} (ha : Ev K ta σ H (.str z)) (hn : PySem.intText? z = some n) (hz : z.length ≤ 640) : Ev K (tCB (fun xs H Q => ∃ a n, xs = [.str a] ∧ PySem.intText? a = some n ∧ a.length ≤ 640 ∧ Q (.int n) H) (tCons ta tNil)) σ H (.int n) :=
  ev_cb (ea1 ha) fun H1 vs _ hvs Q q => by
    obtain ⟨x, rfl, hx⟩ := hvs.one
    cases hx.strE
    exact ⟨z, n, rfl, hn, hz, q _ H1 .refl (.int _)⟩
theorem ev_strI {i : Int} (ha : Ev K ta σ H (.int i)) (hz : i.natAbs.log2 < 1920) : Ev K (tCB (fun xs H Q => ∃ i, xs = [.int i] ∧ i.natAbs.log2 < 1920 ∧ Q (.str (toString i)) H) (tCons ta tNil)) σ H (.str (toString i)) :=
  ev_cb (ea1 ha) fun H1 vs _ hvs Q q => by
    obtain ⟨x, rfl, hx⟩ := hvs.one
    cases hx.intE
    exact ⟨i, rfl, hz, q _ H1 .refl (.str _)⟩
theorem ev_tupleL {ds : List PyData} (ha : Ev K ta σ H (.list ds)) : Ev K (tCB (fun xs H Q => ∃ p ys, xs = [.ref p] ∧ ((SqL K H p ys ∧ ∀ l, H l = none → Q (.ref l) (upd H l (.tup ys))) ∨ (SqT K H p ys ∧ Q (.ref p) H))) (tCons ta tNil)) σ H (.tuple ds) :=
  ev_cb (ea1 ha) fun H1 vs _ hvs Q q => by
    obtain ⟨x, rfl, hx⟩ := hvs.one
    obtain ⟨a, xs, rfl, e1, e2⟩ := hx.list
    exact ⟨a, xs, rfl, .inl ⟨SqL.of e1, fun l nl => q _ _ (.new nl) (.ofT upd_same (e2.kt (.new nl)))⟩⟩
theorem en_listT {ds : List PyData} (ha : Ev K ta σ H (.tuple ds)) : En K (tCB (fun xs H Q => ∃ p ys, xs = [.ref p] ∧ (SqL K H p ys ∨ SqT K H p ys) ∧ ∀ l, H l = none → Q (.ref l) (upd H l (.lst ys))) (tCons ta tNil)) σ H ds := fun H1 g Q q =>
  ea1 ha H1 g _ fun vs H2 g2 hvs => by
    obtain ⟨x, rfl, hx⟩ := hvs.one
    obtain ⟨a, xs, rfl, e1, e2⟩ := hx.tup
    exact ⟨a, xs, rfl, .inr (SqT.of e1), fun l nl => q l xs _ (g2.trans (.new nl)) (g2.free nl) upd_same (e2.kt (.new nl))⟩
/-! the class of a datum -/
def tyD : PyData → String
  | .none => "NoneType"
  | .bool _ => "bool"
  | .int _ => "int"
  | .str _ => "str"
  | .list _ => "list"
  | .tuple _ => "tuple"
  | .dict _ => "dict"
theorem Dv.ty {v : V} (h : Dv H v d) : TyX K H v (.type (tyD d)) := by
  rcases h with h | ⟨ds', a, xs, e1, e2, h1, h2⟩
  · cases h with
    | non => exact .base .non
    | bl b => exact .base (.bl b)
    | int i => exact .base (.int i)
    | str x => exact .base (.str x)
    | tup h a => exact .base (.tup h)
  · subst e1 e2
    exact .base (.lst h1)
theorem ev_isi {n : String} {b : Bool} (ha : Ev K ta σ H d) (hb : kitB (tyD d) n = some b) : Ev K (tCB (rIsi K) (tCons ta (tCons (tC (.ty n)) tNil))) σ H (.bool b) := fun H1 g Q q =>
  ha H1 g _ fun v H2 g2 hv => ⟨v, .ty n, _, _, b, rfl, .ty n, hv.ty, kit_ty hb, q _ H2 g2 (.bl _)⟩
theorem ev_isi2 {n m : String} {b c : Bool} (ha : Ev K ta σ H d) (hb : kitB (tyD d) n = some b) (hc : kitB (tyD d) m = some c) :
    Ev K (tCB (rIsiT K) (tCons ta (tCons (tTup (tCons (tC (.ty n)) (tCons (tC (.ty m)) tNil))) tNil))) σ H (.bool (b || c)) := fun H1 g Q q =>
  ha H1 g _ fun v H2 g2 hv => ⟨by show 2 ≤ sizeLine; decide, fun p np => ⟨v, p, [.ty n, .ty m], _, [.type n, .type m], b || c, rfl, upd_same, .cons (.ty n) (.cons (.ty m) .nil), (hv.gx (K := K) (.new np)).ty,
    kitAny_cons (kit_ty hb) (fun e => by
      subst e
      exact kitAny_cons (kit_ty hc) (fun e => by
        subst e
        rfl) (fun e => by rw [e]; rfl)) (fun e => by rw [e]; rfl), q _ _ (g2.trans (.new np)) (.bl _)⟩⟩
/-! methods of texts -/
theorem en_split {a b : Str} (ha : Ev K ta σ H (.str a)) (hb : Ev K tb' σ H (.str b)) (h1 : (b.length == 0) = false) (hz : a.length ≤ 100000) :
    En K (tM1 (fun x xs H Q => ∃ a b, x = .str a ∧ xs = [.str b] ∧ (b.length == 0) = false ∧ a.length + 2 ≤ sizeLine ∧ rNewStrs (Txt.split a b) H Q) ta tb') σ H ((Txt.split a b).map PyData.str) := fun H1 g Q q =>
  ha H1 g _ fun v H2 g2 hv => ⟨⟨a, hv.strE⟩, hb H2 (g.trans g2) _ fun w H3 g3 hw => ⟨a, b, by rw [(hv.gx g3).strE], by rw [hw.strE], h1, sz (by omega), fun p np => q p _ _ (g2.trans (g3.trans (.new np))) ((g2.trans g3).free np) upd_same (TvAll.strs _)⟩⟩
theorem ev_join {a : Str} {ws : List Str} (ha : Ev K ta σ H (.str a)) (hb : Ev K tb' σ H (.list (ws.map PyData.str))) (hz : (ws.map (·.length)).sum + ws.length * a.length ≤ 200000) :
    Ev K (tM1 (fun x xs H Q => ∃ a p, ∃ ys : List Str, x = .str a ∧ xs = [.ref p] ∧ (SqL K H p (ys.map V.str) ∨ SqT K H p (ys.map V.str)) ∧ (ys.map (·.length)).sum + ys.length * a.length ≤ 16777216 ∧ Q (.str (Txt.join a ys)) H) ta tb') σ H (.str (Txt.join a ws)) := fun H1 g Q q =>
  ha H1 g _ fun v H2 g2 hv => ⟨⟨a, hv.strE⟩, hb H2 (g.trans g2) _ fun w H3 g3 hw => by
    obtain ⟨p, xs, rfl, e1, e2⟩ := hw.list
    exact ⟨a, p, ws, by rw [(hv.gx g3).strE], rfl, .inl (by rw [← e2.strsV]; exact SqL.of e1), by omega, q _ H3 (g2.trans g3) (.str _)⟩⟩
theorem ev_count {a b : Str} (ha : Ev K ta σ H (.str a)) (hb : Ev K tb' σ H (.str b)) : Ev K (tM1 (fun x xs H Q => ∃ a b, x = .str a ∧ xs = [.str b] ∧ Q (.int (Txt.count a b)) H) ta tb') σ H (.int (Txt.count a b)) := fun H1 g Q q =>
  ha H1 g _ fun v H2 g2 hv => ⟨⟨a, hv.strE⟩, hb H2 (g.trans g2) _ fun w H3 g3 hw => ⟨a, b, by rw [(hv.gx g3).strE], by rw [hw.strE], q _ H3 (g2.trans g3) (.int _)⟩⟩
/-! calls of defs that raise nothing: R ds r, what the arguments give -/
def SpR (K : Fg) (R : List PyData → PyData → Prop) : Sp := fun vs H Q _ => ∃ ds r, DvAll H vs ds ∧ R ds r ∧ GT K H ∧ ∀ v H', Gx K H H' → Dv H' v r → Q v H'
theorem ev_call {R : List PyData → PyData → Prop} {E : XK} {ta : TA} {ds : List PyData} (t : GT K H) (h : EvA K ta σ H ds) (hr : R ds d) : Ev K (tCall (SpR K R) [] E ta) σ H d := fun H1 g Q q =>
  h H1 g _ fun vs H2 g2 hvs => by
    show SpR K R (vs ++ []) H2 Q E
    rw [List.append_nil]
    exact ⟨ds, d, hvs, hr, (g.trans g2).gt t, fun v H3 g3 hv => q v H3 (g2.trans g3) hv⟩
/-! statements -/
theorem s_asg {i : Nat} (h : Ev K te σ H d) (k : ∀ v H1, Gx K H H1 → Dv H1 v d → D.nx (σ.set i (some v)) H1) : tAsg te (gName i) D σ H := h H .refl _ fun v H1 g hv => k v H1 g hv
theorem s_asgN {i : Nat} {ds : List PyData} (h : En K te σ H ds) (k : ∀ a xs H1, Gx K H H1 → H a = none → H1 a = some (.lst xs) → TvAll H1 xs ds → D.nx (σ.set i (some (.ref a))) H1) : tAsg te (gName i) D σ H := h H .refl _ fun a xs H1 g n e1 e2 => k a xs H1 g n e1 e2
theorem s_ret (h : Ev K te σ H d) (k : ∀ v H1, Gx K H H1 → Dv H1 v d → D.rt v H1) : tRet te D σ H := h H .refl _ k
theorem s_if {b : Bool} {tu tw : TS} (h : EvT K t σ H b) (h1 : b = true → ∀ H1, Gx K H H1 → tu D σ H1) (h2 : b = false → ∀ H1, Gx K H H1 → tw D σ H1) : tIfS t tu tw D σ H := h H .refl _ fun H1 g => by
  cases b with
  | true =>
    rw [if_pos rfl]
    exact h1 rfl H1 g
  | false =>
    rw [if_neg Bool.false_ne_true]
    exact h2 rfl H1 g
theorem q_asg {i : Nat} {tz : TS} (h : Ev K te σ H d) (k : ∀ v H1, Gx K H H1 → Dv H1 v d → tz D (σ.set i (some v)) H1) : tSeq (tAsg te (gName i)) tz D σ H := s_asg (D := { D with nx := tz D }) h k
theorem q_asgN {i : Nat} {tz : TS} {ds : List PyData} (h : En K te σ H ds) (k : ∀ a xs H1, Gx K H H1 → H a = none → H1 a = some (.lst xs) → TvAll H1 xs ds → tz D (σ.set i (some (.ref a))) H1) : tSeq (tAsg te (gName i)) tz D σ H := s_asgN (D := { D with nx := tz D }) h k
theorem q_when {b : Bool} {tu tz : TS} (h : EvT K t σ H b) (h1 : b = true → ∀ H1, Gx K H H1 → tu { D with nx := tz D } σ H1) (h2 : b = false → ∀ H1, Gx K H H1 → tz D σ H1) : tSeq (tIfS t tu tNext) tz D σ H := s_if (D := { D with nx := tz D }) h h1 h2
end
end LP

/-! LpEv2 -/
set_option maxHeartbeats 4000000
/-! What a reading gives at the level of data: comprehensions, all(..), loops, errors. -/
namespace LP
open PySem PySem.Spec PyProof.Rows L2 RZ
/-! ### sources -/
/-- from H2 on J has n turns, the i-th item is told by item -/
def Src (K : Fg) (J : It) (n : Nat) (item : Nat → V → Hp → Prop) (H2 : Hp) : Prop := ∃ (G : Hp → Prop) (Y : Nat → Hp → V → Hp → Prop), L2.Walk J n G Y ∧ (∀ H', Gx K H2 H' → G H') ∧ ∀ i H' x H'', i < n → Gx K H2 H' → Y i H' x H'' → Gx K H' H'' ∧ item i x H''
def SrcE (K : Fg) (wi : TI) (σ : L2.St) (H : Hp) (n : Nat) (item : Nat → V → Hp → Prop) : Prop := ∀ H1, Gx K H H1 → ∀ R : It → Hp → Prop, (∀ J H2, Gx K H1 H2 → Src K J n item H2 → R J H2) → wi σ H1 R
section
variable {K : Fg} {σ : L2.St} {H H1 H' : Hp} {ta tb' tc te : TE} {d e f : PyData} {t u : TT} {D : Ends} {wi : TI} {g : TG} {n : Nat} {item : Nat → V → Hp → Prop}
abbrev itemD (ds : List PyData) : Nat → V → Hp → Prop := fun i x H => ∃ d, ds[i]? = some d ∧ Dv H x d
theorem src_list {ds : List PyData} (h : Ev K te σ H (.list ds)) : SrcE K (iList K te) σ H ds.length (itemD ds) := fun H1 g R q =>
  h H1 g _ fun v H2 g2 hv => by
    obtain ⟨a, xs, rfl, e1, e2⟩ := hv.list
    refine ⟨a, rfl, ⟨xs, SqL.of e1⟩, q _ H2 g2 ⟨_, _, by rw [← e2.length]; exact walk_list (xs := xs), fun H' g3 => SqL.of (g3.lst e1), fun i H' x H'' hi g3 y => ?_⟩⟩
    obtain ⟨rfl, hx⟩ := y
    obtain ⟨d, h1, h2⟩ := e2.getV hx
    exact ⟨.refl, d, h1, .inl (h2.kt g3.kt)⟩
theorem src_tup {ds : List PyData} (h : Ev K te σ H (.tuple ds)) : SrcE K (iTup K te) σ H ds.length (itemD ds) := fun H1 g R q =>
  h H1 g _ fun v H2 g2 hv => by
    obtain ⟨a, xs, rfl, e1, e2⟩ := hv.tup
    refine ⟨a, rfl, ⟨xs, SqT.of e1⟩, q _ H2 g2 ⟨_, _, by rw [← e2.length]; exact walk_tup (xs := xs), fun H' g3 => SqT.of (g3.tup e1), fun i H' x H'' hi g3 y => ?_⟩⟩
    obtain ⟨rfl, hx⟩ := y
    obtain ⟨d, h1, h2⟩ := e2.getV hx
    exact ⟨.refl, d, h1, .inl (h2.kt g3.kt)⟩
theorem src_range1 {j : Nat} (h : Ev K te σ H (.int j)) (hj : j ≤ 100000) : SrcE K (iRng1 (tCons te tNil)) σ H j (fun i x _ => x = .int (i : Nat)) := fun H1 g R q =>
  ea1 h H1 g _ fun vs H2 g2 hvs => by
    obtain ⟨x, rfl, hx⟩ := hvs.one
    cases hx.intE
    refine ⟨j, rfl, by omega, by omega, q _ H2 g2 ⟨_, _, walk_range (lo := 0) (n := (j : Int).toNat), fun _ _ => True.intro, fun i H' x H'' hi g3 y => ?_⟩⟩
    obtain ⟨rfl, hx⟩ := y
    exact ⟨.refl, by rw [hx]; simp⟩
theorem src_range2 {lo j : Nat} (h0 : Ev K ta σ H (.int lo)) (h : Ev K te σ H (.int j)) (hj : j ≤ 100000) (hl : lo ≤ 100000) : SrcE K (iRng2 (tCons ta (tCons te tNil))) σ H (j - lo) (fun i x _ => x = .int ((lo + i : Nat) : Int)) := fun H1 g R q =>
  ea2 h0 h H1 g _ fun vs H2 g2 hvs => by
    obtain ⟨y, x, rfl, hy, hx⟩ := hvs.two
    cases hx.intE
    cases hy.intE
    have e : ((j : Int) - (lo : Int)).toNat = j - lo := by omega
    refine ⟨lo, j, rfl, ⟨by omega, by omega, by omega, by omega⟩, q _ H2 g2 ⟨_, _, by rw [e]; exact walk_range (lo := (lo : Int)) (n := j - lo), fun _ _ => True.intro, fun i H' x H'' hi g3 y => ?_⟩⟩
    obtain ⟨rfl, hx⟩ := y
    exact ⟨.refl, by rw [hx]; push_cast; rfl⟩
/-- pairs: a new tuple of two -/
abbrev itemP (p : Nat → PyData) (ds : List PyData) : Nat → V → Hp → Prop := fun i x H => ∃ T v w d, x = .ref T ∧ H T = some (.tup [v, w]) ∧ Tv H v (p i) ∧ ds[i]? = some d ∧ Tv H w d
theorem src_enumT {ds : List PyData} (h : Ev K te σ H (.tuple ds)) : SrcE K (iEnumT K (tCons te tNil)) σ H ds.length (itemP (fun i => .int (i : Nat)) ds) := fun H1 g R q =>
  ea1 h H1 g _ fun vs H2 g2 hvs => by
    obtain ⟨x, rfl, hx⟩ := hvs.one
    obtain ⟨a, xs, rfl, e1, e2⟩ := hx.tup
    refine ⟨a, xs, rfl, SqT.of e1, q _ H2 g2 ⟨_, _, by rw [← e2.length]; exact walk_enumT (xs := xs), fun H' g3 => SqT.of (g3.tup e1), fun i H' x H'' hi g3 y => ?_⟩⟩
    obtain ⟨T, v, w, rfl, nT, rfl, h1, h2⟩ := y
    obtain ⟨d, h3, h4⟩ := e2.getV h2
    cases h1
    exact ⟨.new nT, T, _, w, d, rfl, upd_same, .int _, h3, (h4.kt g3.kt).kt (.new nT)⟩
theorem src_enumL {ds : List PyData} (h : Ev K te σ H (.list ds)) : SrcE K (iEnum K (tCons te tNil)) σ H ds.length (itemP (fun i => .int (i : Nat)) ds) := fun H1 g R q =>
  ea1 h H1 g _ fun vs H2 g2 hvs => by
    obtain ⟨x, rfl, hx⟩ := hvs.one
    obtain ⟨a, xs, rfl, e1, e2⟩ := hx.list
    refine ⟨a, xs, rfl, SqL.of e1, q _ H2 g2 ⟨_, _, by rw [← e2.length]; exact walk_enum (xs := xs), fun H' g3 => SqL.of (g3.lst e1), fun i H' x H'' hi g3 y => ?_⟩⟩
    obtain ⟨T, v, w, rfl, nT, rfl, h1, h2⟩ := y
    obtain ⟨d, h3, h4⟩ := e2.getV h2
    cases h1
    exact ⟨.new nT, T, _, w, d, rfl, upd_same, .int _, h3, (h4.kt g3.kt).kt (.new nT)⟩
/-- zip of two tuples of one length or nearly -/
theorem src_zipT {ds es : List PyData} (h : EvA K (tCons ta (tCons te tNil)) σ H [.tuple ds, .tuple es]) : SrcE K (iZipA K (tCons ta (tCons te tNil))) σ H (min ds.length es.length)
    (fun i x H => ∃ T v w d e, x = .ref T ∧ H T = some (.tup [v, w]) ∧ ds[i]? = some d ∧ Tv H v d ∧ es[i]? = some e ∧ Tv H w e) := fun H1 g R q =>
  h H1 g _ fun vs H2 g2 hvs => by
    obtain ⟨x, y, rfl, hx, hy⟩ := hvs.two
    obtain ⟨a, xs, rfl, e1, e2⟩ := hx.tup
    obtain ⟨b, ys, rfl, e3, e4⟩ := hy.tup
    refine ⟨a, b, xs, ys, rfl, .inr ⟨SqT.of e1, SqT.of e3, q _ H2 g2 ⟨_, _, walk_zipT (xs := xs) (ys := ys) (by rw [e2.length, e4.length]), fun H' g3 => ⟨SqT.of (g3.tup e1), SqT.of (g3.tup e3)⟩, fun i H' x H'' hi g3 y => ?_⟩⟩⟩
    obtain ⟨T, v, w, rfl, nT, rfl, h1, h2⟩ := y
    obtain ⟨d, h3, h4⟩ := e2.getV h1
    obtain ⟨d2, h5, h6⟩ := e4.getV h2
    exact ⟨.new nT, T, v, w, d, d2, rfl, upd_same, h3, (h4.kt g3.kt).kt (.new nT), h5, (h6.kt g3.kt).kt (.new nT)⟩

/-! ### comprehensions -/
def selD (n : Nat) (keep : Nat → Bool) (val : Nat → PyData) : List PyData := ((List.range n).filter keep).map val
theorem selD_yes {keep : Nat → Bool} {val : Nat → PyData} {i : Nat} (h : keep i = true) : selD (i + 1) keep val = selD i keep val ++ [val i] := by
  unfold selD
  rw [List.range_succ, List.filter_append, List.map_append]
  simp [List.filter, h]
theorem selD_no {keep : Nat → Bool} {val : Nat → PyData} {i : Nat} (h : keep i = false) : selD (i + 1) keep val = selD i keep val := by
  unfold selD
  rw [List.range_succ, List.filter_append, List.map_append]
  simp [List.filter, h]
theorem selD_len (n : Nat) (keep : Nat → Bool) (val : Nat → PyData) : (selD n keep val).length ≤ n := by
  unfold selD
  rw [List.length_map]
  exact Nat.le_trans (List.length_filter_le _ _) (by simp)
theorem selD_all {ds : List PyData} {fn : PyData → PyData} {val : Nat → PyData} (h : ∀ i d, ds[i]? = some d → val i = fn d) : selD ds.length (fun _ => true) val = ds.map fn := by
  unfold selD
  rw [List.filter_eq_self.mpr (fun _ _ => rfl)]
  apply List.ext_getElem?
  intro i
  rw [List.getElem?_map, List.getElem?_map]
  by_cases hi : i < ds.length
  · rw [List.getElem?_range hi]
    have e : ds[i]? = some ds[i] := by simp [hi]
    rw [e]
    exact congrArg some (h i _ e)
  · rw [List.getElem?_eq_none (by simpa using hi), List.getElem?_eq_none (by omega)]
    rfl
/-- the turn's target and tests, then its element -/
def TurnE (K : Fg) (g : TG) (tt : TT) (te : TE) (vs : List Nat) (σ : L2.St) (H : Hp) (n : Nat) (item : Nat → V → Hp → Prop) (keep : Nat → Bool) (val : Nat → PyData) : Prop :=
  ∀ i x H', i < n → Gx K H H' → item i x H' → ∀ Q2 : L2.St → Hp → Prop, (∀ σ2 H2, Gx K H' H2 → wipe σ2 vs = wipe σ vs → EvT K tt σ2 H2 (keep i) → (keep i = true → Ev K te σ2 H2 (val i)) → Q2 σ2 H2) → g x (wipe σ vs) H' Q2
theorem et_yes : EvT K tYes σ H true := fun H1 _ _ q => q H1 .refl
theorem en_lc {tt : TT} {vs : List Nat} {keep : Nat → Bool} {val : Nat → PyData} (hs : SrcE K wi σ H n item) (ht : TurnE K g tt te vs σ H n item keep val) (hp : ∀ i, i < n → keep i = true → plainD (val i) = true) (hz : n ≤ 100000) :
    En K (tLc wi g tt te vs) σ H (selD n keep val) := fun H1 g1 Q q =>
  hs H1 g1 _ fun J H2 g2 hJ Dl nD => by
    obtain ⟨G, Y, W, hG, hY⟩ := hJ
    have base : Gx K H2 (upd H2 Dl (.lst [])) := .new nD
    refine lc_it W (fun i H' => Gx K H2 H' ∧ ∃ ys, H' Dl = some (.lst ys) ∧ TvAll H' ys (selD i keep val)) ⟨base, [], upd_same, .nil⟩ (fun i H' _ p => hG H' p.1) (fun i x H' H'' hi p y => ?_) (fun H' p => ?_)
    · obtain ⟨g3, ys, e1, e2⟩ := p
      obtain ⟨g4, it⟩ := hY i H' x H'' hi g3 y
      refine ht i x H'' hi (g1.trans (g2.trans (g3.trans g4))) it _ fun σ2 H3 g5 hw tk ek => ⟨hw, tk H3 .refl _ fun H4 g6 => ?_⟩
      cases hk : keep i with
      | true =>
        rw [if_pos rfl]
        refine ek hk H4 g6 _ fun v H5 g7 hv => ?_
        have g8 : Gx K H' H5 := g4.trans (g5.trans (g6.trans g7))
        have e5 : H5 Dl = some (.lst ys) := g8.lst e1
        have lz : ys.length ≤ i := by rw [e2.length]; exact selD_len _ _ _
        have kt : Kt H5 (upd H5 Dl (.lst (ys ++ [v]))) := .mut e5
        refine ⟨ys, e5, szl (by omega), (g3.trans g8).mut nD e5, ys ++ [v], upd_same, ?_⟩
        rw [selD_yes hk]
        exact ((e2.kt g8.kt).kt kt).app (.cons ((hv.tv (hp i hi hk)).kt kt) .nil)
      | false =>
        rw [if_neg Bool.false_ne_true]
        have g8 : Gx K H' H4 := g4.trans (g5.trans g6)
        refine ⟨g3.trans g8, ys, g8.lst e1, ?_⟩
        rw [selD_no hk]
        exact e2.kt g8.kt
    · obtain ⟨g3, ys, e1, e2⟩ := p
      exact q Dl ys H' (g2.trans g3) (g2.free nD) e1 e2
/-- the plain turn: the item goes to slot j -/
theorem turn_name {j : Nat} {vs : List Nat} {tt : TT} {keep : Nat → Bool} {val : Nat → PyData} (hw : ∀ x, wipe ((wipe σ vs).set j (some x)) vs = wipe σ vs)
    (ht : ∀ i x H', i < n → Gx K H H' → item i x H' → EvT K tt ((wipe σ vs).set j (some x)) H' (keep i)) (he : ∀ i x H', i < n → Gx K H H' → item i x H' → keep i = true → Ev K te ((wipe σ vs).set j (some x)) H' (val i)) :
    TurnE K (gName j) tt te vs σ H n item keep val := fun i x H' hi g0 it Q2 q => q _ H' .refl (hw x) (ht i x H' hi g0 it) (he i x H' hi g0 it)
/-- the pair goes to slots j and l -/
theorem turn_pair {j l : Nat} {vs : List Nat} {tt : TT} {keep : Nat → Bool} {val : Nat → PyData} {p : Nat → PyData} {ds : List PyData} (hw : ∀ x y, wipe (((wipe σ vs).set j (some x)).set l (some y)) vs = wipe σ vs)
    (ht : ∀ i x y d H', i < n → Gx K H H' → Tv H' x (p i) → ds[i]? = some d → Tv H' y d → EvT K tt (((wipe σ vs).set j (some x)).set l (some y)) H' (keep i))
    (he : ∀ i x y d H', i < n → Gx K H H' → Tv H' x (p i) → ds[i]? = some d → Tv H' y d → keep i = true → Ev K te (((wipe σ vs).set j (some x)).set l (some y)) H' (val i)) :
    TurnE K (gTup K 2 (gCons (gName j) (gCons (gName l) gNil))) tt te vs σ H n (itemP p ds) keep val := fun i x H' hi g0 it Q2 q => by
  obtain ⟨T, v, w, d, rfl, eT, h1, h2, h3⟩ := it
  exact ⟨T, [v, w], rfl, SqT.of eT, rfl, v, [w], rfl, w, [], rfl, rfl, q _ H' .refl (hw v w) (ht i v w d H' hi g0 h1 h2 h3) (he i v w d H' hi g0 h1 h2 h3)⟩

/-! ### all(..) -/
theorem gx_tabbed {x : Str} (hx : x ∈ gtNames) (hne : tb K x ≠ ltb K) (tg : GxR.TabG H (tb K x)) (t : GxR.Tabbed (tb K x) H H1) : Gx K H H1 := by
  obtain ⟨t1, t2⟩ := t
  obtain ⟨ps0, hp0, _⟩ := tg
  refine ⟨fun gt y hy => ?_, fun b o h nt => ?_, fun b ps h => ?_⟩
  · by_cases e : tb K y = tb K x
    · rw [e]
      exact t1
    · obtain ⟨ps, h1, h2⟩ := gt y hy
      exact ⟨ps, by rw [t2 _ e]; exact h1, h2⟩
  · by_cases e : b = tb K x
    · rcases nt with nt | nt
      · rw [e, hp0] at h
        exact absurd (Option.some.inj h).symm (nt ps0)
      · exact absurd (e.symm.trans nt) hne
    · rw [t2 b e]
      exact h
  · by_cases e : b = tb K x
    · obtain ⟨ps', h1, _⟩ := t1
      exact ⟨ps', by rw [e]; exact h1⟩
    · exact ⟨ps, by rw [t2 b e]; exact h⟩
theorem ev_all {x : Str} {vs : List Nat} {val : Nat → Bool} (hx : x ∈ gtNames) (hne : tb K x ≠ ltb K) (t0 : GT K H) (hs : SrcE K wi σ H n item)
    (ht : TurnE K g tYes te vs σ H n item (fun _ => true) (fun i => .bool (val i))) : Ev K (tAllG (tb K x) wi g te vs) σ H (.bool ((List.range n).all val)) := fun H1 g1 Q q =>
  hs H1 g1 _ fun J H2 g2 hJ => by
    have tg := (g1.trans g2).gt t0 x hx
    refine ⟨tg, fun H3 htb => ?_⟩
    have g3 : Gx K H2 H3 := gx_tabbed hx hne tg htb
    obtain ⟨G, Y, W, hG, hY⟩ := hJ
    refine ⟨fun i m H' => i ≤ n ∧ m = n + 1 - i ∧ Gx K H2 H' ∧ (List.range i).all val = true, ⟨n + 1, Nat.zero_le _, by omega, g3, rfl⟩, fun i m H' hW => ?_⟩
    obtain ⟨hi, hm, g4, hv⟩ := hW
    by_cases hlt : i < n
    · refine .inr ⟨W.goes i H' hlt (hG H' g4), fun x' H'' y => ?_⟩
      obtain ⟨g5, it⟩ := hY i H' x' H'' hlt g4 (W.yields i H' x' H'' hlt (hG H' g4) y)
      refine ht i x' H'' hlt (g1.trans (g2.trans (g4.trans g5))) it _ fun σ2 H4 g6 hw _ ek => ⟨hw, ek rfl H4 .refl _ fun v H5 g7 hv5 => ⟨val i, hv5.blE, ?_⟩⟩
      have g8 : Gx K H2 H5 := g4.trans (g5.trans (g6.trans g7))
      cases hb : val i with
      | true =>
        rw [if_pos rfl]
        refine ⟨m - 1, by omega, by omega, by omega, g8, ?_⟩
        rw [List.range_succ, List.all_append, hv]
        simp [hb]
      | false =>
        rw [if_neg Bool.false_ne_true]
        refine ⟨by omega, ?_⟩
        have e : (List.range n).all val = false := by
          cases q2 : (List.range n).all val with
          | false => rfl
          | true =>
            have := List.all_eq_true.mp q2 i (List.mem_range.mpr hlt)
            rw [hb] at this
            cases this
        rw [e] at q
        exact q _ H5 (g2.trans g8) (.bl _)
    · have ei : i = n := by omega
      subst ei
      refine .inl ⟨W.stops H' (hG H' g4), ?_⟩
      rw [hv] at q
      exact q _ H' (g2.trans g4) (.bl _)

/-! ### loops -/
/-- a source of tuples: it stays while the tuples stand -/
def SrcK (J : It) (K : Fg) (n : Nat) (item : Nat → V → Hp → Prop) (H2 : Hp) : Prop := ∃ (G : Hp → Prop) (Y : Nat → Hp → V → Hp → Prop), L2.Walk J n G Y ∧ (∀ H', Kt H2 H' → G H') ∧ ∀ i H' x H'', i < n → Kt H2 H' → Y i H' x H'' → Gx K H' H'' ∧ item i x H''
def SrcKE (K : Fg) (wi : TI) (σ : L2.St) (H : Hp) (n : Nat) (item : Nat → V → Hp → Prop) : Prop := ∀ R : It → Hp → Prop, (∀ J H2, Gx K H H2 → SrcK J K n item H2 → R J H2) → wi σ H R
theorem srk_tup {ds : List PyData} (h : Ev K te σ H (.tuple ds)) : SrcKE K (iTup K te) σ H ds.length (itemD ds) := fun R q =>
  h H .refl _ fun v H2 g2 hv => by
    obtain ⟨a, xs, rfl, e1, e2⟩ := hv.tup
    refine ⟨a, rfl, ⟨xs, SqT.of e1⟩, q _ H2 g2 ⟨_, _, by rw [← e2.length]; exact walk_tup (xs := xs), fun H' g3 => SqT.of (g3 _ _ e1), fun i H' x H'' hi g3 y => ?_⟩⟩
    obtain ⟨rfl, hx⟩ := y
    obtain ⟨d, h1, h2⟩ := e2.getV hx
    exact ⟨.refl, d, h1, .inl (h2.kt g3)⟩
theorem srk_range1 {j : Nat} (h : Ev K te σ H (.int j)) (hj : j ≤ 100000) : SrcKE K (iRng1 (tCons te tNil)) σ H j (fun i x _ => x = .int (i : Nat)) := fun R q =>
  ea1 h H .refl _ fun vs H2 g2 hvs => by
    obtain ⟨x, rfl, hx⟩ := hvs.one
    cases hx.intE
    refine ⟨j, rfl, by omega, by omega, q _ H2 g2 ⟨_, _, walk_range (lo := 0) (n := (j : Int).toNat), fun _ _ => True.intro, fun i H' x H'' hi g3 y => ?_⟩⟩
    obtain ⟨rfl, hx⟩ := y
    exact ⟨.refl, by rw [hx]; simp⟩
theorem srk_range2 {lo j : Nat} (h0 : Ev K ta σ H (.int lo)) (h : Ev K te σ H (.int j)) (hj : j ≤ 100000) (hl : lo ≤ 100000) : SrcKE K (iRng2 (tCons ta (tCons te tNil))) σ H (j - lo) (fun i x _ => x = .int ((lo + i : Nat) : Int)) := fun R q =>
  ea2 h0 h H .refl _ fun vs H2 g2 hvs => by
    obtain ⟨y, x, rfl, hy, hx⟩ := hvs.two
    cases hx.intE
    cases hy.intE
    have e : ((j : Int) - (lo : Int)).toNat = j - lo := by omega
    refine ⟨lo, j, rfl, ⟨by omega, by omega, by omega, by omega⟩, q _ H2 g2 ⟨_, _, by rw [e]; exact walk_range (lo := (lo : Int)) (n := j - lo), fun _ _ => True.intro, fun i H' x H'' hi g3 y => ?_⟩⟩
    obtain ⟨rfl, hx⟩ := y
    exact ⟨.refl, by rw [hx]; push_cast; rfl⟩
theorem srk_enumT {ds : List PyData} (h : Ev K te σ H (.tuple ds)) : SrcKE K (iEnumT K (tCons te tNil)) σ H ds.length (itemP (fun i => .int (i : Nat)) ds) := fun R q =>
  ea1 h H .refl _ fun vs H2 g2 hvs => by
    obtain ⟨x, rfl, hx⟩ := hvs.one
    obtain ⟨a, xs, rfl, e1, e2⟩ := hx.tup
    refine ⟨a, xs, rfl, SqT.of e1, q _ H2 g2 ⟨_, _, by rw [← e2.length]; exact walk_enumT (xs := xs), fun H' g3 => SqT.of (g3 _ _ e1), fun i H' x H'' hi g3 y => ?_⟩⟩
    obtain ⟨T, v, w, rfl, nT, rfl, h1, h2⟩ := y
    obtain ⟨d, h3, h4⟩ := e2.getV h2
    cases h1
    exact ⟨.new nT, T, _, w, d, rfl, upd_same, .int _, h3, (h4.kt g3).kt (.new nT)⟩
/-- for over such a source -/
theorem s_for {tb : TS} (hs : SrcKE K wi σ H n item)
    (k : ∀ H1, Gx K H H1 → ∃ Pv : Nat → L2.St → Hp → Prop, Pv 0 σ H1 ∧ (∀ i σ' H', i ≤ n → Pv i σ' H' → Kt H1 H') ∧
      (∀ i x σ' H' H'', i < n → Pv i σ' H' → Gx K H' H'' → item i x H'' → g x σ' H'' fun σ2 H2 => tb { D with nx := Pv (i + 1), ct := Pv (i + 1), bk := D.nx } σ2 H2) ∧ ∀ σ' H', Pv n σ' H' → D.nx σ' H') : tFor wi g tb D σ H := hs _ fun J H1 g1 hJ => by
  obtain ⟨G, Y, W, hG, hY⟩ := hJ
  obtain ⟨Pv, p0, pk, pt, pd⟩ := k H1 g1
  refine for_it W Pv p0 (fun i σ' H' hi p => hG H' (pk i σ' H' hi p)) (fun i x σ' H' H'' hi p y => ?_) pd
  obtain ⟨g2, it⟩ := hY i H' x H'' hi (pk i σ' H' (by omega) p) y
  exact pt i x σ' H' H'' hi p g2 it
/-- for over a list that stands meanwhile -/
theorem s_forL {tb : TS} {j : Nat} {ds : List PyData} (h : Ev K te σ H (.list ds))
    (k : ∀ a xs H1, Gx K H H1 → H1 a = some (.lst xs) → TvAll H1 xs ds → ∃ Pv : Nat → L2.St → Hp → Prop, Pv 0 σ H1 ∧ (∀ i σ' H', i ≤ ds.length → Pv i σ' H' → H' a = some (.lst xs) ∧ Kt H1 H') ∧
      (∀ i d x σ' H', ds[i]? = some d → Tv H' x d → Pv i σ' H' → tb { D with nx := Pv (i + 1), ct := Pv (i + 1), bk := D.nx } (σ'.set j (some x)) H') ∧ ∀ σ' H', Pv ds.length σ' H' → D.nx σ' H') : tFor (iList K te) (gName j) tb D σ H := h H .refl _ fun v H1 g1 hv => by
  obtain ⟨a, xs, rfl, e1, e2⟩ := hv.list
  obtain ⟨Pv, p0, pk, pt, pd⟩ := k a xs H1 g1 e1 e2
  refine ⟨a, rfl, ⟨xs, SqL.of e1⟩, ?_⟩
  refine for_list (K := K) (a := a) (xs := xs) Pv p0 (fun i σ' H' hi p => SqL.of (pk i σ' H' (by rw [← e2.length]; exact hi) p).1) (fun i x σ' H' hx p => ?_) (by rw [e2.length]; exact pd)
  obtain ⟨d, h1, h2⟩ := e2.getV hx
  have hi : i < xs.length := (List.getElem?_eq_some_iff.mp hx).1
  exact pt i d x σ' H' h1 (h2.kt (pk i σ' H' (by rw [← e2.length]; omega) p).2) p
/-- for i, x in enumerate(a list that stands meanwhile) -/
theorem s_forEL {tb : TS} {j l : Nat} {ds : List PyData} (h : Ev K te σ H (.list ds))
    (k : ∀ a xs H1, Gx K H H1 → H1 a = some (.lst xs) → TvAll H1 xs ds → ∃ Pv : Nat → L2.St → Hp → Prop, Pv 0 σ H1 ∧ (∀ i σ' H', i ≤ ds.length → Pv i σ' H' → H' a = some (.lst xs) ∧ Kt H1 H') ∧
      (∀ i d x σ' H' H'', ds[i]? = some d → Tv H'' x d → Pv i σ' H' → Gx K H' H'' → tb { D with nx := Pv (i + 1), ct := Pv (i + 1), bk := D.nx } ((σ'.set j (some (.int (i : Nat)))).set l (some x)) H'') ∧ ∀ σ' H', Pv ds.length σ' H' → D.nx σ' H') :
    tFor (iEnum K (tCons te tNil)) (gTup K 2 (gCons (gName j) (gCons (gName l) gNil))) tb D σ H := by
  unfold tFor iEnum
  refine ea1 h H .refl _ fun vs H1 g1 hvs => ?_
  obtain ⟨v, rfl, hv⟩ := hvs.one
  obtain ⟨a, xs, rfl, e1, e2⟩ := hv.list
  obtain ⟨Pv, p0, pk, pt, pd⟩ := k a xs H1 g1 e1 e2
  refine ⟨a, xs, rfl, SqL.of e1, ?_⟩
  refine for_it (walk_enum (K := K) (a := a) (xs := xs)) Pv p0 (fun i σ' H' hi p => SqL.of (pk i σ' H' (by rw [← e2.length]; exact hi) p).1) (fun i x σ' H' H'' hi p y => ?_) (by rw [e2.length]; exact pd)
  obtain ⟨T, v, w, rfl, nT, rfl, h1, h2⟩ := y
  cases h1
  obtain ⟨d, h3, h4⟩ := e2.getV h2
  refine ⟨T, [_, w], rfl, SqT.of upd_same, rfl, _, [w], rfl, w, [], rfl, rfl, ?_⟩
  exact pt i d w σ' H' _ h3 ((h4.kt (pk i σ' H' (by rw [← e2.length]; omega) p).2).kt (.new nT)) p (.new nT)

/-! ### lists that change -/
theorem s_app {i : Nat} {l : Addr} {xs : List V} (hl : H l = some (.lst xs)) (hv : σ[i]? = some (some (.ref l))) (h : Ev K te σ H d) (hp : plainD d = true) (hz : xs.length ≤ 200000)
    (k : ∀ v H1, Gx K H H1 → Tv H1 v d → H1 l = some (.lst xs) → D.nx σ (upd H1 l (.lst (xs ++ [v])))) : tDrop (tBM K "list" rAppend (tVar i) (tCons te tNil)) D σ H :=
  ⟨.ref l, hv, .inl ⟨rfl, xs, SqL.of hl⟩, ea1 h H .refl _ fun vs H1 g1 hvs => by
    obtain ⟨v, rfl, hv⟩ := hvs.one
    exact ⟨l, xs, v, rfl, rfl, g1.lst hl, szl hz, k v H1 g1 (hv.tv hp) (g1.lst hl)⟩⟩
/-- a text grows -/
theorem ip_addS {X : Cx} : PIp X .Add (fun x y H Q => ∃ a b, x = .str a ∧ y = .str b ∧ a.length + b.length ≤ sizeLine ∧ Q (.str (a ++ b)) H) := by
  intro pins s σ H x y v u Q I r1 r2 h
  obtain ⟨a, b, rfl, rfl, hz, q⟩ := h
  obtain ⟨t, rfl⟩ := r1
  obtain ⟨t', rfl⟩ := r2
  exact PyProof.Rows.iadd_str (fun t2 tk => ⟨.str (a ++ b), H, I.tok _, ⟨t2, rfl⟩, q⟩) hz
theorem s_augS {i : Nat} {a b : Str} (hv : σ[i]? = some (some (.str a))) (h : Ev K te σ H (.str b)) (hz : a.length + b.length ≤ 200000) (k : ∀ H1, Gx K H H1 → D.nx (σ.set i (some (.str (a ++ b)))) H1) :
    tAug i te (fun x y H Q => ∃ a b, x = .str a ∧ y = .str b ∧ a.length + b.length ≤ sizeLine ∧ Q (.str (a ++ b)) H) D σ H :=
  ⟨.str a, hv, h H .refl _ fun v H1 g1 hv => ⟨a, b, rfl, hv.strE, sz hz, k H1 g1⟩⟩
theorem s_par {i j : Nat} (h : Ev K ta σ H d) (h2 : Ev K te σ H e) (k : ∀ v w H1, Gx K H H1 → Dv H1 v d → Dv H1 w e → D.nx ((σ.set i (some v)).set j (some w)) H1) : tPar i j (tCons ta (tCons te tNil)) D σ H :=
  ea2 h h2 H .refl _ fun vs H1 g1 hvs => by
    obtain ⟨v, w, rfl, h1, h2⟩ := hvs.two
    exact ⟨v, w, rfl, k v w H1 g1 h1 h2⟩
/-- a, b = .., [] -/
theorem s_parN {i j : Nat} (h : Ev K ta σ H d) (k : ∀ v b H1, Gx K H H1 → Dv H1 v d → H b = none → H1 b = some (.lst []) → D.nx ((σ.set i (some v)).set j (some (.ref b))) H1) : tPar i j (tCons ta (tCons (tLst tNil) tNil)) D σ H :=
  h H .refl _ fun v H1 g1 hv => ⟨Nat.zero_le _, fun p np => ⟨v, .ref p, rfl, k v p _ (g1.trans (.new np)) (hv.gx (K := K) (.new np)) (g1.free np) upd_same⟩⟩
/-- a, b = [], [] -/
theorem s_parNN {i j : Nat} (k : ∀ a b H1, Gx K H H1 → H a = none → H b = none → a ≠ b → H1 a = some (.lst []) → H1 b = some (.lst []) → D.nx ((σ.set i (some (.ref a))).set j (some (.ref b))) H1) : tPar i j (tCons (tLst tNil) (tCons (tLst tNil) tNil)) D σ H :=
  ⟨Nat.zero_le _, fun p np => ⟨Nat.zero_le _, fun r nr => by
    have hne : p ≠ r := fun z => by
      rw [← z, upd_same] at nr
      cases nr
    have hr : H r = none := by
      rw [upd_ne (Ne.symm hne)] at nr
      exact nr
    exact ⟨.ref p, .ref r, rfl, k p r _ ((Gx.new np).trans (.new nr)) np hr hne (by rw [upd_ne hne]; exact upd_same) upd_same⟩⟩⟩

/-! ### errors -/
/-- an error of the class at C with that number is what E wishes of heaps that go on from H -/
def Errs (K : Fg) (C : Addr) (E : XK) (H : Hp) (n : Int) : Prop := ∀ dd H', Gx K H H' → H' dd = some (.xd [(("line" : Str), .int n)]) → E (.ref C) (some dd) H'
theorem Errs.gx {C : Addr} {E : XK} {n : Int} (h : Errs K C E H n) (g : Gx K H H1) : Errs K C E H1 n := fun dd H' g' e => h dd H' (g.trans g') e
/-- what __init__ keeps: self, number -/
def spInit (C : Addr) : Sp := fun vs H Q _ => ∃ (a : Addr) (v : V), vs = [.ref a, v] ∧ H a = some (exo a C none) ∧ ∀ dx, H dx = none → dx ≠ a → Q .non (upd (upd H dx (exd dx [(("line" : Str), v)])) a (exo a C (some dx)))
theorem s_raise {C : Addr} {E : XK} {m : Int} (h : Ev K te σ H (.int m)) (k : Errs K C E H m) : (fun (_ : Ends) (σ : L2.St) (H : Hp) => tMkO C (spInit C) [] (tCons te tNil) σ H fun cls d H' => (fun (cls : Value) (d : Option Addr) (_ : L2.St) (H : Hp) => E cls d H) cls d σ H') D σ H :=
  ea1 h H .refl _ fun vs H1 g1 hvs => by
    obtain ⟨v, rfl, hv⟩ := hvs.one
    cases hv.intE
    refine ⟨by show 1 ≤ 1000; decide, fun a na => ⟨a, .int m, rfl, upd_same, fun dx nd hne => ⟨rfl, dx, [(("line" : Str), .int m)], upd_same, ?_, ?_, k dx _ (g1.trans (.of fun b u hb => ?_)) upd_same⟩⟩⟩
    · rw [upd_ne hne]
      exact upd_same
    · rw [upd_ne hne] at nd
      exact nd
    · have n1 : b ≠ a := ne_of_none hb na
      have n2 : b ≠ dx := by
        rw [upd_ne hne] at nd
        exact ne_of_none hb nd
      rw [upd_ne n2, del_ne n1, upd_ne n1, upd_ne n2, upd_ne n1]
      exact hb
/-- a def that may raise: R ds r, what the arguments give -/
def SpX (K : Fg) (C : Addr) (R : List PyData → Except Int PyData → Prop) : Sp := fun vs H Q E => ∃ ds r, DvAll H vs ds ∧ R ds r ∧ GT K H ∧ (∀ d, r = .ok d → ∀ v H', Gx K H H' → Dv H' v d → Q v H') ∧ ∀ m, r = .error m → Errs K C E H m
/-- its call within a def that raises too -/
theorem q_asgX {i : Nat} {C : Addr} {W : WX} {tz : TS} {ta : TA} {R : List PyData → Except Int PyData → Prop} {ds : List PyData} {r : Except Int PyData} (t : GT K H) (h : EvA K ta σ H ds) (hr : R ds r)
    (k : ∀ d, r = .ok d → ∀ v H1, Gx K H H1 → Dv H1 v d → tz D (σ.set i (some v)) H1) (ke : ∀ m, r = .error m → Errs K C (WE W σ) H m) : tSeq (tAsg (tCallS (SpX K C R) (WE W) ta) (gName i)) tz D σ H :=
  h H .refl _ fun vs H1 g1 hvs => ⟨ds, r, hvs, hr, g1.gt t, fun d hd v H2 g2 hv => k d hd v H2 (g1.trans g2) hv, fun m hm => (ke m hm).gx g1⟩
/-- its call where it is known to raise nothing -/
theorem ev_callX {C : Addr} {E : XK} {ta : TA} {R : List PyData → Except Int PyData → Prop} {ds : List PyData} (t : GT K H) (h : EvA K ta σ H ds) (hr : R ds (.ok d)) : Ev K (tCall (SpX K C R) [] E ta) σ H d := fun H1 g Q q =>
  h H1 g _ fun vs H2 g2 hvs => by
    show SpX K C R (vs ++ []) H2 Q E
    rw [List.append_nil]
    exact ⟨ds, .ok d, hvs, hr, (g.trans g2).gt t, fun d' hd v H3 g3 hv => by
      cases hd
      exact q v H3 (g2.trans g3) hv, fun m hm => by cases hm⟩
end
end LP

/-! LpBase -/
set_option maxHeartbeats 4000000
/-! The program's defs: where they stand, how a def keeps its promise, how it is called. -/
namespace LP
open PySem PySem.Spec PyProof.Rows L2 RZ
def topS (i : Nat) : Stmt := PySem.Challenge.pw_liarpost_k60_whole_texts.main.body.getD i (.Pass ⟨0, 0, 0, 0⟩)
/-- the def st stands under the name x -/
structure FnDef (K : Fg) (mg : Str → Option Value) (x : Str) (st : Stmt) : Prop where
  gm : mg x = some (.ref (He.ga K x))
  fn : ∃ fd, FunD K x x (defArgs st) (defBody st) (defScope st) [] [] (He.ga K x) fd
/-- the def x keeps the promise -/
structure CallOk (P : Program) (w : World) (K : Fg) (mg : Str → Option Value) (base : Heap) (CX : CXT) (k : Nat) (x : Str) (ps : List Str) (sp : Sp) : Prop where
  gm : mg x = some (.ref (He.ga K x))
  kp : PySem.W.keepIn K (.ref (He.ga K x)) = true
  ex : ∃ fd, FnOk P w K mg base CX k (He.ga K x) fd ps sp ∧ Binds K fd ps []
section
variable {P : Program} {w : World} {K : Fg} {mg : Str → Option Value} {base : Heap} {CX : CXT} {k : Nat} {x : Str} {st : Stmt} {ps N : List Str} {sp : Sp} {C : Addr}
/-- one context for a body -/
abbrev bodyCx (CX : CXT) (P : Program) (w : World) (K : Fg) (mg : Str → Option Value) (base : Heap) (N : List Str) (x : Str) (st : Stmt) (A : Around) (outer : List Env) (s : Shared) (H : Hp) (E : XK) : Cx :=
  cxOf CX P w K mg base N x (defScope st) (He.ga K x) (.ref (He.cT K (x, none)).1) A outer s H E
theorem FnDef.ok (F : FnDef K mg x st) (S : FnScope N ps (defScope st)) (hb : ∀ (kV doc pm : Value) (an : Option Addr) (cdv ct : Value) (us : List Value), us.length = ps.length → bindArgs (PySem.W.fnOf x x (defArgs st) (defBody st) (defScope st) .none kV doc pm an cdv ct) ⟨us, []⟩ = pure (ps.zip us))
    (len : ∀ vs H Q E, sp vs H Q E → vs.length = ps.length)
    (hbody : ∀ (A : Around) (outer : List Env) (s : Shared) (H : Hp) (vs : List V) (Q : VK) (E : XK), Room k (A.deeper (envOfC x (defScope st) s.heap.objs.size (He.ga K x) (.ref (He.cT K (x, none)).1))) → sp vs H Q E →
      ∃ t, PSs (bodyCx CX P w K mg base N x st A outer s H E) (defBody st) t ∧ t { nx := fun _ H' => Q .non H', rt := Q } (start N vs) H) : CallOk P w K mg base CX (k + 1) x ps sp := by
  obtain ⟨gm, fd, F⟩ := F
  refine ⟨gm, F.kp, fd, ?_, F.bindsN hb⟩
  obtain ⟨oc, od, dV, kV, doc, pm, an, cdv, ct, osl, rfl, lk, hcd, _, _⟩ := F.ex
  obtain ⟨c, rfl⟩ := He.codeIn_ref hcd
  have e : (He.cT K (x, none)).1 = c := He.codeOf_eq (p := (x, none)) lk rfl
  subst e
  exact fn_of lk hcd S len fun A outer s H vs Q E hr hsp => hbody A outer s H vs Q E hr hsp
/-- a def that raises nothing and changes nothing -/
theorem FnDef.okR {R : List PyData → PyData → Prop} (F : FnDef K mg x st) (S : FnScope N ps (defScope st)) (hb : ∀ (kV doc pm : Value) (an : Option Addr) (cdv ct : Value) (us : List Value), us.length = ps.length → bindArgs (PySem.W.fnOf x x (defArgs st) (defBody st) (defScope st) .none kV doc pm an cdv ct) ⟨us, []⟩ = pure (ps.zip us))
    (len : ∀ ds r, R ds r → ds.length = ps.length)
    (hbody : ∀ (A : Around) (outer : List Env) (s : Shared) (H0 : Hp) (E : XK), Room k (A.deeper (envOfC x (defScope st) s.heap.objs.size (He.ga K x) (.ref (He.cT K (x, none)).1))) →
      ∃ t, PSs (bodyCx CX P w K mg base N x st A outer s H0 E).nox (defBody st) t ∧ ∀ H ds r vs, R ds r → DvAll H vs ds → GT K H → ∀ D : Ends, (∀ v H', Gx K H H' → Dv H' v r → D.rt v H') → (r = .none → ∀ σ H', Gx K H H' → D.nx σ H') → t D (start N vs) H) : CallOk P w K mg base CX (k + 1) x ps (SpR K R) :=
  F.ok S hb (fun vs H Q E ⟨ds, r, h1, h2, _⟩ => by rw [h1.length]; exact len _ _ h2) fun A outer s H vs Q E hr hsp => by
    obtain ⟨t, h1, h2⟩ := hbody A outer s H E hr
    obtain ⟨ds, r, a1, a2, a3, a4⟩ := hsp
    exact ⟨t, h1.nox, h2 H ds r vs a2 a1 a3 _ (fun v H' g hv => a4 v H' g hv) fun e σ H' g => a4 _ H' g (by rw [e]; exact .non)⟩
/-- a def that may raise -/
theorem FnDef.okX {R : List PyData → Except Int PyData → Prop} (F : FnDef K mg x st) (S : FnScope N ps (defScope st)) (hb : ∀ (kV doc pm : Value) (an : Option Addr) (cdv ct : Value) (us : List Value), us.length = ps.length → bindArgs (PySem.W.fnOf x x (defArgs st) (defBody st) (defScope st) .none kV doc pm an cdv ct) ⟨us, []⟩ = pure (ps.zip us))
    (len : ∀ ds r, R ds r → ds.length = ps.length)
    (hbody : ∀ (A : Around) (outer : List Env) (s : Shared) (H0 : Hp) (E : XK), Room k (A.deeper (envOfC x (defScope st) s.heap.objs.size (He.ga K x) (.ref (He.cT K (x, none)).1))) →
      ∃ t, PSs (bodyCx CX P w K mg base N x st A outer s H0 E) (defBody st) t ∧ ∀ H ds r vs, R ds r → DvAll H vs ds → GT K H → ∀ D : Ends, (∀ d, r = .ok d → ∀ v H', Gx K H H' → Dv H' v d → D.rt v H') → (∀ m, r = .error m → Errs K C E H m) → t D (start N vs) H) : CallOk P w K mg base CX (k + 1) x ps (SpX K C R) :=
  F.ok S hb (fun vs H Q E ⟨ds, r, h1, h2, _⟩ => by rw [h1.length]; exact len _ _ h2) fun A outer s H vs Q E hr hsp => by
    obtain ⟨t, h1, h2⟩ := hbody A outer s H E hr
    obtain ⟨ds, r, a1, a2, a3, a4, a5⟩ := hsp
    exact ⟨t, h1, h2 H ds r vs a2 a1 a3 _ (fun d e v H' g hv => a4 d e v H' g hv) a5⟩
end
/-! ### readings of built-ins that look at K -/
abbrev rLenSq (K : Fg) : List V → Hp → VK → Prop := fun xs H Q => ∃ p ys, xs = [.ref p] ∧ (SqL K H p ys ∨ SqT K H p ys) ∧ Q (.int ys.length) H
abbrev rTupOf (K : Fg) : List V → Hp → VK → Prop := fun xs H Q => ∃ p ys, xs = [.ref p] ∧ ((SqL K H p ys ∧ ∀ l, H l = none → Q (.ref l) (upd H l (.tup ys))) ∨ (SqT K H p ys ∧ Q (.ref p) H))
abbrev rListOf (K : Fg) : List V → Hp → VK → Prop := fun xs H Q => ∃ p ys, xs = [.ref p] ∧ (SqL K H p ys ∨ SqT K H p ys) ∧ ∀ l, H l = none → Q (.ref l) (upd H l (.lst ys))
/-! ### more at the level of data -/
section
variable {K : Fg} {σ : L2.St} {H H1 : Hp} {te : TE} {d : PyData}
theorem ev_neg {i : Int} (h : Ev K te σ H (.int i)) : Ev K (tUn (rU fun i => .int (-i)) te) σ H (.int (-i)) := fun H1 g Q q => h H1 g _ fun v H2 g2 hv => ⟨i, hv.intE, q _ H2 g2 (.int _)⟩
theorem et_tru (h : Ev K te σ H d) (hs : ∀ s, d = .str s → s.length ≤ 200000) : EvT K (fun σ H Q => te σ H fun x H' => ∃ k, TruV K x H' k ∧ Q k H') σ H (truD d) := fun H1 g Q q => h H1 g _ fun v H2 g2 hv => ⟨_, hv.tru hs, q H2 g2⟩
/-- a slice of a tuple -/
theorem ev_slT {tlo thi : TO} {ds : List PyData} {lo hi : Option Int} (h : Ev K te σ H (.tuple ds)) (h1 : EvO K tlo σ H lo) (h2 : EvO K thi σ H hi) : Ev K (L2.tSl (rSlA K) te tlo thi) σ H (.tuple (cutD ds lo hi)) := fun H1 g Q q =>
  h H1 g _ fun v H2 g2 hv => h1 H2 (g.trans g2) _ fun H3 g3 => h2 H3 (g.trans (g2.trans g3)) _ fun H4 g4 => by
    obtain ⟨a, xs, rfl, e1, e2⟩ := hv.tup
    have e3 := (g3.trans g4).tup e1
    refine ⟨a, xs, rfl, SqT.of e3, fun hw => q _ H4 (g2.trans (g3.trans g4)) (.ofT e3 ?_), fun _ p np => q _ _ (g2.trans (g3.trans (g4.trans (.new np)))) (.ofT upd_same (((e2.kt (g3.trans g4).kt).cut lo hi).kt (.new np)))⟩
    have e4 : cutD ds lo hi = ds := by
      unfold cutD
      rw [← e2.length, hw.1, hw.2]
      simp [e2.length]
    rw [e4]
    exact e2.kt (g3.trans g4).kt
end
/-! ### calls -/
section
variable {X : Cx} {CX : CXT} {k : Nat} {x : Str} {ps : List Str} {sp : Sp} {e : Expr} {es : List Expr} {t : TA} {p pos : Pos} {E : XK} {W : L2.St → XK}
theorem pe_c (C : CallOk X.prog X.w X.K X.mg X.base CX k x ps sp) (hr : Room k X.A) (hx : Passes CX X E) (ha : PA X (e :: es) t) (hg : Gl X x := by rfl) (hdb : (x == ("__debug__" : Str)) = false := by decide)
    (he : starEach (e :: es) X.env = (false, eval e X.env) :: starEach es X.env := by rfl) (hpl : (backTo pos (starEach es X.env)).any (·.1) = false := by rfl) : PE X (.Call (.Name x p) (e :: es) [] pos) (tCall sp [] E t) := by
  obtain ⟨gm, kp, fd, F, b⟩ := C
  exact pe_call F hr hg gm kp b .nil hx ha hdb he hpl
theorem pe_cS (C : CallOk X.prog X.w X.K X.mg X.base CX k x ps sp) (hr : Room k X.A) (hx : ∀ σ, PassesAt CX X σ (W σ)) (ha : PA X (e :: es) t) (hg : Gl X x := by rfl) (hdb : (x == ("__debug__" : Str)) = false := by decide)
    (he : starEach (e :: es) X.env = (false, eval e X.env) :: starEach es X.env := by rfl) (hpl : (backTo pos (starEach es X.env)).any (·.1) = false := by rfl) : PE X (.Call (.Name x p) (e :: es) [] pos) (tCallS sp W t) := by
  obtain ⟨gm, kp, fd, F, b⟩ := C
  exact pe_callS F hr hg gm kp b hx ha hdb he hpl
/-- nothing gets out of a call that is wished to raise nothing -/
theorem passL : Passes (L2.CX X.prog X.w) X (fun _ _ _ => False) := fun _ _ _ _ _ _ _ h => by
  obtain ⟨_, _, _, _, _, _, _, _, _, _, _, _, z⟩ := h
  exact z.elim
end
/-! ### the facts of the top -/
def bltNames : List Str := ["isinstance", "int", "bool", "tuple", "len", "all", "str", "zip", "enumerate", "max", "min", "range", "list", "sorted", "set"]
def fnP0 : List (Str × Nat) := [("is_number", 11), ("need_question", 12), ("is_text", 13), ("is_lot", 16), ("need_plan", 17), ("is_row", 18), ("need_post", 19), ("lines_of", 22)]
def fnP1 : List (Str × Nat) := [("figure_of", 23), ("numbers_of", 24), ("words_of", 25), ("question_text", 26), ("state_of", 27), ("read_question", 28), ("plan_text", 29), ("read_plan", 30)]
def fnP2 : List (Str × Nat) := [("brought_text", 31), ("read_brought", 32), ("_law_taken", 34), ("_law_pick", 35), ("_law_alike", 36), ("_law_question", 37), ("_law_plan", 38), ("_law_both", 39)]
def fnP3 : List (Str × Nat) := [("_law_told", 40), ("_law_words", 41), ("_law_figures", 42), ("_law_lines", 43), ("_law_read_question", 44), ("_law_read_plan", 45), ("_law_read_brought", 46), ("_law_bent", 47)]
def fnP4 : List (Str × Nat) := [("_law_brought", 48), ("law", 49)]
def fnPlaces : List (Str × Nat) := fnP0 ++ fnP1 ++ fnP2 ++ fnP3 ++ fnP4
/-- the class BadLine -/
structure Bad (K : Fg) (mg : Str → Option Value) (C : Addr) : Prop where
  gm : mg "BadLine" = some (.ref C)
  ox : OexC K C
  xf : XfC K C
  no : PySem.W.findIn K (.ref C) "line" = some none
  ini : PySem.W.findIn K (.ref C) "__init__" = some (some (.ref (He.ma K C "__init__")))
  tIn : PySem.W.typeIn K (.ref (He.ma K C "__init__")) = some (.type "function")
  ex : PySem.W.exmOne K (.ref C) (.ref C) = some true
  fn : ∃ fd, FunD K "__init__" "BadLine.__init__" (defArgs (inClass (topS 5) 0)) (defBody (inClass (topS 5) 0)) (defScope (inClass (topS 5) 0)) [] [] (He.ma K C "__init__") fd
structure Tx (K : Fg) (mg : Str → Option Value) (C : Addr) : Prop where
  fn : ∀ (i : Nat) (x : Str) (j : Nat), fnPlaces[i]? = some (x, j) → FnDef K mg x (topS j)
  no : ∀ (i : Nat) (x : Str), bltNames[i]? = some x → mg x = none
  let_ : ∃ t, mg "MOST_LETTERS" = some (.int 5 t)
  sta : ∃ t, mg "MOST_STATES" = some (.int 8 t)
  ans : ∃ t, mg "MOST_ANSWER" = some (.int 3 t)
  txt : ∃ t, mg "MOST_TEXT" = some (.int 40 t)
  mes : ∃ t, mg "MOST_MESSENGERS" = some (.int 7 t)
  fig : ∃ t, mg "FIGURES" = some (.str "0123456789" t)
  bad : Bad K mg C
  tne : ∀ x ∈ gtNames, tb K x ≠ ltb K
/-- the tables' code objects in a heap -/
def Tbs (K : Fg) (mg : Str → Option Value) (base : Heap) : Prop := ∀ x ∈ (("law" : Str) :: gtNames), GxR.TabB base mg (He.cT K (x, none)).1 (tb K x)
section
variable {K : Fg} {mg : Str → Option Value} {C : Addr}
theorem Tx.isi (T : Tx K mg C) : mg "isinstance" = none := T.no 0 _ rfl
theorem Tx.int (T : Tx K mg C) : mg "int" = none := T.no 1 _ rfl
theorem Tx.bool (T : Tx K mg C) : mg "bool" = none := T.no 2 _ rfl
theorem Tx.tuple (T : Tx K mg C) : mg "tuple" = none := T.no 3 _ rfl
theorem Tx.len (T : Tx K mg C) : mg "len" = none := T.no 4 _ rfl
theorem Tx.all (T : Tx K mg C) : mg "all" = none := T.no 5 _ rfl
theorem Tx.str (T : Tx K mg C) : mg "str" = none := T.no 6 _ rfl
theorem Tx.zip (T : Tx K mg C) : mg "zip" = none := T.no 7 _ rfl
theorem Tx.enum (T : Tx K mg C) : mg "enumerate" = none := T.no 8 _ rfl
theorem Tx.max (T : Tx K mg C) : mg "max" = none := T.no 9 _ rfl
theorem Tx.min (T : Tx K mg C) : mg "min" = none := T.no 10 _ rfl
theorem Tx.range (T : Tx K mg C) : mg "range" = none := T.no 11 _ rfl
theorem Tx.list (T : Tx K mg C) : mg "list" = none := T.no 12 _ rfl
theorem Tx.sorted (T : Tx K mg C) : mg "sorted" = none := T.no 13 _ rfl
theorem Tx.set (T : Tx K mg C) : mg "set" = none := T.no 14 _ rfl
end

/-! ### BadLine -/
abbrev sIni : Stmt := inClass (topS 5) 0
theorem scIni : FnScope ["self", "line"] ["self", "line"] (defScope sIni) := ⟨rfl, rfl, rfl, by decide +kernel, rfl, by decide +kernel, by decide +kernel⟩
section
variable {P : Program} {w : World} {K : Fg} {mg : Str → Option Value} {base : Heap} {C : Addr}
theorem Bad.ok (B : Bad K mg C) : ∃ fd, FnOk P w K mg base CX0 1 (He.ma K C "__init__") fd ["self", "line"] (spInit C) ∧ Binds K fd ["self", "line"] [] := by
  obtain ⟨fd, F⟩ := B.fn
  refine ⟨fd, F.ok scIni (fun vs H Q E h => ?_) (fun cdv A outer s H vs Q E hr h => ⟨_, PSs.nox (pss_one (ps_ost (pv 0) (pv 1))), ?_⟩), F.bindsN fun _ _ _ _ _ _ us hl => match us, hl with | [_, _], _ => rfl⟩
  · obtain ⟨a, v, rfl, _⟩ := h
    rfl
  · obtain ⟨a, v, rfl, h1, h2⟩ := h
    exact ⟨v, rfl, .ref a, rfl, a, C, rfl, B.ox, B.no, .inl ⟨h1, h2⟩⟩
end
section
variable {X : Cx} {C : Addr} {W : WX} {e : Expr} {ta : TA} {p pos pos2 : Pos} {i : Int} {z x : Str}
theorem ps_badline (B : Bad X.K X.mg C) (hc : X.calm = true) (hr : Room 2 X.A) (tk : Takes X W) (ha : PA X [e] ta) (hg : Gl X "BadLine" := by rfl)
    (he : starEach (e :: []) X.env = (false, eval e X.env) :: starEach [] X.env := by rfl) (hpl : (backTo pos (starEach [] X.env)).any (·.1) = false := by rfl) :
    PS X (.Raise (some (.Call (.Name "BadLine" p) [e] [] pos)) none pos2) (fun _ σ H => tMkO C (spInit C) [] ta σ H fun cls d H' => W cls d σ H') := by
  obtain ⟨fd, F, b⟩ := B.ok (P := X.prog) (w := X.w) (base := X.base)
  exact ps_raise hc tk (pmk_oex B.ox B.ini B.tIn F hr b .nil (fun _ _ _ _ _ _ _ h => h.elim) hg B.gm ha (by decide) he hpl)
/-- the module's constants -/
theorem pe_gi (h : ∃ t, X.mg x = some (.int i t)) (hg : Gl X x := by rfl) (hd : (x == ("__debug__" : Str)) = false := by decide) : PE X (.Name x pos) (tC (.int i)) := by
  obtain ⟨t, h⟩ := h
  exact pe_glob hg h ⟨_, rfl⟩ hd
theorem pe_gs (h : ∃ t, X.mg x = some (.str z t)) (hg : Gl X x := by rfl) (hd : (x == ("__debug__" : Str)) = false := by decide) : PE X (.Name x pos) (tC (.str z)) := by
  obtain ⟨t, h⟩ := h
  exact pe_glob hg h ⟨_, rfl⟩ hd
end
end LP

/-! LpW1 -/
set_option maxHeartbeats 4000000
/-! Walks: is_number, is_text, is_lot, is_row, need_question, need_plan, need_post. -/
namespace LP
open PySem PySem.Spec PyProof.Rows L2 RZ
abbrev iD (ns : List Int) : PyData := .tuple (ns.map PyData.int)
abbrev tD (xs : List (List Int)) : PyData := .tuple (xs.map iD)
abbrev qD (q : List (List Int) × List Int) : PyData := .tuple [tD q.1, iD q.2]
abbrev pD (p : Int × List (List Int)) : PyData := .tuple [.int p.1, tD p.2]
/-- lo <= v <= hi -/
def inR (lo hi v : Int) : Bool := decide (lo ≤ v) && decide (v ≤ hi)
/-- every place below n -/
theorem range_all {α : Type} {xs : List α} {f : α → Bool} {g : Nat → Bool} (h : ∀ i x, xs[i]? = some x → g i = f x) : (List.range xs.length).all g = xs.all f := by
  rw [Bool.eq_iff_iff, List.all_eq_true, List.all_eq_true]
  constructor
  · intro a x hx
    obtain ⟨i, hi, e⟩ := List.mem_iff_getElem.mp hx
    have e2 : xs[i]? = some x := by simp [hi, e]
    rw [← h i x e2]
    exact a i (List.mem_range.mpr hi)
  · intro a i hi
    have hi' := List.mem_range.mp hi
    have e2 : xs[i]? = some xs[i] := by simp [hi']
    rw [h i _ e2]
    exact a _ (List.getElem_mem hi')
theorem map_get {α β : Type} {f : α → β} {xs : List α} {i : Nat} {d : β} (h : (xs.map f)[i]? = some d) : ∃ x, xs[i]? = some x ∧ d = f x := by
  rw [List.getElem?_map] at h
  cases e : xs[i]? with
  | none =>
    rw [e] at h
    cases h
  | some x =>
    rw [e] at h
    exact ⟨x, rfl, (Option.some.inj h).symm⟩
/-! slices -/
theorem cut_from {α : Type} (ds : List α) (k : Nat) : (ds.drop (HT.sIx ds.length 0 (some (k : Int)))).take (HT.sIx ds.length ds.length none - HT.sIx ds.length 0 (some (k : Int))) = ds.drop k := by
  rw [HT.sIx_none, HT.sIx_nat]
  by_cases h : k ≤ ds.length
  · rw [Nat.min_eq_left h]
    exact List.take_of_length_le (by simp)
  · rw [Nat.min_eq_right (by omega), List.drop_length, List.drop_eq_nil_of_le (by omega)]
    simp
theorem cut_to {α : Type} (ds : List α) (k : Nat) : (ds.drop (HT.sIx ds.length 0 none)).take (HT.sIx ds.length ds.length (some (k : Int)) - HT.sIx ds.length 0 none) = ds.take k := by
  rw [HT.sIx_none, HT.sIx_nat]
  show ds.take (min k ds.length) = ds.take k
  by_cases h : k ≤ ds.length
  · rw [Nat.min_eq_left h]
  · rw [Nat.min_eq_right (by omega), List.take_length, List.take_of_length_le (by omega)]
theorem cut_both {α : Type} (ds : List α) (j k : Nat) : (ds.drop (HT.sIx ds.length 0 (some (j : Int)))).take (HT.sIx ds.length ds.length (some (k : Int)) - HT.sIx ds.length 0 (some (j : Int))) = (ds.take k).drop j := by
  rw [HT.sIx_nat, HT.sIx_nat, List.drop_take]
  by_cases h : j ≤ ds.length
  · rw [Nat.min_eq_left h]
    by_cases h2 : k ≤ ds.length
    · rw [Nat.min_eq_left h2]
    · rw [Nat.min_eq_right (by omega), List.take_of_length_le (by simp), List.take_of_length_le (by simp; omega)]
  · rw [Nat.min_eq_right (a := j) (by omega), List.drop_length, List.drop_eq_nil_of_le (by omega)]
    simp
theorem cut_but1 {α : Type} (ds : List α) : (ds.drop (HT.sIx ds.length 0 none)).take (HT.sIx ds.length ds.length (some (-1)) - HT.sIx ds.length 0 none) = ds.dropLast := by
  rw [HT.sIx_none]
  have e : HT.sIx ds.length ds.length (some (-1)) = ds.length - 1 := by
    unfold HT.sIx
    show (if (-1 : Int) < 0 then (-1 + (ds.length : Int)).toNat else _) = _
    rw [if_pos (by decide)]
    omega
  rw [e, List.dropLast_eq_take]
  rfl
theorem cutD_from (ds : List PyData) (k : Nat) : cutD ds (some (k : Int)) none = ds.drop k := cut_from ds k
theorem cutD_to (ds : List PyData) (k : Nat) : cutD ds none (some (k : Int)) = ds.take k := cut_to ds k
theorem cutD_both (ds : List PyData) (j k : Nat) : cutD ds (some (j : Int)) (some (k : Int)) = (ds.take k).drop j := cut_both ds j k
theorem cutD_but1 (ds : List PyData) : cutD ds none (some (-1)) = ds.dropLast := cut_but1 ds
/-- strictly ascending -/
def asc : List Int → Bool
  | a :: b :: r => decide (a < b) && asc (b :: r)
  | _ => true
theorem asc_range : ∀ ns : List Int, (List.range (min ns.length (ns.drop 1).length)).all (fun i => decide (ns.getD i 0 < (ns.drop 1).getD i 0)) = asc ns
  | [] => rfl
  | [_] => rfl
  | a :: b :: r => by
    have ih := asc_range (b :: r)
    have e : min (a :: b :: r).length ((a :: b :: r).drop 1).length = min (b :: r).length ((b :: r).drop 1).length + 1 := by simp
    rw [e, List.range_succ_eq_map, List.all_cons, List.all_map]
    show (decide (a < b) && _) = (decide (a < b) && asc (b :: r))
    rw [← ih]
    rfl
section
variable {P : Program} {w : World} {K : Fg} {mg : Str → Option Value} {base : Heap} {C : Addr}
/-! ### is_number -/
def rNum : List PyData → PyData → Prop := fun ds r => ∃ v lo hi, ds = [.int v, .int lo, .int hi] ∧ r = .bool (inR lo hi v)
abbrev sis_number : Stmt := topS 11
theorem scis_number : FnScope ["value", "low", "high"] ["value", "low", "high"] (defScope sis_number) := ⟨rfl, rfl, rfl, by decide +kernel, rfl, by decide +kernel, by decide +kernel⟩
theorem ok_is_number (T : Tx K mg C) : CallOk P w K mg base CX0 1 "is_number" ["value", "low", "high"] (SpR K rNum) := by
  refine (T.fn 0 _ _ rfl).okR (k := 0) (N := ["value", "low", "high"]) scis_number (fun _ _ _ _ _ _ us hl => match us, hl with | [_, _, _], _ => rfl) (fun ds r h => ?_) fun A outer s H0 E hr => ⟨_, (pss_one (ps_ret (pe_and (pe_callB (r := rIsi K) call_isi (by rfl) T.isi boot_isinstance (pa_cons (pv 0) (pa_cons (pe_bltn (v := .ty "int") (by rfl) T.int boot_int rfl) pa_nil))) (pe_and (pe_not (pe_callB (r := rIsi K) call_isi (by rfl) T.isi boot_isinstance (pa_cons (pv 0) (pa_cons (pe_bltn (v := .ty "bool") (by rfl) T.bool boot_bool rfl) pa_nil)))) (pe_one (pe_chain op_le op_le (pv 1) (pv 0) (pv 2))))))), fun H ds r vs h a t D kr kn => ?_⟩
  · obtain ⟨v, lo, hi, rfl, _⟩ := h
    rfl
  · obtain ⟨v, lo, hi, rfl, rfl⟩ := h
    obtain ⟨x, y, z, rfl, hx, hy, hz⟩ := a.three
    refine s_ret (d := .bool (inR lo hi v)) (ev_is (ev_andV (ev_isi (ev_var rfl hx) rfl) fun _ => ev_andV (ev_notV (ev_isi (ev_var rfl hx) rfl)) fun _ => ev_between (ev_var rfl hy) (ev_var rfl hx) (ev_var rfl hz)) rfl) kr
/-! ### is_text -/
def isText (m : Int) (ns : List Int) : Bool := decide (ns.length ≤ 40) && ns.all (inR 0 (m - 1))
def rText : List PyData → PyData → Prop := fun ds r => ∃ m ns, ds = [.int m, iD ns] ∧ r = .bool (isText m ns)
abbrev sis_text : Stmt := topS 13
theorem scis_text : FnScope ["letters", "value", "letter"] ["letters", "value"] (defScope sis_text) := ⟨rfl, rfl, rfl, by decide +kernel, rfl, by decide +kernel, by decide +kernel⟩
theorem ok_is_text (T : Tx K mg C) (B : Tbs K mg base) : CallOk P w K mg base CX0 3 "is_text" ["letters", "value"] (SpR K rText) := by
  have cis_number := ok_is_number (P := P) (w := w) (base := base) T
  have TB := B "is_text" (by decide)
  refine (T.fn 2 _ _ rfl).okR (k := 2) (N := ["letters", "value", "letter"]) scis_text (fun _ _ _ _ _ _ us hl => match us, hl with | [_, _], _ => rfl) (fun ds r h => ?_) fun A outer s H0 E hr => ⟨_, (pss_cons (ps_if (L2.PW.pt (pw_or (pt_not (pt_val (pe_callB (r := rIsi K) call_isi (by rfl) T.isi boot_isinstance (pa_cons (pv 1) (pa_cons (pe_bltn (v := .ty "tuple") (by rfl) T.tuple boot_tuple rfl) pa_nil))))) (pw_or1 (pt_cmpR op_gt (pe_callB (r := rLenSq K) call_len_seq (by rfl) T.len boot_len (pa_cons (pv 1) pa_nil)) (pe_gi T.txt) (nomark _))))) (pss_one (ps_ret pe_bl)) pss_nil)
  (pss_one (ps_ret (pe_allG (k := 1) (own := [("letter", 2)]) (hr.mono (by decide)) rfl scis_text.nd (by rfl) T.all boot_all TB rfl rfl (by decide +kernel) (by decide +kernel) (blkOk_by (N := ["letters", "value", "letter"]) (sc := defScope sis_text) (by decide +kernel)) (pi_tup (pv 1)) (fun _ _ _ _ _ _ _ _ => (pg_name (i := 2) scis_text.nd rfl (.inl rfl))) (fun _ _ _ _ _ _ _ _ hr2 => (pe_c cis_number (hr2.mono (by decide)) pass0 (pa_cons (pv 2) (pa_cons pe_int (pa_cons (pe_op op_sub (pv 0) pe_int) pa_nil))))) (fun _ => rfl))))), fun H ds r vs h a t D kr kn => ?_⟩
  · obtain ⟨m, ns, rfl, _⟩ := h
    rfl
  · obtain ⟨m, ns, rfl, rfl⟩ := h
    obtain ⟨x, y, rfl, hx, hy⟩ := a.two
    have e0 : ((ns.map PyData.int).length : Int) = ns.length := by simp
    refine q_when (et_or (et_not (et_B (ev_isi (ev_var rfl hy) rfl))) fun _ => et_test (ev_gt (ev_lenL (ev_var rfl hy) (.inr rfl)) ev_int)) (fun hb H1 g1 => ?_) fun hb H1 g1 => ?_
    · have e : isText m ns = false := by
        have : (40 : Int) < (ns.map PyData.int).length := by simpa using hb
        unfold isText
        rw [e0] at this
        rw [decide_eq_false (by omega)]
        rfl
      exact s_ret (ev_is ev_bl (by rw [e])) fun v H2 g2 hv => kr v H2 (g1.trans g2) hv
    · have hl : ns.length ≤ 40 := by
        have : ¬ (40 : Int) < (ns.map PyData.int).length := by simpa using hb
        rw [e0] at this
        omega
      refine s_ret (ev_is (ev_all (by decide) (T.tne _ (by decide)) (g1.gt t) (src_tup (ev_var rfl (hy.gx g1))) (val := fun i => (ns[i]?.map (inR 0 (m - 1))).getD false) (turn_name (fun _ => rfl) (fun _ _ _ _ _ _ => et_yes) fun i x H' hi g it _ => ?_)) ?_) fun v H2 g2 hv => kr v H2 (g1.trans g2) hv
      · obtain ⟨d, hd, hv⟩ := it
        obtain ⟨n, hn, rfl⟩ := map_get hd
        refine ev_call (g.gt (g1.gt t)) (ea3 (ev_var rfl hv) ev_int (ev_sub (ev_var rfl ((hx.gx g1).gx g)) ev_int)) ⟨n, 0, m - 1, rfl, ?_⟩
        rw [hn]
        rfl
      · unfold isText
        rw [decide_eq_true hl, Bool.true_and, List.length_map]
        exact congrArg PyData.bool (range_all fun i x hx => by rw [hx]; rfl)
/-! ### is_lot -/
def isLot (m : Int) (ns : List Int) : Bool := ns.all (inR 0 (m - 1)) && asc ns
def rLot : List PyData → PyData → Prop := fun ds r => ∃ m ns, ds = [.int m, iD ns] ∧ r = .bool (isLot m ns)
abbrev sis_lot : Stmt := topS 16
theorem scis_lot : FnScope ["messengers", "value", "one", "other"] ["messengers", "value"] (defScope sis_lot) := ⟨rfl, rfl, rfl, by decide +kernel, rfl, by decide +kernel, by decide +kernel⟩
theorem ok_is_lot (T : Tx K mg C) (B : Tbs K mg base) : CallOk P w K mg base CX0 3 "is_lot" ["messengers", "value"] (SpR K rLot) := by
  have cis_number := ok_is_number (P := P) (w := w) (base := base) T
  have TB := B "is_lot" (by decide)
  refine (T.fn 3 _ _ rfl).okR (k := 2) (N := ["messengers", "value", "one", "other"]) scis_lot (fun _ _ _ _ _ _ us hl => match us, hl with | [_, _], _ => rfl) (fun ds r h => ?_) fun A outer s H0 E hr => ⟨_, (pss_cons (ps_if (L2.PW.pt (pw_or (pt_not (pt_val (pe_callB (r := rIsi K) call_isi (by rfl) T.isi boot_isinstance (pa_cons (pv 1) (pa_cons (pe_bltn (v := .ty "tuple") (by rfl) T.tuple boot_tuple rfl) pa_nil))))) (pw_or1 (pt_not (pt_val (pe_allG (k := 1) (own := [("one", 2)]) (hr.mono (by decide)) rfl scis_lot.nd (by rfl) T.all boot_all TB rfl rfl (by decide +kernel) (by decide +kernel) (blkOk_by (N := ["messengers", "value", "one", "other"]) (sc := defScope sis_lot) (by decide +kernel)) (pi_tup (pv 1)) (fun _ _ _ _ _ _ _ _ => (pg_name (i := 2) scis_lot.nd rfl (.inl rfl))) (fun _ _ _ _ _ _ _ _ hr2 => (pe_c cis_number (hr2.mono (by decide)) pass0 (pa_cons (pv 2) (pa_cons pe_int (pa_cons (pe_op op_sub (pv 0) pe_int) pa_nil))))) (fun _ => rfl))))))) (pss_one (ps_ret pe_bl)) pss_nil)
  (pss_one (ps_ret (pe_allG (k := 0) (g := gTup K 2 (gCons (gName 2) (gCons (gName 3) gNil))) (own := [("one", 2), ("other", 3)]) (hr.mono (by decide)) rfl scis_lot.nd (by rfl) T.all boot_all TB rfl rfl (by decide +kernel) (by decide +kernel) (blkOk_by (N := ["messengers", "value", "one", "other"]) (sc := defScope sis_lot) (by decide +kernel)) (pi_zipA (by rfl) T.zip (pa_cons (pv 1) (pa_cons (pe_slice (r := rSlA K) sl_tupA (pv 1) (po_some pe_int) po_none) pa_nil))) (fun _ _ _ _ _ _ _ _ => (pg_tup rfl (pgs_cons (pg_name (i := 2) scis_lot.nd rfl (.inl rfl)) (pgs_cons (pg_name (i := 3) scis_lot.nd rfl (.inl rfl)) pgs_nil)))) (fun _ _ _ _ _ _ _ _ hr2 => (pe_cmpR op_lt (pv 2) (pv 3) (nomark _))) (fun _ => rfl))))), fun H ds r vs h a t D kr kn => ?_⟩
  · obtain ⟨m, ns, rfl, _⟩ := h
    rfl
  · obtain ⟨m, ns, rfl, rfl⟩ := h
    obtain ⟨x, y, rfl, hx, hy⟩ := a.two
    have tn := T.tne "is_lot" (by decide)
    refine q_when (et_or (et_not (et_B (ev_isi (ev_var rfl hy) rfl))) fun _ => et_not (et_B (ev_is (d' := .bool (ns.all (inR 0 (m - 1)))) (ev_all (x := "is_lot") (by decide) tn t (src_tup (ev_var rfl hy)) (val := fun i => (ns[i]?.map (inR 0 (m - 1))).getD false) (turn_name (fun _ => rfl) (fun _ _ _ _ _ _ => et_yes) fun i z H' hi g it _ => by
        obtain ⟨d, hd, hv⟩ := it
        obtain ⟨n, hn, rfl⟩ := map_get hd
        refine ev_call (g.gt t) (ea3 (ev_var rfl hv) ev_int (ev_sub (ev_var rfl (hx.gx g)) ev_int)) ⟨n, 0, m - 1, rfl, ?_⟩
        rw [hn]
        rfl)) (by rw [List.length_map]; exact congrArg PyData.bool (range_all fun i x hx => by rw [hx]; rfl))))) (fun hb H1 g1 => ?_) fun hb H1 g1 => ?_
    · have e : ns.all (inR 0 (m - 1)) = false := by simpa using hb
      exact s_ret (ev_is ev_bl (by unfold isLot; rw [e]; rfl)) fun v H2 g2 hv => kr v H2 (g1.trans g2) hv
    · have e : ns.all (inR 0 (m - 1)) = true := by simpa using hb
      refine s_ret (ev_is (ev_all (x := "is_lot") (by decide) tn (g1.gt t) (src_zipT (ea2 (ev_var rfl (hy.gx g1)) (ev_slT (ev_var rfl (hy.gx g1)) (eo_some ev_int) eo_none))) (val := fun i => decide (ns.getD i 0 < (ns.drop 1).getD i 0)) ?_) ?_) fun v H2 g2 hv => kr v H2 (g1.trans g2) hv
      · intro i z H' hi g it Q2 q
        obtain ⟨T', v, u, d, f, rfl, eT, h1, h2, h3, h4⟩ := it
        rw [show cutD (ns.map PyData.int) (some 1) none = (ns.map PyData.int).drop 1 from cutD_from _ 1, ← List.map_drop] at h3
        obtain ⟨n1, hn1, rfl⟩ := map_get h1
        obtain ⟨n2, hn2, rfl⟩ := map_get h3
        refine ⟨T', [v, u], rfl, SqT.of eT, rfl, v, [u], rfl, u, [], rfl, rfl, q _ H' .refl rfl et_yes fun _ => ?_⟩
        refine ev_is (ev_lt (ev_var rfl (.inl h2)) (ev_var rfl (.inl h4))) ?_
        show PyData.bool (decide (n1 < n2)) = PyData.bool (decide (ns.getD i 0 < (ns.drop 1).getD i 0))
        rw [List.getD_eq_getElem?_getD, List.getD_eq_getElem?_getD, hn1, hn2]
        rfl
      · unfold isLot
        rw [e, Bool.true_and, show cutD (ns.map PyData.int) (some 1) none = (ns.map PyData.int).drop 1 from cutD_from _ 1, ← List.map_drop, List.length_map, List.length_map]
        exact congrArg PyData.bool (asc_range ns)
/-! ### is_row -/
def rowOk (told : List (List Int)) (m : Int) (ns : List Int) : Bool := isText told.length ns && ns.all fun l => decide (m ∈ told.getD l.toNat [])
def rRow : List PyData → PyData → Prop := fun ds r => ∃ p m ns, ds = [pD p, .int m, iD ns] ∧ r = .bool (rowOk p.2 m ns)
theorem any_int (m : Int) (xs : List Int) : ((xs.map PyData.int).any fun y => eqvD y (.int m)) = decide (m ∈ xs) := by
  rw [Bool.eq_iff_iff, List.any_eq_true, decide_eq_true_iff]
  constructor
  · rintro ⟨d, hd, e⟩
    obtain ⟨x, hx, rfl⟩ := List.mem_map.mp hd
    have e2 : x = m := beq_iff_eq.mp (show (x == m) = true from e)
    exact e2 ▸ hx
  · intro h
    exact ⟨.int m, List.mem_map.mpr ⟨m, h, rfl⟩, beq_iff_eq.mpr rfl⟩
theorem ints_flat (xs : List Int) : (xs.map PyData.int).all flatD = true := by
  rw [List.all_map]
  exact List.all_eq_true.mpr fun _ _ => rfl
theorem atI_natD {xs : List PyData} {i : Int} {d : PyData} (h0 : 0 ≤ i) (h : xs[i.toNat]? = some d) : atI xs i = some d := by
  have hl : i.toNat < xs.length := (List.getElem?_eq_some_iff.mp h).1
  unfold atI ixN
  rw [if_pos h0, if_pos (by omega)]
  exact h
abbrev sis_row : Stmt := topS 18
theorem scis_row : FnScope ["plan", "messenger", "value", "letter"] ["plan", "messenger", "value"] (defScope sis_row) := ⟨rfl, rfl, rfl, by decide +kernel, rfl, by decide +kernel, by decide +kernel⟩
theorem ok_is_row (T : Tx K mg C) (B : Tbs K mg base) : CallOk P w K mg base CX0 4 "is_row" ["plan", "messenger", "value"] (SpR K rRow) := by
  have cis_text := ok_is_text (P := P) (w := w) (base := base) T B
  have TB := B "is_row" (by decide)
  refine (T.fn 5 _ _ rfl).okR (k := 3) (N := ["plan", "messenger", "value", "letter"]) scis_row (fun _ _ _ _ _ _ us hl => match us, hl with | [_, _, _], _ => rfl) (fun ds r h => ?_) fun A outer s H0 E hr => ⟨_, (pss_cons (ps_if (pt_not (pt_val (pe_c cis_text (hr.mono (by decide)) pass0 (pa_cons (pe_callB (r := rLenSq K) call_len_seq (by rfl) T.len boot_len (pa_cons (pe_ix (r := rIxT K) ix_tup (pv 0) pe_int (fun _ _ => rfl)) pa_nil)) (pa_cons (pv 2) pa_nil))))) (pss_one (ps_ret pe_bl)) pss_nil)
  (pss_one (ps_ret (pe_allG (k := 0) (own := [("letter", 3)]) (hr.mono (by decide)) rfl scis_row.nd (by rfl) T.all boot_all TB rfl rfl (by decide +kernel) (by decide +kernel) (blkOk_by (N := ["plan", "messenger", "value", "letter"]) (sc := defScope sis_row) (by decide +kernel)) (pi_tup (pv 2)) (fun _ _ _ _ _ _ _ _ => (pg_name (i := 3) scis_row.nd rfl (.inl rfl))) (fun _ _ _ _ _ _ _ _ hr2 => (pe_cmpR (r := rIn K false) op_in_seq (pv 1) (pe_ix (r := rIxT K) ix_tup (pe_ix (r := rIxT K) ix_tup (pv 0) pe_int (fun _ _ => rfl)) (pv 3) (fun _ _ => rfl)) (by with_unfolding_all rfl))) (fun _ => rfl))))), fun H ds r vs h a t D kr kn => ?_⟩
  · obtain ⟨p, m, ns, rfl, _⟩ := h
    rfl
  · obtain ⟨⟨many, told⟩, m, ns, rfl, rfl⟩ := h
    obtain ⟨x, y, z, rfl, hx, hy, hz⟩ := a.three
    have tn := T.tne "is_row" (by decide)
    refine q_when (et_not (et_B (ev_call (R := rText) (d := .bool (isText told.length ns)) t (ea2 (ev_lenL (ds := told.map iD) (ev_ixT (ev_var rfl hx) ev_int rfl) (.inr rfl)) (ev_var rfl hz)) ⟨_, ns, rfl, by simp⟩))) (fun hb H1 g1 => ?_) fun hb H1 g1 => ?_
    · have e : isText told.length ns = false := by simpa using hb
      exact s_ret (ev_is ev_bl (by unfold rowOk; rw [e]; rfl)) fun v H2 g2 hv => kr v H2 (g1.trans g2) hv
    · have e : isText told.length ns = true := by simpa using hb
      refine s_ret (ev_is (ev_all (x := "is_row") (by decide) tn (g1.gt t) (src_tup (ev_var rfl (hz.gx g1))) (val := fun i => (ns[i]?.map fun l => decide (m ∈ told.getD l.toNat [])).getD false) (turn_name (fun _ => rfl) (fun _ _ _ _ _ _ => et_yes) fun i u H' hi g it _ => ?_)) ?_) fun v H2 g2 hv => kr v H2 (g1.trans g2) hv
      · obtain ⟨d, hd, hv⟩ := it
        obtain ⟨n, hn, rfl⟩ := map_get hd
        have hin : inR 0 (told.length - 1) n = true := by
          unfold isText at e
          exact List.all_eq_true.mp (Bool.and_eq_true_iff.mp e).2 n (List.mem_of_getElem? hn)
        have h1 : 0 ≤ n := of_decide_eq_true (Bool.and_eq_true_iff.mp hin).1
        have h2 : n ≤ told.length - 1 := of_decide_eq_true (Bool.and_eq_true_iff.mp hin).2
        have hl : n.toNat < told.length := by omega
        have e4 : (told.map iD)[n.toNat]? = some (iD (told.getD n.toNat [])) := by
          rw [List.getElem?_map, List.getD_eq_getElem?_getD]
          rw [List.getElem?_eq_getElem hl]
          rfl
        refine ev_is (ev_in (neg := false) (ev_var rfl ((hy.gx g1).gx g)) (ev_ixT (ev_ixT (ev_var rfl ((hx.gx g1).gx g)) ev_int rfl) (ev_var rfl hv) (atI_natD h1 e4)) (.inr rfl) rfl (ints_flat _)) ?_
        rw [hn, any_int]
        rfl
      · unfold rowOk
        rw [e, Bool.true_and, List.length_map]
        exact congrArg PyData.bool (range_all fun i x hx => by rw [hx]; rfl)
/-! ### need_question: nothing is raised for a fine question -/
structure QOk (q : List (List Int) × List Int) : Prop where
  s1 : 1 ≤ q.1.length
  s8 : q.1.length ≤ 8
  w : ∃ l, 1 ≤ l ∧ l ≤ 5 ∧ ∀ x ∈ q.1, x.length = l ∧ x.all (inR 0 (q.1.length - 1)) = true
  ml : q.2.length = q.1.length
  m : q.2.all (inR 0 3) = true
def rNeedQ : List PyData → PyData → Prop := fun ds r => ∃ q, QOk q ∧ ds = [qD q] ∧ r = .none
theorem sq_of {q : List (List Int) × List Int} (h : QOk q) : ∃ s0 r, q.1 = s0 :: r := by
  have := h.s1
  cases e : q.1 with
  | nil =>
    rw [e] at this
    simp at this
  | cons a b => exact ⟨a, b, rfl⟩
theorem tru_and {a b : Bool} (h1 : a = true) (h2 : b = true) : (a && b) = true := by rw [h1, h2]; rfl
abbrev sneed_question : Stmt := topS 12
theorem scneed_question : FnScope ["value", "answers", "steps", "step", "state", "one"] ["value"] (defScope sneed_question) := ⟨rfl, rfl, rfl, by decide +kernel, rfl, by decide +kernel, by decide +kernel⟩
theorem ok_need_question (T : Tx K mg C) (B : Tbs K mg base) : CallOk P w K mg base CX0 3 "need_question" ["value"] (SpR K rNeedQ) := by
  have cis_number := ok_is_number (P := P) (w := w) (base := base) T
  have TB := B "need_question" (by decide)
  refine (T.fn 1 _ _ rfl).okR (k := 2) (N := ["value", "answers", "steps", "step", "state", "one"]) scneed_question (fun _ _ _ _ _ _ us hl => match us, hl with | [_], _ => rfl) (fun ds r h => ?_) fun A outer s H0 E hr => ⟨_, (pss_cons (ps_if (L2.PW.pt (pw_or (pt_not (pt_val (pe_callB (r := rIsi K) call_isi (by rfl) T.isi boot_isinstance (pa_cons (pv 0) (pa_cons (pe_bltn (v := .ty "tuple") (by rfl) T.tuple boot_tuple rfl) pa_nil))))) (pw_or1 (pt_cmpR op_ne (pe_callB (r := rLenSq K) call_len_seq (by rfl) T.len boot_len (pa_cons (pv 0) pa_nil)) pe_int (nomark _))))) (pss_one ps_never) pss_nil)
  (pss_cons (ps_asg (pv 0) (pg_tup rfl (pgs_cons (pg_name (i := 2) scneed_question.nd rfl (.inr rfl)) (pgs_cons (pg_name (i := 1) scneed_question.nd rfl (.inl rfl)) pgs_nil))))
  (pss_cons (ps_if (L2.PW.pt (pw_or (pt_not (pt_val (pe_callB (r := rIsi K) call_isi (by rfl) T.isi boot_isinstance (pa_cons (pv 2) (pa_cons (pe_bltn (v := .ty "tuple") (by rfl) T.tuple boot_tuple rfl) pa_nil))))) (pw_or1 (pt_not (pt_chain op_le op_le pe_int (pe_callB (r := rLenSq K) call_len_seq (by rfl) T.len boot_len (pa_cons (pv 2) pa_nil)) (pe_gi T.sta)))))) (pss_one ps_never) pss_nil)
  (pss_cons (ps_if (L2.PW.pt (pw_or (pt_not (pt_val (pe_allG (k := 0) (own := [("step", 3)]) (hr.mono (by decide)) rfl scneed_question.nd (by rfl) T.all boot_all TB rfl rfl (by decide +kernel) (by decide +kernel) (blkOk_by (N := ["value", "answers", "steps", "step", "state", "one"]) (sc := defScope sneed_question) (by decide +kernel)) (pi_tup (pv 2)) (fun _ _ _ _ _ _ _ _ => (pg_name (i := 3) scneed_question.nd rfl (.inl rfl))) (fun _ _ _ _ _ _ _ _ hr2 => (pe_callB (r := rIsi K) call_isi (by rfl) T.isi boot_isinstance (pa_cons (pv 3) (pa_cons (pe_bltn (v := .ty "tuple") (by rfl) T.tuple boot_tuple rfl) pa_nil)))) (fun _ => rfl)))) (pw_or1 (pt_not (pt_chain op_le op_le pe_int (pe_callB (r := rLenSq K) call_len_seq (by rfl) T.len boot_len (pa_cons (pe_ix (r := rIxT K) ix_tup (pv 2) pe_int (fun _ _ => rfl)) pa_nil)) (pe_gi T.let_)))))) (pss_one ps_never) pss_nil)
  (pss_cons (ps_for PassesOwn.never rfl (pi_tup (pv 2)) (pg_name (i := 3) scneed_question.nd rfl (.inl rfl)) (pss_one (ps_if (L2.PW.pt (pw_or (pt_cmpR op_ne (pe_callB (r := rLenSq K) call_len_seq (by rfl) T.len boot_len (pa_cons (pv 3) pa_nil)) (pe_callB (r := rLenSq K) call_len_seq (by rfl) T.len boot_len (pa_cons (pe_ix (r := rIxT K) ix_tup (pv 2) pe_int (fun _ _ => rfl)) pa_nil)) (nomark _)) (pw_or1 (pt_not (pt_val (pe_allG (k := 1) (own := [("state", 4)]) (hr.mono (by decide)) rfl scneed_question.nd (by rfl) T.all boot_all TB rfl rfl (by decide +kernel) (by decide +kernel) (blkOk_by (N := ["value", "answers", "steps", "step", "state", "one"]) (sc := defScope sneed_question) (by decide +kernel)) (pi_tup (pv 3)) (fun _ _ _ _ _ _ _ _ => (pg_name (i := 4) scneed_question.nd rfl (.inl rfl))) (fun _ _ _ _ _ _ _ _ hr2 => (pe_c cis_number (hr2.mono (by decide)) pass0 (pa_cons (pv 4) (pa_cons pe_int (pa_cons (pe_op op_sub (pe_callB (r := rLenSq K) call_len_seq (by rfl) T.len boot_len (pa_cons (pv 2) pa_nil)) pe_int) pa_nil))))) (fun _ => rfl))))))) (pss_one ps_never) pss_nil)))
  (pss_cons (ps_if (L2.PW.pt (pw_or (pt_not (pt_val (pe_callB (r := rIsi K) call_isi (by rfl) T.isi boot_isinstance (pa_cons (pv 1) (pa_cons (pe_bltn (v := .ty "tuple") (by rfl) T.tuple boot_tuple rfl) pa_nil))))) (pw_or1 (pt_cmpR op_ne (pe_callB (r := rLenSq K) call_len_seq (by rfl) T.len boot_len (pa_cons (pv 1) pa_nil)) (pe_callB (r := rLenSq K) call_len_seq (by rfl) T.len boot_len (pa_cons (pv 2) pa_nil)) (nomark _))))) (pss_one ps_never) pss_nil)
  (pss_one (ps_if (pt_not (pt_val (pe_allG (k := 1) (own := [("one", 5)]) (hr.mono (by decide)) rfl scneed_question.nd (by rfl) T.all boot_all TB rfl rfl (by decide +kernel) (by decide +kernel) (blkOk_by (N := ["value", "answers", "steps", "step", "state", "one"]) (sc := defScope sneed_question) (by decide +kernel)) (pi_tup (pv 1)) (fun _ _ _ _ _ _ _ _ => (pg_name (i := 5) scneed_question.nd rfl (.inl rfl))) (fun _ _ _ _ _ _ _ _ hr2 => (pe_c cis_number (hr2.mono (by decide)) pass0 (pa_cons (pv 5) (pa_cons pe_int (pa_cons (pe_gi T.ans) pa_nil))))) (fun _ => rfl)))) (pss_one ps_never) pss_nil)))))))), fun H ds r vs h a t D kr kn => ?_⟩
  · obtain ⟨q, _, rfl, _⟩ := h
    rfl
  · obtain ⟨⟨st, mk⟩, hq, rfl, rfl⟩ := h
    obtain ⟨x, rfl, hx⟩ := a.one
    have tn := T.tne "need_question" (by decide)
    obtain ⟨s0, sr, es⟩ := sq_of hq
    obtain ⟨l, l1, l5, hl⟩ := hq.w
    have es' : st = s0 :: sr := es
    subst es'
    have h8 : (s0 :: sr).length ≤ 8 := hq.s8
    have hml : mk.length = (s0 :: sr).length := hq.ml
    have hm : mk.all (inR 0 3) = true := hq.m
    have hl : ∀ x ∈ s0 :: sr, x.length = l ∧ x.all (inR 0 ((s0 :: sr).length - 1)) = true := hl
    have hl0 := hl s0 List.mem_cons_self
    have hl00 := hl0.1
    have len : ∀ {xs : List (List Int)}, ((xs.map iD).length : Int) = xs.length := by simp
    have lenI : ∀ {xs : List Int}, ((xs.map PyData.int).length : Int) = xs.length := by simp
    refine q_when (b := false) (et_is (et_or (et_not (et_B (ev_isi (ev_var rfl hx) rfl))) fun _ => et_test (ev_neI (ev_lenL (ds := [tD (s0 :: sr), iD mk]) (ev_var rfl hx) (.inr rfl)) ev_int)) rfl) (fun hb => nomatch hb) fun _ H1 g1 => ?_
    -- steps, answers = value
    have hx1 := hx.gx g1
    obtain ⟨ax, xs, rfl, ex, tx⟩ := hx1.tup
    cases tx with
    | cons hv tx =>
    cases tx with
    | cons hu tx =>
    cases tx
    rename_i v u
    refine ⟨.ref ax, rfl, ax, [v, u], rfl, SqT.of ex, rfl, v, [u], rfl, u, [], rfl, rfl, ?_⟩
    have dv : Dv H1 v (tD (s0 :: sr)) := .inl hv
    have du : Dv H1 u (iD mk) := .inl hu
    refine q_when (b := false) (et_is (et_or (et_not (et_B (ev_isi (ev_var rfl dv) rfl))) fun _ => et_not (et_test (ev_between ev_int (ev_lenL (ds := (s0 :: sr).map iD) (ev_var rfl dv) (.inr rfl)) ev_int))) ?_) (fun hb => nomatch hb) fun _ H2 g2 => ?_
    · rw [len]
      have h1s : 1 ≤ (s0 :: sr).length := hq.s1
      simp only [decide_eq_true (show (1 : Int) ≤ ((s0 :: sr).length : Nat) by omega), decide_eq_true (show (((s0 :: sr).length : Nat) : Int) ≤ 8 by omega)]
      rfl
    refine q_when (b := false) (et_is (et_or (et_not (et_B (ev_all (x := "need_question") (val := fun _ => true) (by decide) tn ((g1.trans g2).gt t) (src_tup (ds := (s0 :: sr).map iD) (ev_var rfl (dv.gx g2))) (turn_name (fun _ => rfl) (fun _ _ _ _ _ _ => et_yes) fun i z H' hi g it _ => by
        obtain ⟨d, hd, hv⟩ := it
        obtain ⟨n, hn, rfl⟩ := map_get hd
        exact ev_isi (ev_var rfl hv) rfl)))) fun _ => et_not (et_test (ev_between ev_int (ev_lenL (ds := s0.map PyData.int) (ev_ixT (ev_var rfl (dv.gx g2)) ev_int (atI_natD (by decide) rfl)) (.inr rfl)) ev_int))) ?_) (fun hb => nomatch hb) fun _ H3 g3 => ?_
    · rw [lenI]
      have e1 : (List.range ((s0 :: sr).map iD).length).all (fun _ => true) = true := List.all_eq_true.mpr fun _ _ => rfl
      simp only [e1, decide_eq_true (show (1 : Int) ≤ (s0.length : Nat) by omega), decide_eq_true (show ((s0.length : Nat) : Int) ≤ 5 by omega)]
      rfl
    have dv3 : Dv H3 v (tD (s0 :: sr)) := (dv.gx g2).gx g3
    have du3 : Dv H3 u (iD mk) := (du.gx g2).gx g3
    have t3 : GT K H3 := (g1.trans (g2.trans g3)).gt t
    refine s_for (n := ((s0 :: sr).map iD).length) (srk_tup (ds := (s0 :: sr).map iD) (ev_var rfl dv3)) fun H4 g4 => ⟨fun i σ' H' => Gx K H4 H' ∧ ∃ o, σ' = [some (.ref ax), some u, some v, o, none, none], ⟨.refl, none, rfl⟩, fun i σ' H' hi p => p.1.kt, fun i z σ' H' H'' hi p g5 it => ?_, fun σ' H' p => ?_⟩
    · obtain ⟨g6, o, rfl⟩ := p
      obtain ⟨d, hd, hz⟩ := it
      obtain ⟨n, hn, rfl⟩ := map_get hd
      have gg := g4.trans (g6.trans g5)
      have hn2 := hl n (List.mem_of_getElem? hn)
      refine s_if (b := false) (et_is (et_or (et_test (ev_neI (ev_lenL (ds := n.map PyData.int) (ev_var rfl hz) (.inr rfl)) (ev_lenL (ds := s0.map PyData.int) (ev_ixT (ev_var rfl (dv3.gx gg)) ev_int (atI_natD (by decide) rfl)) (.inr rfl)))) fun _ => et_not (et_B (ev_all (x := "need_question") (val := fun i => (n[i]?.map (inR 0 ((s0 :: sr).length - 1))).getD false) (by decide) tn (gg.gt t3) (src_tup (ds := n.map PyData.int) (ev_var rfl hz)) (turn_name (fun _ => rfl) (fun _ _ _ _ _ _ => et_yes) fun i y H' hi g it _ => by
        obtain ⟨d, hd, hv⟩ := it
        obtain ⟨m, hm, rfl⟩ := map_get hd
        refine ev_call (g.gt (gg.gt t3)) (ea3 (ev_var rfl hv) ev_int (ev_sub (ev_lenL (ds := (s0 :: sr).map iD) (ev_var rfl ((dv3.gx gg).gx g)) (.inr rfl)) ev_int)) ⟨m, 0, (s0 :: sr).length - 1, by rw [len], ?_⟩
        rw [hm]
        rfl)))) ?_) (fun hb => nomatch hb) fun _ H6 g7 => ⟨g6.trans (g5.trans g7), some z, rfl⟩
      rw [lenI, lenI, List.length_map, range_all (f := inR 0 ((s0 :: sr).length - 1)) (fun i x hx => by rw [hx]; rfl), hn2.2, hn2.1, hl0.1]
      simp
    · obtain ⟨g5, o, rfl⟩ := p
      have gg := g4.trans g5
      refine q_when (b := false) (et_is (et_or (et_not (et_B (ev_isi (ev_var rfl (du3.gx gg)) rfl))) fun _ => et_test (ev_neI (ev_lenL (ds := mk.map PyData.int) (ev_var rfl (du3.gx gg)) (.inr rfl)) (ev_lenL (ds := (s0 :: sr).map iD) (ev_var rfl (dv3.gx gg)) (.inr rfl)))) ?_) (fun hb => nomatch hb) fun _ H6 g6 => ?_
      · rw [lenI, len, hml]
        simp
      refine s_if (b := false) (et_is (et_not (et_B (ev_all (x := "need_question") (val := fun i => (mk[i]?.map (inR 0 3)).getD false) (by decide) tn ((gg.trans g6).gt t3) (src_tup (ds := mk.map PyData.int) (ev_var rfl ((du3.gx gg).gx g6))) (turn_name (fun _ => rfl) (fun _ _ _ _ _ _ => et_yes) fun i y H' hi g it _ => by
        obtain ⟨d, hd, hv⟩ := it
        obtain ⟨m, hm, rfl⟩ := map_get hd
        refine ev_call (g.gt ((gg.trans g6).gt t3)) (ea3 (ev_var rfl hv) ev_int ev_int) ⟨m, 0, 3, rfl, ?_⟩
        rw [hm]
        rfl)))) ?_) (fun hb => nomatch hb) fun _ H7 g7 => kn rfl _ H7 (g1.trans (g2.trans (g3.trans (g4.trans (g5.trans (g6.trans g7))))))
      rw [List.length_map, range_all (f := inR 0 3) (fun i x hx => by rw [hx]; rfl), hm]
      rfl
end
end LP

/-! LpW2 -/
set_option maxHeartbeats 4000000
/-! Walks: need_plan, need_post; figure_of, numbers_of, words_of, lines_of. -/
namespace LP
open PySem PySem.Spec PyProof.Rows L2 RZ
section
variable {P : Program} {w : World} {K : Fg} {mg : Str → Option Value} {base : Heap} {C : Addr}
/-! ### need_plan -/
structure POk (p : Int × List (List Int)) : Prop where
  m : inR 1 7 p.1 = true
  t1 : 1 ≤ p.2.length
  t5 : p.2.length ≤ 5
  l : p.2.all (isLot p.1) = true
def rNeedP : List PyData → PyData → Prop := fun ds r => ∃ p, POk p ∧ ds = [pD p] ∧ r = .none
abbrev sneed_plan : Stmt := topS 17
theorem scneed_plan : FnScope ["value", "told", "messengers", "lot"] ["value"] (defScope sneed_plan) := ⟨rfl, rfl, rfl, by decide +kernel, rfl, by decide +kernel, by decide +kernel⟩
theorem ok_need_plan (T : Tx K mg C) (B : Tbs K mg base) : CallOk P w K mg base CX0 5 "need_plan" ["value"] (SpR K rNeedP) := by
  have cis_number := ok_is_number (P := P) (w := w) (base := base) T
  have cis_lot := ok_is_lot (P := P) (w := w) (base := base) T B
  have TB := B "need_plan" (by decide)
  refine (T.fn 4 _ _ rfl).okR (k := 4) (N := ["value", "told", "messengers", "lot"]) scneed_plan (fun _ _ _ _ _ _ us hl => match us, hl with | [_], _ => rfl) (fun ds r h => ?_) fun A outer s H0 E hr => ⟨_, (pss_cons (ps_if (L2.PW.pt (pw_or (pt_not (pt_val (pe_callB (r := rIsi K) call_isi (by rfl) T.isi boot_isinstance (pa_cons (pv 0) (pa_cons (pe_bltn (v := .ty "tuple") (by rfl) T.tuple boot_tuple rfl) pa_nil))))) (pw_or1 (pt_cmpR op_ne (pe_callB (r := rLenSq K) call_len_seq (by rfl) T.len boot_len (pa_cons (pv 0) pa_nil)) pe_int (nomark _))))) (pss_one ps_never) pss_nil)
  (pss_cons (ps_asg (pv 0) (pg_tup rfl (pgs_cons (pg_name (i := 2) scneed_plan.nd rfl (.inr rfl)) (pgs_cons (pg_name (i := 1) scneed_plan.nd rfl (.inl rfl)) pgs_nil))))
  (pss_cons (ps_if (pt_not (pt_val (pe_c cis_number (hr.mono (by decide)) pass0 (pa_cons (pv 2) (pa_cons pe_int (pa_cons (pe_gi T.mes) pa_nil)))))) (pss_one ps_never) pss_nil)
  (pss_cons (ps_if (L2.PW.pt (pw_or (pt_not (pt_val (pe_callB (r := rIsi K) call_isi (by rfl) T.isi boot_isinstance (pa_cons (pv 1) (pa_cons (pe_bltn (v := .ty "tuple") (by rfl) T.tuple boot_tuple rfl) pa_nil))))) (pw_or1 (pt_not (pt_chain op_le op_le pe_int (pe_callB (r := rLenSq K) call_len_seq (by rfl) T.len boot_len (pa_cons (pv 1) pa_nil)) (pe_gi T.let_)))))) (pss_one ps_never) pss_nil)
  (pss_one (ps_if (pt_not (pt_val (pe_allG (k := 3) (own := [("lot", 3)]) (hr.mono (by decide)) rfl scneed_plan.nd (by rfl) T.all boot_all TB rfl rfl (by decide +kernel) (by decide +kernel) (blkOk_by (N := ["value", "told", "messengers", "lot"]) (sc := defScope sneed_plan) (by decide +kernel)) (pi_tup (pv 1)) (fun _ _ _ _ _ _ _ _ => (pg_name (i := 3) scneed_plan.nd rfl (.inl rfl))) (fun _ _ _ _ _ _ _ _ hr2 => (pe_c cis_lot (hr2.mono (by decide)) pass0 (pa_cons (pv 2) (pa_cons (pv 3) pa_nil)))) (fun _ => rfl)))) (pss_one ps_never) pss_nil)))))), fun H ds r vs h a t D kr kn => ?_⟩
  · obtain ⟨q, _, rfl, _⟩ := h
    rfl
  · obtain ⟨⟨many, told⟩, hq, rfl, rfl⟩ := h
    obtain ⟨x, rfl, hx⟩ := a.one
    have tn := T.tne "need_plan" (by decide)
    have hm : inR 1 7 many = true := hq.m
    have h1 : 1 ≤ told.length := hq.t1
    have h5 : told.length ≤ 5 := hq.t5
    have hl : told.all (isLot many) = true := hq.l
    refine q_when (b := false) (et_is (et_or (et_not (et_B (ev_isi (ev_var rfl hx) rfl))) fun _ => et_test (ev_neI (ev_lenL (ds := [.int many, tD told]) (ev_var rfl hx) (.inr rfl)) ev_int)) rfl) (fun hb => nomatch hb) fun _ H1 g1 => ?_
    have hx1 := hx.gx g1
    obtain ⟨ax, xs, rfl, ex, tx⟩ := hx1.tup
    cases tx with
    | cons hv tx =>
    cases tx with
    | cons hu tx =>
    cases tx
    rename_i v u
    refine ⟨.ref ax, rfl, ax, [v, u], rfl, SqT.of ex, rfl, v, [u], rfl, u, [], rfl, rfl, ?_⟩
    have dv : Dv H1 v (.int many) := .inl hv
    have du : Dv H1 u (tD told) := .inl hu
    refine q_when (b := false) (et_is (et_not (et_B (ev_call (R := rNum) (d := .bool (inR 1 7 many)) (g1.gt t) (ea3 (ev_var rfl dv) ev_int ev_int) ⟨many, 1, 7, rfl, rfl⟩))) (by rw [hm]; rfl)) (fun hb => nomatch hb) fun _ H2 g2 => ?_
    refine q_when (b := false) (et_is (et_or (et_not (et_B (ev_isi (ev_var rfl (du.gx g2)) rfl))) fun _ => et_not (et_test (ev_between ev_int (ev_lenL (ds := told.map iD) (ev_var rfl (du.gx g2)) (.inr rfl)) ev_int))) ?_) (fun hb => nomatch hb) fun _ H3 g3 => ?_
    · rw [List.length_map]
      simp only [decide_eq_true (show (1 : Int) ≤ (told.length : Nat) by omega), decide_eq_true (show ((told.length : Nat) : Int) ≤ 5 by omega)]
      rfl
    have gg := g1.trans (g2.trans g3)
    refine s_if (b := false) (et_is (et_not (et_B (ev_all (x := "need_plan") (val := fun i => (told[i]?.map (isLot many)).getD false) (by decide) tn (gg.gt t) (src_tup (ds := told.map iD) (ev_var rfl ((du.gx g2).gx g3))) (turn_name (fun _ => rfl) (fun _ _ _ _ _ _ => et_yes) fun i y H' hi g it _ => by
        obtain ⟨d, hd, hv⟩ := it
        obtain ⟨m, hm, rfl⟩ := map_get hd
        refine ev_call (R := rLot) (g.gt (gg.gt t)) (ea2 (ev_var rfl (((dv.gx g2).gx g3).gx g)) (ev_var rfl hv)) ⟨many, m, rfl, ?_⟩
        rw [hm]
        rfl)))) ?_) (fun hb => nomatch hb) fun _ H7 g7 => kn rfl _ H7 (gg.trans g7)
    rw [List.length_map, range_all (f := isLot many) (fun i x hx => by rw [hx]; rfl), hl]
    rfl
/-! ### need_post -/
structure BOk (p : Int × List (List Int)) (b : List (List Int)) : Prop where
  n : (b.length : Int) = p.1
  r : ∀ (i : Nat) (x : List Int), b[i]? = some x → rowOk p.2 i x = true
def rNeedB : List PyData → PyData → Prop := fun ds r => ∃ p b, BOk p b ∧ ds = [pD p, tD b] ∧ r = .none
abbrev sneed_post : Stmt := topS 19
theorem scneed_post : FnScope ["plan", "value", "messenger", "row"] ["plan", "value"] (defScope sneed_post) := ⟨rfl, rfl, rfl, by decide +kernel, rfl, by decide +kernel, by decide +kernel⟩
theorem ok_need_post (T : Tx K mg C) (B : Tbs K mg base) : CallOk P w K mg base CX0 5 "need_post" ["plan", "value"] (SpR K rNeedB) := by
  have cis_row := ok_is_row (P := P) (w := w) (base := base) T B
  refine (T.fn 6 _ _ rfl).okR (k := 4) (N := ["plan", "value", "messenger", "row"]) scneed_post (fun _ _ _ _ _ _ us hl => match us, hl with | [_, _], _ => rfl) (fun ds r h => ?_) fun A outer s H0 E hr => ⟨_, (pss_cons (ps_if (L2.PW.pt (pw_or (pt_not (pt_val (pe_callB (r := rIsi K) call_isi (by rfl) T.isi boot_isinstance (pa_cons (pv 1) (pa_cons (pe_bltn (v := .ty "tuple") (by rfl) T.tuple boot_tuple rfl) pa_nil))))) (pw_or1 (pt_cmpR op_ne (pe_callB (r := rLenSq K) call_len_seq (by rfl) T.len boot_len (pa_cons (pv 1) pa_nil)) (pe_ix (r := rIxT K) ix_tup (pv 0) pe_int (fun _ _ => rfl)) (nomark _))))) (pss_one ps_never) pss_nil)
  (pss_one (ps_for PassesOwn.never rfl (pi_enumT (by rfl) T.enum (pa_cons (pv 1) pa_nil)) (pg_tup rfl (pgs_cons (pg_name (i := 2) scneed_post.nd rfl (.inl rfl)) (pgs_cons (pg_name (i := 3) scneed_post.nd rfl (.inl rfl)) pgs_nil))) (pss_one (ps_if (pt_not (pt_val (pe_c cis_row (hr.mono (by decide)) pass0 (pa_cons (pv 0) (pa_cons (pv 2) (pa_cons (pv 3) pa_nil)))))) (pss_one ps_never) pss_nil))))), fun H ds r vs h a t D kr kn => ?_⟩
  · obtain ⟨p, b, _, rfl, _⟩ := h
    rfl
  · obtain ⟨⟨many, told⟩, b, hb, rfl, rfl⟩ := h
    obtain ⟨x, y, rfl, hx, hy⟩ := a.two
    have hn : (b.length : Int) = many := hb.n
    refine q_when (b := false) (et_is (et_or (et_not (et_B (ev_isi (ev_var rfl hy) rfl))) fun _ => et_test (ev_neI (ev_lenL (ds := b.map iD) (ev_var rfl hy) (.inr rfl)) (ev_ixT (d := .int many) (ev_var rfl hx) ev_int rfl))) (by rw [List.length_map, hn]; simp)) (fun hb => nomatch hb) fun _ H1 g1 => ?_
    refine s_for (n := (b.map iD).length) (srk_enumT (ds := b.map iD) (ev_var rfl (hy.gx g1))) fun H4 g4 => ⟨fun i σ' H' => Gx K H4 H' ∧ ∃ o o', σ' = [some x, some y, o, o'], ⟨.refl, none, none, rfl⟩, fun i σ' H' hi p => p.1.kt, fun i z σ' H' H'' hi p g5 it => ?_, fun σ' H' p => kn rfl _ H' (g1.trans (g4.trans p.1))⟩
    obtain ⟨g6, o, o', rfl⟩ := p
    obtain ⟨T', v, u, d, rfl, eT, hv, hd, hu⟩ := it
    obtain ⟨n, hn, rfl⟩ := map_get hd
    refine ⟨T', [v, u], rfl, SqT.of eT, rfl, v, [u], rfl, u, [], rfl, rfl, ?_⟩
    have gg := g1.trans (g4.trans (g6.trans g5))
    exact s_if (b := false) (et_is (et_not (et_B (ev_call (R := rRow) (d := .bool (rowOk told i n)) (gg.gt t) (ea3 (ev_var rfl (hx.gx gg)) (ev_var rfl (.inl hv)) (ev_var rfl (.inl hu))) ⟨_, i, n, rfl, rfl⟩))) (by rw [show rowOk told i n = true from hb.r i n hn]; rfl)) (fun hb => nomatch hb) fun _ H6 g7 => ⟨g6.trans (g5.trans g7), some v, some u, rfl⟩
end
end LP

/-! LpMath -/
set_option maxHeartbeats 4000000
/-! Mirrors of the readers in plain Lean; texts cut and joined. -/
namespace LP
open PySem PySem.Spec PyProof.Rows L2 RZ
open TL (tl spl joinL)
abbrev nl : Str := "\n"
abbrev spc : Str := " "
theorem tl_nl : tl nl = [10] := by decide +kernel
theorem tl_spc : tl spc = [32] := by decide +kernel
def numT (i : Int) : Str := Str.ofString (toString i)
/-! ### a figure -/
def figM (w : Str) (most : Int) : Option Int := match tl w with
  | [c] => if decide (c ∈ tl ("0123456789" : Str)) && decide (((c : Int) - 48) ≤ most) then some ((c : Int) - 48) else none
  | _ => none
def figD : Option Int → PyData
  | none => .none
  | some i => .int i
def numsM (ws : List Str) (most : Int) : Option (List Int) := ws.mapM (figM · most)
def numsD : Option (List Int) → PyData
  | none => .none
  | some ns => iD ns
theorem fig_range {w : Str} {most i : Int} (h : figM w most = some i) : 0 ≤ i ∧ i ≤ 9 ∧ i ≤ most := by
  unfold figM at h
  split at h
  · rename_i c _
    split at h
    · rename_i hc
      obtain ⟨h1, h2⟩ := Bool.and_eq_true_iff.mp hc
      have h1 := of_decide_eq_true h1
      have h2 := of_decide_eq_true h2
      have h3 : ∀ c ∈ tl ("0123456789" : Str), 48 ≤ c ∧ c ≤ 57 := by decide +kernel
      obtain ⟨h4, h5⟩ := h3 c h1
      injection h with h
      omega
    · cases h
  · cases h
theorem nums_cons (w : Str) (ws : List Str) (most : Int) : numsM (w :: ws) most = (figM w most).bind fun i => (numsM ws most).bind fun r => some (i :: r) := by
  unfold numsM
  rw [List.mapM_cons]
  rfl
theorem nums_range {most : Int} : ∀ {ws : List Str} {ns : List Int}, numsM ws most = some ns → ns.all (inR 0 9) = true ∧ ns.all (inR 0 most) = true ∧ ns.length = ws.length
  | [], ns, h => by
    cases h
    exact ⟨rfl, rfl, rfl⟩
  | w :: ws, ns, h => by
    rw [nums_cons] at h
    cases e : figM w most with
    | none =>
      rw [e] at h
      cases h
    | some i =>
      rw [e] at h
      cases e2 : numsM ws most with
      | none =>
        rw [e2] at h
        cases h
      | some r =>
        rw [e2] at h
        cases h
        obtain ⟨h1, h2, h3⟩ := fig_range e
        obtain ⟨a1, a2, a3⟩ := nums_range e2
        refine ⟨?_, ?_, by simp [a3]⟩
        · simp only [List.all_cons, a1, inR, Bool.and_true, Bool.and_eq_true, decide_eq_true_eq]
          exact ⟨h1, h2⟩
        · simp only [List.all_cons, a2, inR, Bool.and_true, Bool.and_eq_true, decide_eq_true_eq]
          exact ⟨h1, h3⟩
/-! ### lines -/
def linesM : PyData → Except Int (List Str)
  | .str t => match (tl t).getLast? with
    | none => .error 0
    | some c => if c = 10 then .ok (Txt.split ⟨(tl t).dropLast.toArray⟩ nl) else .error (Txt.count t nl)
  | _ => .error 0
/-- step by step -/
def loopM {α : Type} (f : Nat → α → Except Int α) : Nat → α → Except Int α
  | 0, a => .ok a
  | i + 1, a => match loopM f i a with
    | .error e => .error e
    | .ok b => f i b
theorem loopM_err {α : Type} {f : Nat → α → Except Int α} {a : α} {m : Int} {i : Nat} (h : loopM f i a = .error m) : ∀ n, i ≤ n → loopM f n a = .error m := fun n hn => by
  induction n with
  | zero =>
    have : i = 0 := by omega
    rw [this] at h
    exact h
  | succ n ih =>
    by_cases e : i = n + 1
    · rw [← e]
      exact h
    · show (match loopM f n a with
        | .error e => Except.error e
        | .ok b => f n b) = .error m
      rw [ih (by omega)]
def bindE {α β : Type} (r : Except Int α) (f : α → Except Int β) : Except Int β := match r with
  | .error e => .error e
  | .ok b => f b
def mapE {α β : Type} (r : Except Int α) (f : α → β) : Except Int β := match r with
  | .error e => .error e
  | .ok b => .ok (f b)
def wordsOf (l : Str) : List Str := Txt.split l spc
/-! ### questions -/
def stateM (ws : List Str) (at_ many : Nat) : Option (Int × List Int) :=
  if decide (ws.take 3 = [("state" : Str), numT at_, ("answer" : Str)]) && (decide (6 ≤ ws.length) && decide (ws.getD 4 "" = "to")) then
    (figM (ws.getD 3 "") 3).bind fun m => (numsM (ws.drop 5) (min many 8 - 1)).bind fun st => if st.length ≤ 5 then some (m, st) else none
  else none
abbrev Q2 : Type := List (List Int) × List Int
def stepQ (ls : List Str) (i : Nat) (a : Q2) : Except Int Q2 := match (if i < 8 then stateM (wordsOf (ls.getD i "")) i ls.length else none) with
  | none => .error i
  | some (m, s) => if a.1 ≠ [] ∧ s.length ≠ (a.1.headD []).length then .error i else .ok (a.1 ++ [s], a.2 ++ [m])
def rdQ (d : PyData) : Except Int Q2 := bindE (linesM d) fun ls => loopM (stepQ ls) ls.length ([], [])
/-! ### plans -/
def headM (l : Str) : Option Int := if decide ((wordsOf l).getD 0 "" = "messengers") && decide ((wordsOf l).length = 2) then (figM ((wordsOf l).getD 1 "") 7).bind fun k => if k = 0 then none else some k else none
def stepP (ls : List Str) (m : Int) (i : Nat) (told : List (List Int)) : Except Int (List (List Int)) :=
  match (if (wordsOf (ls.getD (i + 1) "")).take 3 = [("letter" : Str), numT i, ("to" : Str)] then numsM ((wordsOf (ls.getD (i + 1) "")).drop 3) (m - 1) else none) with
  | none => .error (i + 1 : Nat)
  | some lot => if decide (5 < i + 1) || !isLot m lot then .error (i + 1 : Nat) else .ok (told ++ [lot])
def rdP (d : PyData) : Except Int (Int × List (List Int)) := bindE (linesM d) fun ls => match headM (ls.headD "") with
  | none => .error 0
  | some m => bindE (loopM (stepP ls m) (ls.length - 1) []) fun told => if told = [] then .error 1 else .ok (m, told)
/-! ### what is brought -/
def stepB (p : Int × List (List Int)) (ls : List Str) (i : Nat) (acc : List (List Int)) : Except Int (List (List Int)) :=
  let ws := if i < ls.length then wordsOf (ls.getD i "") else []
  match (if ws.take 3 = [("messenger" : Str), numT i, ("brings" : Str)] then numsM (ws.drop 3) 4 else none) with
  | none => .error i
  | some row => if decide (p.1 ≤ i) || !rowOk p.2 i row then .error i else .ok (acc ++ [row])
def rdB (p : Int × List (List Int)) (d : PyData) : Except Int (List (List Int)) := bindE (linesM d) fun ls => loopM (stepB p ls) (max ls.length p.1.toNat) []
/-! ### equality of lists of texts, as data -/
theorem eqvAll_strs : ∀ xs ys : List Str, PyData.eqvAll (xs.map .str) (ys.map .str) = decide (xs = ys)
  | [], [] => by simp [PyData.eqvAll]
  | [], _ :: _ => by simp [PyData.eqvAll]
  | _ :: _, [] => by simp [PyData.eqvAll]
  | x :: xs, y :: ys => by
    have ih := eqvAll_strs xs ys
    rw [Bool.eq_iff_iff] at ih ⊢
    simp only [decide_eq_true_eq] at ih ⊢
    simp only [List.map_cons, PyData.eqvAll, PyData.eqv, Bool.and_eq_true, beq_iff_eq, List.cons.injEq, ih]
theorem eqv_strs (xs ys : List Str) : PyData.eqv (.list (xs.map .str)) (.list (ys.map .str)) = decide (xs = ys) := by
  rw [← eqvAll_strs xs ys, PyData.eqv]
/-- signs of a plain text -/
def asciiT (x : Str) : Bool := (tl x).all (· < 128)
theorem strOk_ascii {x : Str} (h : asciiT x = true) : PyData.strOk x = true := by
  unfold PyData.strOk
  rw [← Array.all_toList]
  exact List.all_eq_true.mpr fun c hc => decide_eq_true (Nat.lt_trans (of_decide_eq_true (List.all_eq_true.mp h c hc)) (by decide))
theorem canLay_strs : ∀ xs : List Str, xs.all asciiT = true → PyData.canLayAll0 (xs.map .str) = true
  | [], _ => rfl
  | x :: r, h => by
    obtain ⟨h1, h2⟩ := Bool.and_eq_true_iff.mp (show (asciiT x && r.all asciiT) = true from h)
    simp [PyData.canLayAll0, PyData.canLay0, canLay_strs r h2, strOk_ascii h1]
theorem depth_strs : ∀ xs : List Str, PyData.depthAll (xs.map .str) ≤ 1
  | [] => by simp [PyData.depthAll]
  | x :: r => by
    have := depth_strs r
    simp [PyData.depthAll, PyData.depth]
    try omega
theorem shaped_strs (xs : List Str) (h : xs.all asciiT = true) : SeqAt.shaped (.list (xs.map .str)) = true := by
  unfold SeqAt.shaped
  refine Bool.and_eq_true_iff.mpr ⟨by rw [PyData.canLay0]; exact canLay_strs xs h, decide_eq_true ?_⟩
  have := depth_strs xs
  rw [PyData.depth]
  omega
/-! ### lengths -/
theorem joinL_len (s : Nat) : ∀ ps : List (List Nat), (∀ p ∈ ps, p.length ≤ (joinL [s] ps).length) ∧ ps.length ≤ (joinL [s] ps).length + 1
  | [] => ⟨fun _ h => (List.not_mem_nil h).elim, by simp⟩
  | [p] => ⟨fun q hq => by
    rw [List.mem_singleton.mp hq]
    exact Nat.le_refl _, by simp⟩
  | p :: q :: r => by
    obtain ⟨h1, h2⟩ := joinL_len s (q :: r)
    have e : joinL [s] (p :: q :: r) = p ++ ([s] ++ joinL [s] (q :: r)) := rfl
    rw [e]
    refine ⟨fun z hz => ?_, ?_⟩
    · rcases List.mem_cons.mp hz with rfl | hz
      · simp
      · have := h1 z hz
        simp only [List.length_append]
        omega
    · simp only [List.length_append, List.length_cons] at h2 ⊢
      omega
theorem split_len {x y : Str} {s : Nat} (hy : tl y = [s]) : (∀ p ∈ Txt.split x y, p.length ≤ x.length) ∧ (Txt.split x y).length ≤ x.length + 1 := by
  have e := StrLaws.join_split x y
  have e2 : tl x = joinL [s] ((Txt.split x y).map tl) := by
    rw [← hy, ← TL.tl_join, e]
  obtain ⟨h1, h2⟩ := joinL_len s ((Txt.split x y).map tl)
  rw [← e2, ← TL.len_tl] at h1 h2
  refine ⟨fun p hp => ?_, by simpa using h2⟩
  rw [TL.len_tl]
  exact h1 _ (List.mem_map.mpr ⟨p, hp, rfl⟩)
theorem joinL_mem (s : Nat) : ∀ (ps : List (List Nat)) (p : List Nat) (c : Nat), p ∈ ps → c ∈ p → c ∈ joinL [s] ps
  | [p], q, c, h, hc => by
    rw [List.mem_singleton.mp h] at hc
    exact hc
  | p :: q :: r, z, c, h, hc => by
    have e : joinL [s] (p :: q :: r) = p ++ ([s] ++ joinL [s] (q :: r)) := rfl
    rw [e]
    rcases List.mem_cons.mp h with rfl | h
    · exact List.mem_append_left _ hc
    · exact List.mem_append_right _ (List.mem_append_right _ (joinL_mem s (q :: r) z c h hc))
theorem split_ascii {x y : Str} {s : Nat} (hy : tl y = [s]) (h : asciiT x = true) : (Txt.split x y).all asciiT = true := by
  have e := StrLaws.join_split x y
  have e2 : tl x = joinL [s] ((Txt.split x y).map tl) := by
    rw [← hy, ← TL.tl_join, e]
  refine List.all_eq_true.mpr fun p hp => List.all_eq_true.mpr fun c hc => ?_
  refine List.all_eq_true.mp h c ?_
  rw [e2]
  exact joinL_mem s _ (tl p) c (List.mem_map.mpr ⟨p, hp, rfl⟩) hc
/-- what the law's texts are -/
def tOk (d : PyData) : Prop := d = .none ∨ d = .int 3 ∨ ∃ t, d = .str t ∧ t.length ≤ 3000 ∧ asciiT t = true
def lsOk (ls : List Str) : Prop := ls.length ≤ 3001 ∧ ∀ l ∈ ls, l.length ≤ 3000 ∧ asciiT l = true
theorem lines_str {t : Str} : linesM (.str t) = (match (tl t).getLast? with
    | none => .error 0
    | some c => if c = 10 then .ok (Txt.split ⟨(tl t).dropLast.toArray⟩ nl) else .error (Txt.count t nl)) := rfl
theorem spl_ne (S : List Nat) : ∀ (k : Nat) (acc l : List Nat), spl S k acc l ≠ [] := fun k acc l => by
  induction l generalizing k acc with
  | nil =>
    rw [TL.spl_nil]
    simp
  | cons c r ih =>
    cases k with
    | zero =>
      unfold spl
      split
      · simp
      · exact ih _ _
    | succ k => exact ih _ _
theorem split_ne {x y : Str} {s : Nat} (hy : tl y = [s]) (hk : y.cps.all (· < 256) = true) : Txt.split x y ≠ [] := fun z => by
  have e3 := TL.split_spl x y (by rw [hy]; simp) (TL.kind_ok hk)
  rw [z] at e3
  exact spl_ne _ _ _ _ e3.symm
theorem lines_ok {d : PyData} {ls : List Str} (h : tOk d) (e : linesM d = .ok ls) : lsOk ls ∧ ls ≠ [] := by
  rcases h with rfl | rfl | ⟨t, rfl, ht, ha⟩
  · cases e
  · cases e
  · rw [lines_str] at e
    cases q : (tl t).getLast? with
    | none =>
      rw [q] at e
      cases e
    | some c =>
      rw [q] at e
      by_cases hc : c = 10
      · have e : (Except.ok (Txt.split ⟨(tl t).dropLast.toArray⟩ nl) : Except Int (List Str)) = Except.ok ls := by
          rw [← e]
          exact (if_pos hc).symm
        injection e with e
        obtain ⟨h1, h2⟩ := split_len (x := ⟨(tl t).dropLast.toArray⟩) tl_nl
        have hz : (⟨(tl t).dropLast.toArray⟩ : Str).length ≤ 3000 := by
          rw [TL.len_tl, TL.tl_mk, List.length_dropLast, ← TL.len_tl]
          omega
        have ha2 : asciiT (⟨(tl t).dropLast.toArray⟩ : Str) = true := List.all_eq_true.mpr fun c hc => List.all_eq_true.mp ha c (List.dropLast_subset _ hc)
        have h3 := split_ascii tl_nl ha2
        subst e
        exact ⟨⟨by omega, fun l hl => ⟨Nat.le_trans (h1 l hl) hz, List.all_eq_true.mp h3 l hl⟩⟩, split_ne tl_nl (by decide +kernel)⟩
      · have e : (Except.error (Txt.count t nl) : Except Int (List Str)) = Except.ok ls := by
          rw [← e]
          exact (if_neg hc).symm
        cases e
/-- the words of a line -/
def wsOk (ws : List Str) : Prop := ws.length ≤ 3001 ∧ ∀ x ∈ ws, x.length ≤ 3000 ∧ asciiT x = true
theorem words_ok {l : Str} (h : l.length ≤ 3000) (ha : asciiT l = true) : wsOk (wordsOf l) := by
  obtain ⟨h1, h2⟩ := split_len (x := l) tl_spc
  exact ⟨by unfold wordsOf; omega, fun x hx => ⟨Nat.le_trans (h1 x hx) h, List.all_eq_true.mp (split_ascii tl_spc ha) x hx⟩⟩
theorem wsOk.ascii {ws : List Str} (h : wsOk ws) : ws.all asciiT = true := List.all_eq_true.mpr fun x hx => (h.2 x hx).2
theorem wsOk.sub {ws us : List Str} (h : wsOk ws) (hz : us.length ≤ ws.length) (hs : ∀ x ∈ us, x ∈ ws) : wsOk us := ⟨Nat.le_trans hz h.1, fun x hx => h.2 x (hs x hx)⟩
theorem wsOk.drop {ws : List Str} (h : wsOk ws) (k : Nat) : wsOk (ws.drop k) := h.sub (by simp) fun x hx => List.mem_of_mem_drop hx
theorem wsOk.take {ws : List Str} (h : wsOk ws) (k : Nat) : wsOk (ws.take k) := h.sub (by simp; omega) fun x hx => List.mem_of_mem_take hx
end LP

/-! LpW3 -/
set_option maxHeartbeats 4000000
/-! Walks: figures, words, lines. -/
namespace LP
open PySem PySem.Spec PyProof.Rows L2 RZ
open TL (tl spl joinL)
theorem atI_last {α : Type} {xs : List α} {x : α} (h : xs.getLast? = some x) : atI xs (-1) = some x := by
  have hne : xs ≠ [] := fun z => by
    rw [z] at h
    cases h
  have hl : 0 < xs.length := List.length_pos_iff.mpr hne
  unfold atI ixN
  rw [if_neg (by decide), if_pos (by omega)]
  show xs[((-1 : Int) + xs.length).toNat]? = some x
  rw [show ((-1 : Int) + xs.length).toNat = xs.length - 1 by omega, ← List.getLast?_eq_getElem?]
  exact h
theorem cutS_but1 (z : Str) : cutS z none (some (-1)) = ⟨(tl z).dropLast.toArray⟩ := by
  unfold cutS
  rw [TL.len_tl]
  exact congrArg (fun l : List Nat => (⟨l.toArray⟩ : Str)) (cut_but1 (tl z))
theorem eq_sing {w : Str} {c : Nat} (h : tl w = [c]) : w = ⟨#[c]⟩ := TL.ext_tl h
/-! the list of what a test-free comprehension gives -/
theorem selD_map {α : Type} {xs : List α} {f : α → PyData} {val : Nat → PyData} (h : ∀ i x, xs[i]? = some x → val i = f x) : selD xs.length (fun _ => true) val = xs.map f := by
  unfold selD
  rw [List.filter_eq_self.mpr (fun _ _ => rfl)]
  apply List.ext_getElem?
  intro i
  rw [List.getElem?_map, List.getElem?_map]
  by_cases hi : i < xs.length
  · rw [List.getElem?_range hi, List.getElem?_eq_getElem hi]
    exact congrArg some (h i _ (List.getElem?_eq_getElem hi))
  · rw [List.getElem?_eq_none (by simpa using hi), List.getElem?_eq_none (by omega)]
    rfl
theorem figD_plain (o : Option Int) : plainD (figD o) = true := by cases o <;> rfl
theorem figs_flat (ws : List Str) (most : Int) : ((ws.map fun w => figD (figM w most)).all flatD) = true := by
  rw [List.all_map]
  exact List.all_eq_true.mpr fun w _ => by
    show flatD (figD (figM w most)) = true
    cases figM w most <;> rfl
theorem figs_none {most : Int} : ∀ ws : List Str, ((ws.map fun w => figD (figM w most)).any fun y => eqvD y .none) = (numsM ws most).isNone ∧ ∀ ns, numsM ws most = some ns → (ws.map fun w => figD (figM w most)) = ns.map PyData.int
  | [] => ⟨rfl, fun ns h => by
    cases h
    rfl⟩
  | w :: ws => by
    obtain ⟨h1, h2⟩ := figs_none (most := most) ws
    rw [List.map_cons, List.any_cons, nums_cons]
    cases e : figM w most with
    | none => exact ⟨rfl, fun ns h => by cases h⟩
    | some i =>
      show ((false || List.any _ _) = _) ∧ _
      rw [Bool.false_or, h1]
      cases e2 : numsM ws most with
      | none => exact ⟨rfl, fun ns h => by cases h⟩
      | some r => exact ⟨rfl, fun ns h => by
          cases h
          show PyData.int i :: _ = _
          rw [h2 r e2]
          rfl⟩
/-! texts of numbers -/
def wordsT (ns : List Int) : Str := Txt.join "" (ns.map fun n => spc ++ numT n)
theorem dig_cases {n : Int} (h : inR 0 9 n = true) : n = 0 ∨ n = 1 ∨ n = 2 ∨ n = 3 ∨ n = 4 ∨ n = 5 ∨ n = 6 ∨ n = 7 ∨ n = 8 ∨ n = 9 := by
  obtain ⟨h1, h2⟩ := Bool.and_eq_true_iff.mp h
  have := of_decide_eq_true h1
  have := of_decide_eq_true h2
  omega
theorem num_len {n : Int} (h : inR 0 9 n = true) : (numT n).length = 1 ∧ n.natAbs.log2 < 1920 := by
  rcases dig_cases h with rfl | rfl | rfl | rfl | rfl | rfl | rfl | rfl | rfl | rfl <;> exact ⟨by decide +kernel, by decide +kernel⟩
theorem sum_le {α : Type} {f : α → Nat} {k : Nat} : ∀ {xs : List α}, (∀ x ∈ xs, f x ≤ k) → (xs.map f).sum ≤ xs.length * k
  | [], _ => by simp
  | x :: r, h => by
    have h1 := h x List.mem_cons_self
    have h2 := sum_le (f := f) (k := k) (xs := r) fun y hy => h y (List.mem_cons_of_mem _ hy)
    simp only [List.map_cons, List.sum_cons, List.length_cons, Nat.add_mul]
    omega
section
variable {P : Program} {w : World} {K : Fg} {mg : Str → Option Value} {base : Heap} {C : Addr}
/-! ### figure_of -/
def rFig : List PyData → PyData → Prop := fun ds r => ∃ wd most, wd.length ≤ 3000 ∧ ds = [.str wd, .int most] ∧ r = figD (figM wd most)
theorem fig_int : ∀ c ∈ tl ("0123456789" : Str), PySem.intText? ⟨#[c]⟩ = some ((c : Int) - 48) := by decide +kernel
abbrev sfigure_of : Stmt := topS 23
theorem scfigure_of : FnScope ["word", "most"] ["word", "most"] (defScope sfigure_of) := ⟨rfl, rfl, rfl, by decide +kernel, rfl, by decide +kernel, by decide +kernel⟩
theorem ok_figure_of (T : Tx K mg C) : CallOk P w K mg base CX0 1 "figure_of" ["word", "most"] (SpR K rFig) := by
  refine (T.fn 8 _ _ rfl).okR (k := 0) (N := ["word", "most"]) scfigure_of (fun _ _ _ _ _ _ us hl => match us, hl with | [_, _], _ => rfl) (fun ds r h => ?_) fun A outer s H0 E hr => ⟨_, (pss_one (ps_ret (pe_ifExp (L2.PW.pt (pw_and (pt_cmpR op_eq (pe_callB call_len_str (by rfl) T.len boot_len (pa_cons (pv 0) pa_nil)) pe_int (nomark _)) (pw_and (pt_cmpR op_in_sign (pv 0) (pe_gs T.fig) (by with_unfolding_all rfl)) (pw_and1 (pt_cmpR op_le (pe_callTy call_int_str (by rfl) T.int boot_int (pa_cons (pv 0) pa_nil)) (pv 1) (nomark _)))))) (pe_callTy call_int_str (by rfl) T.int boot_int (pa_cons (pv 0) pa_nil)) pe_non))), fun H ds r vs h a t D kr kn => ?_⟩
  · obtain ⟨v, lo, _, rfl, _⟩ := h
    rfl
  · obtain ⟨wd, most, hl, rfl, rfl⟩ := h
    obtain ⟨x, y, rfl, hx, hy⟩ := a.two
    have hl2 : wd.length ≤ 200000 := by omega
    by_cases hc : ∃ c, tl wd = [c]
    · obtain ⟨c, hc⟩ := hc
      have ew := eq_sing hc
      subst ew
      refine s_ret (ev_if (b := decide (c ∈ tl ("0123456789" : Str)) && decide (((c : Int) - 48) ≤ most)) (et_is (et_and (et_test (ev_eqI (ev_lenS (ev_var rfl hx) hl2) ev_int)) fun _ => et_and (et_test (ev_inSign (ev_var rfl hx) ev_str)) fun hm => et_test (ev_le (ev_intS (ev_var rfl hx) (fig_int c (of_decide_eq_true hm)) (by show 1 ≤ 640; decide)) (ev_var rfl hy))) (by rfl)) (fun hb => ?_) fun hb => ?_) kr
      · obtain ⟨h1, h2⟩ := Bool.and_eq_true_iff.mp hb
        refine ev_is (ev_intS (ev_var rfl hx) (fig_int c (of_decide_eq_true h1)) (by show 1 ≤ 640; decide)) ?_
        show PyData.int _ = figD (if _ then _ else none)
        rw [hb]
        rfl
      · refine ev_is ev_non ?_
        show PyData.none = figD (if _ then _ else none)
        rw [hb]
        rfl
    · have hz : ((wd.length : Nat) : Int) ≠ 1 := fun z => hc (by
        have : (tl wd).length = 1 := by
          rw [← TL.len_tl]
          omega
        exact List.length_eq_one_iff.mp this)
      have e : figM wd most = none := by
        unfold figM
        split
        · rename_i c q
          exact absurd ⟨c, q⟩ hc
        · rfl
      rw [e] at kr
      refine s_ret (ev_if (b := false) (et_is (et_and (b := false) (et_test (ev_eqI (ev_lenS (ev_var rfl hx) hl2) ev_int)) fun hb => absurd (of_decide_eq_true hb) hz) (by simp)) (fun hb => nomatch hb) fun _ => ev_non) kr
/-! ### numbers_of -/
def rNums : List PyData → PyData → Prop := fun ds r => ∃ ws most, wsOk ws ∧ ds = [.list (ws.map .str), .int most] ∧ r = numsD (numsM ws most)
abbrev snumbers_of : Stmt := topS 24
theorem scnumbers_of : FnScope ["words", "most", "found", "word"] ["words", "most"] (defScope snumbers_of) := ⟨rfl, rfl, rfl, by decide +kernel, rfl, by decide +kernel, by decide +kernel⟩
theorem ok_numbers_of (T : Tx K mg C) : CallOk P w K mg base CX0 2 "numbers_of" ["words", "most"] (SpR K rNums) := by
  have cfigure_of := ok_figure_of (P := P) (w := w) (base := base) T
  refine (T.fn 9 _ _ rfl).okR (k := 1) (N := ["words", "most", "found", "word"]) scnumbers_of (fun _ _ _ _ _ _ us hl => match us, hl with | [_, _], _ => rfl) (fun ds r h => ?_) fun A outer s H0 E hr => ⟨_, (pss_cons (ps_set (i := 2) scnumbers_of.nd rfl (.inl rfl) (pe_callTy (r := rTupOf K) call_tuple_of (by rfl) T.tuple boot_tuple (pa_cons (pe_lc (own := [("word", 3)]) rfl scnumbers_of.nd (pi_list (pv 0)) (blkOk_by (N := ["words", "most", "found", "word"]) (sc := defScope snumbers_of) (by decide +kernel)) (fun _ _ _ _ _ => (pg_name (i := 3) scnumbers_of.nd rfl (.inl rfl))) (fun _ _ _ _ _ => pts_nil) (fun _ _ _ _ _ => (pe_c cfigure_of (hr.mono (by decide)) pass0 (pa_cons (pv 3) (pa_cons (pv 1) pa_nil))))) pa_nil)))
  (pss_one (ps_ret (pe_ifExp (pt_cmpR (r := rIn K false) op_in_seq pe_non (pv 2) (by with_unfolding_all rfl)) pe_non (pv 2))))), fun H ds r vs h a t D kr kn => ?_⟩
  · obtain ⟨v, lo, _, rfl, _⟩ := h
    rfl
  · obtain ⟨ws, most, hw, rfl, rfl⟩ := h
    obtain ⟨x, y, rfl, hx, hy⟩ := a.two
    have hz : (ws.map PyData.str).length ≤ 100000 := by
      have := hw.1
      rw [List.length_map]
      omega
    refine q_asg (d := .tuple (ws.map fun w => figD (figM w most))) (ev_tupleL (ev_is (En.ev (en_lc (keep := fun _ => true) (val := fun i => (ws[i]?.map fun w => figD (figM w most)).getD .none) (src_list (ds := ws.map PyData.str) (ev_var rfl hx)) (turn_name (fun _ => rfl) (fun _ _ _ _ _ _ => et_yes) fun i z H' hi g it _ => ?_) (fun i hi _ => ?_) hz)) ?_)) fun v H1 g1 hv => ?_
    · obtain ⟨d, hd, hz⟩ := it
      obtain ⟨u, hu, rfl⟩ := map_get hd
      refine ev_call (R := rFig) (g.gt t) (ea2 (ev_var rfl hz) (ev_var rfl (hy.gx g))) ⟨u, most, (hw.2 u (List.mem_of_getElem? hu)).1, rfl, ?_⟩
      rw [hu]
      rfl
    · cases ws[i]? with
      | none => rfl
      | some u => exact figD_plain _
    · rw [List.length_map, selD_map (f := fun w => figD (figM w most)) fun i x hx => by rw [hx]; rfl]
    obtain ⟨h1, h2⟩ := figs_none (most := most) ws
    refine s_ret (ev_if (b := (numsM ws most).isNone) (et_is (et_test (ev_in (neg := false) ev_non (ev_var rfl hv) (.inr rfl) rfl (figs_flat ws most))) h1) (fun hb => ?_) fun hb => ?_) fun v H2 g2 hv => kr v H2 (g1.trans g2) hv
    · rw [Option.isNone_iff_eq_none.mp hb]
      exact ev_non
    · cases e : numsM ws most with
      | none =>
        rw [e] at hb
        cases hb
      | some ns =>
        rw [h2 ns e] at hv
        exact ev_var rfl hv
/-! ### words_of -/
def rWords : List PyData → PyData → Prop := fun ds r => ∃ ns, ns.all (inR 0 9) = true ∧ ns.length ≤ 1000 ∧ ds = [iD ns] ∧ r = .str (wordsT ns)
theorem words_sum {ns : List Int} (h : ns.all (inR 0 9) = true) (hl : ns.length ≤ 1000) : (((ns.map fun n => spc ++ numT n)).map (·.length)).sum + (ns.map fun n => spc ++ numT n).length * ("" : Str).length ≤ 200000 := by
  have h1 : ((ns.map fun n => spc ++ numT n).map (·.length)).sum ≤ ns.length * 2 := by
    rw [List.map_map]
    refine sum_le fun n hn => ?_
    have h3 := (num_len (List.all_eq_true.mp h n hn)).1
    show (spc ++ numT n).length ≤ 2
    rw [TL.len_tl, TL.tl_append, List.length_append, ← TL.len_tl, ← TL.len_tl, h3]
    decide +kernel
  have h2 : ("" : Str).length = 0 := rfl
  rw [h2]
  omega
abbrev swords_of : Stmt := topS 25
theorem scwords_of : FnScope ["numbers", "number"] ["numbers"] (defScope swords_of) := ⟨rfl, rfl, rfl, by decide +kernel, rfl, by decide +kernel, by decide +kernel⟩
theorem ok_words_of (T : Tx K mg C) : CallOk P w K mg base CX0 1 "words_of" ["numbers"] (SpR K rWords) := by
  refine (T.fn 10 _ _ rfl).okR (k := 0) (N := ["numbers", "number"]) scwords_of (fun _ _ _ _ _ _ us hl => match us, hl with | [_], _ => rfl) (fun ds r h => ?_) fun A outer s H0 E hr => ⟨_, (pss_one (ps_ret (pe_join pe_str (pe_lc (own := [("number", 1)]) rfl scwords_of.nd (pi_tup (pv 0)) (blkOk_by (N := ["numbers", "number"]) (sc := defScope swords_of) (by decide +kernel)) (fun _ _ _ _ _ => (pg_name (i := 1) scwords_of.nd rfl (.inl rfl))) (fun _ _ _ _ _ => pts_nil) (fun _ _ _ _ _ => (pe_op op_add_str pe_str (pe_callTy call_str_int (by rfl) T.str boot_str (pa_cons (pv 1) pa_nil)))))))), fun H ds r vs h a t D kr kn => ?_⟩
  · obtain ⟨v, _, _, rfl, _⟩ := h
    rfl
  · obtain ⟨ns, h9, hl, rfl, rfl⟩ := h
    obtain ⟨x, rfl, hx⟩ := a.one
    refine s_ret (ev_join (ws := ns.map fun n => spc ++ numT n) ev_str (ev_is (En.ev (en_lc (keep := fun _ => true) (val := fun i => (ns[i]?.map fun n => PyData.str (spc ++ numT n)).getD .none) (src_tup (ds := ns.map PyData.int) (ev_var rfl hx)) (turn_name (fun _ => rfl) (fun _ _ _ _ _ _ => et_yes) fun i z H' hi g it _ => ?_) (fun i hi _ => ?_) (by rw [List.length_map]; omega))) ?_) (words_sum h9 hl)) kr
    · obtain ⟨d, hd, hz⟩ := it
      obtain ⟨u, hu, rfl⟩ := map_get hd
      have h3 := num_len (List.all_eq_true.mp h9 u (List.mem_of_getElem? hu))
      refine ev_is (ev_addS (b := numT u) ev_str (ev_strI (ev_var rfl hz) h3.2) (by rw [h3.1]; decide +kernel)) ?_
      rw [hu]
      rfl
    · cases ns[i]? with
      | none => rfl
      | some u => rfl
    · rw [List.length_map, selD_map (f := fun n => PyData.str (spc ++ numT n)) fun i x hx => by rw [hx]; rfl, List.map_map]
      rfl
abbrev slaw_words : Stmt := topS 41
theorem sclaw_words : FnScope ["_law_numbers", "_law_number"] ["_law_numbers"] (defScope slaw_words) := ⟨rfl, rfl, rfl, by decide +kernel, rfl, by decide +kernel, by decide +kernel⟩
theorem ok_law_words (T : Tx K mg C) : CallOk P w K mg base CX0 1 "_law_words" ["_law_numbers"] (SpR K rWords) := by
  refine (T.fn 25 _ _ rfl).okR (k := 0) (N := ["_law_numbers", "_law_number"]) sclaw_words (fun _ _ _ _ _ _ us hl => match us, hl with | [_], _ => rfl) (fun ds r h => ?_) fun A outer s H0 E hr => ⟨_, (pss_one (ps_ret (pe_join pe_str (pe_lc (own := [("_law_number", 1)]) rfl sclaw_words.nd (pi_tup (pv 0)) (blkOk_by (N := ["_law_numbers", "_law_number"]) (sc := defScope slaw_words) (by decide +kernel)) (fun _ _ _ _ _ => (pg_name (i := 1) sclaw_words.nd rfl (.inl rfl))) (fun _ _ _ _ _ => pts_nil) (fun _ _ _ _ _ => (pe_op op_add_str pe_str (pe_callTy call_str_int (by rfl) T.str boot_str (pa_cons (pv 1) pa_nil)))))))), fun H ds r vs h a t D kr kn => ?_⟩
  · obtain ⟨v, _, _, rfl, _⟩ := h
    rfl
  · obtain ⟨ns, h9, hl, rfl, rfl⟩ := h
    obtain ⟨x, rfl, hx⟩ := a.one
    refine s_ret (ev_join (ws := ns.map fun n => spc ++ numT n) ev_str (ev_is (En.ev (en_lc (keep := fun _ => true) (val := fun i => (ns[i]?.map fun n => PyData.str (spc ++ numT n)).getD .none) (src_tup (ds := ns.map PyData.int) (ev_var rfl hx)) (turn_name (fun _ => rfl) (fun _ _ _ _ _ _ => et_yes) fun i z H' hi g it _ => ?_) (fun i hi _ => ?_) (by rw [List.length_map]; omega))) ?_) (words_sum h9 hl)) kr
    · obtain ⟨d, hd, hz⟩ := it
      obtain ⟨u, hu, rfl⟩ := map_get hd
      have h3 := num_len (List.all_eq_true.mp h9 u (List.mem_of_getElem? hu))
      refine ev_is (ev_addS (b := numT u) ev_str (ev_strI (ev_var rfl hz) h3.2) (by rw [h3.1]; decide +kernel)) ?_
      rw [hu]
      rfl
    · cases ns[i]? with
      | none => rfl
      | some u => rfl
    · rw [List.length_map, selD_map (f := fun n => PyData.str (spc ++ numT n)) fun i x hx => by rw [hx]; rfl, List.map_map]
      rfl
end
end LP

/-! LpW4 -/
set_option maxHeartbeats 4000000
/-! Walks: the law's figures, lines. -/
namespace LP
open PySem PySem.Spec PyProof.Rows L2 RZ
open TL (tl spl joinL)
section
variable {K : Fg} {σ : L2.St} {H H1 H' : Hp} {te : TE} {d e : PyData} {D : Ends}
/-- for over the list in a slot -/
theorem s_forLv {tb : TS} {i0 j : Nat} {a : Addr} {xs : List V} {ds : List PyData} (hv : σ[i0]? = some (some (.ref a))) (ha : H a = some (.lst xs)) (hn : xs.length = ds.length) (Pv : Nat → L2.St → Hp → Prop) (p0 : Pv 0 σ H)
    (pk : ∀ i σ' H', i ≤ ds.length → Pv i σ' H' → H' a = some (.lst xs) ∧ TvAll H' xs ds)
    (pt : ∀ i d x σ' H', ds[i]? = some d → Tv H' x d → Pv i σ' H' → tb { D with nx := Pv (i + 1), ct := Pv (i + 1), bk := D.nx } (σ'.set j (some x)) H') (pd : ∀ σ' H', Pv ds.length σ' H' → D.nx σ' H') :
    tFor (iList K (tVar i0)) (gName j) tb D σ H := by
  refine ⟨.ref a, hv, a, rfl, ⟨xs, SqL.of ha⟩, ?_⟩
  refine for_list (K := K) (a := a) (xs := xs) Pv p0 (fun i σ' H' hi p => SqL.of (pk i σ' H' (by rw [← hn]; exact hi) p).1) (fun i x σ' H' hx p => ?_) (by rw [hn]; exact pd)
  have hi : i < xs.length := (List.getElem?_eq_some_iff.mp hx).1
  obtain ⟨d, h1, h2⟩ := (pk i σ' H' (by rw [← hn]; omega) p).2.getV hx
  exact pt i d x σ' H' h1 h2 p
/-- for i, x in enumerate(the list in a slot) -/
theorem s_forELv {tb : TS} {i0 j l : Nat} {a : Addr} {xs : List V} {ds : List PyData} (hv : σ[i0]? = some (some (.ref a))) (ha : H a = some (.lst xs)) (hn : xs.length = ds.length) (Pv : Nat → L2.St → Hp → Prop) (p0 : Pv 0 σ H)
    (pk : ∀ i σ' H', i ≤ ds.length → Pv i σ' H' → H' a = some (.lst xs) ∧ TvAll H' xs ds)
    (pt : ∀ i d x σ' H' H'', ds[i]? = some d → Tv H'' x d → Pv i σ' H' → Gx K H' H'' → tb { D with nx := Pv (i + 1), ct := Pv (i + 1), bk := D.nx } ((σ'.set j (some (.int (i : Nat)))).set l (some x)) H'') (pd : ∀ σ' H', Pv ds.length σ' H' → D.nx σ' H') :
    tFor (iEnum K (tCons (tVar i0) tNil)) (gTup K 2 (gCons (gName j) (gCons (gName l) gNil))) tb D σ H := by
  refine ⟨.ref a, hv, a, xs, rfl, SqL.of ha, ?_⟩
  refine for_it (walk_enum (K := K) (a := a) (xs := xs)) Pv p0 (fun i σ' H' hi p => SqL.of (pk i σ' H' (by rw [← hn]; exact hi) p).1) (fun i x σ' H' H'' hi p y => ?_) (by rw [hn]; exact pd)
  obtain ⟨T, v, w, rfl, nT, rfl, h1, h2⟩ := y
  cases h1
  obtain ⟨d, h3, h4⟩ := (pk i σ' H' (by rw [← hn]; omega) p).2.getV h2
  refine ⟨T, [_, w], rfl, SqT.of upd_same, rfl, _, [w], rfl, w, [], rfl, rfl, ?_⟩
  exact pt i d w σ' H' _ h3 (h4.kt (.new nT)) p (.new nT)
/-- a number is appended -/
theorem s_appI {i : Nat} {l : Addr} {xs : List V} {ds : List PyData} {H0 : Hp} (g0 : Gx K H0 H) (n0 : H0 l = none) (hl : H l = some (.lst xs)) (ht : TvAll H xs ds) (hv : σ[i]? = some (some (.ref l))) (h : Ev K te σ H d) (hp : plainD d = true) (hz : ds.length ≤ 200000)
    (k : ∀ v H1, Gx K H0 H1 → H1 l = some (.lst (xs ++ [v])) → TvAll H1 (xs ++ [v]) (ds ++ [d]) → D.nx σ H1) : tDrop (tBM K "list" rAppend (tVar i) (tCons te tNil)) D σ H :=
  ⟨.ref l, hv, .inl ⟨rfl, xs, SqL.of hl⟩, ea1 h H .refl _ fun vs H1 g1 hvs => by
    obtain ⟨v, rfl, hv⟩ := hvs.one
    have e := g1.lst hl
    exact ⟨l, xs, v, rfl, rfl, e, szl (by rw [ht.length]; exact hz), k v _ ((g0.trans g1).mut n0 e) upd_same (((ht.kt g1.kt).kt (.mut e)).app (.cons ((hv.tv hp).kt (.mut e)) .nil))⟩⟩
end
/-! the digits as texts -/
def digs : List Str := ["0", "1", "2", "3", "4", "5", "6", "7", "8", "9"]
theorem any_str (m : Str) (xs : List Str) : ((xs.map PyData.str).any fun y => eqvD y (.str m)) = decide (m ∈ xs) := by
  rw [Bool.eq_iff_iff, List.any_eq_true, decide_eq_true_iff]
  constructor
  · rintro ⟨d, hd, e⟩
    obtain ⟨x, hx, rfl⟩ := List.mem_map.mp hd
    have e2 : x = m := beq_iff_eq.mp (show (x == m) = true from e)
    exact e2 ▸ hx
  · intro h
    exact ⟨.str m, List.mem_map.mpr ⟨m, h, rfl⟩, beq_iff_eq.mpr rfl⟩
theorem strs_flat (xs : List Str) : (xs.map PyData.str).all flatD = true := by
  rw [List.all_map]
  exact List.all_eq_true.mpr fun _ _ => rfl
theorem digs_sing : ∀ w ∈ digs, ∃ c ∈ tl ("0123456789" : Str), w = ⟨#[c]⟩ := by
  have h : ∀ w ∈ digs, (tl ("0123456789" : Str)).any (fun c => decide (w = ⟨#[c]⟩)) = true := by decide +kernel
  intro w hw
  obtain ⟨c, h1, h2⟩ := List.any_eq_true.mp (h w hw)
  exact ⟨c, h1, of_decide_eq_true h2⟩
theorem sing_digs : ∀ c ∈ tl ("0123456789" : Str), (⟨#[c]⟩ : Str) ∈ digs := by decide +kernel
theorem fig_out {w : Str} {most : Int} (h : w ∉ digs) : figM w most = none := by
  unfold figM
  split
  · rename_i c hc
    split
    · rename_i q
      have e := eq_sing hc
      exact absurd (e ▸ sing_digs c (of_decide_eq_true (Bool.and_eq_true_iff.mp q).1)) h
    · rfl
  · rfl
theorem fig_sing {c : Nat} {most : Int} (h : c ∈ tl ("0123456789" : Str)) : figM ⟨#[c]⟩ most = if (c : Int) - 48 ≤ most then some ((c : Int) - 48) else none := by
  show (if decide (c ∈ tl ("0123456789" : Str)) && decide (((c : Int) - 48) ≤ most) then some ((c : Int) - 48) else none) = _
  rw [decide_eq_true h, Bool.true_and]
  by_cases q : (c : Int) - 48 ≤ most
  · rw [if_pos q, decide_eq_true q]
    rfl
  · rw [if_neg q, decide_eq_false q]
    rfl
theorem nums_app {most : Int} : ∀ (a b : List Str), numsM (a ++ b) most = (numsM a most).bind fun x => (numsM b most).bind fun y => some (x ++ y)
  | [], b => by
    show numsM b most = (some []).bind fun x => (numsM b most).bind fun y => some (x ++ y)
    cases e : numsM b most <;> simp
  | w :: r, b => by
    rw [List.cons_append, nums_cons, nums_cons, nums_app r b]
    cases figM w most with
    | none => rfl
    | some i =>
      cases numsM r most with
      | none => rfl
      | some x => cases numsM b most <;> rfl
theorem take_snoc {α : Type} {xs : List α} {i : Nat} {x : α} (h : xs[i]? = some x) : xs.take (i + 1) = xs.take i ++ [x] := by
  rw [List.take_succ, h]
  rfl
theorem nums_stop {ws : List Str} {most : Int} {i : Nat} {w : Str} (hw : ws[i]? = some w) (h : figM w most = none) : numsM ws most = none := by
  rw [← List.take_append_drop (i + 1) ws, nums_app, take_snoc hw, nums_app, nums_cons, h]
  cases numsM (ws.take i) most <;> rfl
theorem nums_step {ws : List Str} {most i : Int} {j : Nat} {w : Str} {ns : List Int} (hw : ws[j]? = some w) (h : figM w most = some i) (hn : numsM (ws.take j) most = some ns) : numsM (ws.take (j + 1)) most = some (ns ++ [i]) := by
  rw [take_snoc hw, nums_app, hn, nums_cons, h]
  rfl
section
variable {P : Program} {w : World} {K : Fg} {mg : Str → Option Value} {base : Heap} {C : Addr}
abbrev slaw_figures : Stmt := topS 42
theorem sclaw_figures : FnScope ["_law_words_here", "_law_most", "_law_found", "_law_word"] ["_law_words_here", "_law_most"] (defScope slaw_figures) := ⟨rfl, rfl, rfl, by decide +kernel, rfl, by decide +kernel, by decide +kernel⟩
theorem ok_law_figures (T : Tx K mg C) : CallOk P w K mg base CX0 1 "_law_figures" ["_law_words_here", "_law_most"] (SpR K rNums) := by
  refine (T.fn 26 _ _ rfl).okR (k := 0) (N := ["_law_words_here", "_law_most", "_law_found", "_law_word"]) sclaw_figures (fun _ _ _ _ _ _ us hl => match us, hl with | [_, _], _ => rfl) (fun ds r h => ?_) fun A outer s H0 E hr => ⟨_, (pss_cons (ps_set (i := 2) sclaw_figures.nd rfl (.inl rfl) (pe_lst pa_nil))
  (pss_cons (ps_for PassesOwn.never rfl (pi_list (pv 0)) (pg_name (i := 3) sclaw_figures.nd rfl (.inl rfl)) (pss_cons (ps_if (L2.PW.pt (pw_or (pt_cmpR (r := rIn K true) op_notIn_seq (pv 3) (pe_lst (pa_cons pe_str (pa_cons pe_str (pa_cons pe_str (pa_cons pe_str (pa_cons pe_str (pa_cons pe_str (pa_cons pe_str (pa_cons pe_str (pa_cons pe_str (pa_cons pe_str pa_nil))))))))))) (by with_unfolding_all rfl)) (pw_or1 (pt_cmpR op_gt (pe_callTy call_int_str (by rfl) T.int boot_int (pa_cons (pv 3) pa_nil)) (pv 1) (nomark _))))) (pss_one (ps_ret pe_non)) pss_nil)
  (pss_one (ps_expr (pe_bm PySem.F.plainAttrs_list PySem.F.slot_list_append PySem.F.type_list_append mt_append (pv 2) (pa_cons (pe_callTy call_int_str (by rfl) T.int boot_int (pa_cons (pv 3) pa_nil)) pa_nil))))))
  (pss_one (ps_ret (pe_callTy (r := rTupOf K) call_tuple_of (by rfl) T.tuple boot_tuple (pa_cons (pv 2) pa_nil)))))), fun H ds r vs h a t D kr kn => ?_⟩
  · obtain ⟨v, _, _, rfl, _⟩ := h
    rfl
  · obtain ⟨ws, most, hw, rfl, rfl⟩ := h
    obtain ⟨x, y, rfl, hx, hy⟩ := a.two
    obtain ⟨ax, xs, rfl, e1, e2⟩ := hx.list
    refine q_asgN (K := K) (ds := []) (en_lst ea_nil rfl (by decide)) fun l us H1 g1 nl el tl' => ?_
    cases tl'
    refine s_forLv (i0 := 0) (a := ax) rfl (g1.lst e1) e2.length (fun i σ' H' => ∃ ns o vs, numsM (ws.take i) most = some ns ∧ σ' = [some (.ref ax), some y, some (.ref l), o] ∧ Gx K H H' ∧ H' l = some (.lst vs) ∧ TvAll H' vs (ns.map .int))
      ⟨[], none, [], rfl, rfl, g1, el, .nil⟩ (fun i σ' H' hi ⟨ns, o, vs, _, _, g, h1, _⟩ => ⟨g.lst e1, e2.kt g.kt⟩) (fun i d x σ' H' hd hx ⟨ns, o, vs, h1, h2, g, h3, h4⟩ => ?_) (fun σ' H' ⟨ns, o, vs, h1, h2, g, h3, h4⟩ => ?_)
    · subst h2
      obtain ⟨wd, hwd, rfl⟩ := map_get hd
      have hx' : Dv H' x (.str wd) := .inl hx
      have hlen := (hw.2 wd (List.mem_of_getElem? hwd)).1
      refine q_when (b := (figM wd most).isNone) (et_is (b := (figM wd most).isNone) (et_or (b := (figM wd most).isNone) (et_test (ev_in (neg := true) (ds := digs.map PyData.str) (ev_var rfl hx') (En.ev (en_lst (ea_cons ev_str (ea_cons ev_str (ea_cons ev_str (ea_cons ev_str (ea_cons ev_str (ea_cons ev_str (ea_cons ev_str (ea_cons ev_str (ea_cons ev_str (ea_cons ev_str ea_nil)))))))))) rfl (by decide))) (.inl rfl) rfl (strs_flat _))) fun hb => ?_) ?_) (fun hb H1 g1 => ?_) fun hb H1 g1 => ?_
      · rw [any_str] at hb
        obtain ⟨c, hc, rfl⟩ := digs_sing wd (by simpa using hb)
        refine et_is (et_test (ev_gt (ev_intS (ev_var rfl hx') (fig_int c hc) (by show 1 ≤ 640; decide)) (ev_var rfl (hy.gx g)))) ?_
        rw [fig_sing hc]
        by_cases q : (c : Int) - 48 ≤ most
        · rw [if_pos q, decide_eq_false (by omega)]
          rfl
        · rw [if_neg q, decide_eq_true (by omega)]
          rfl
      · rw [any_str]
        by_cases q : wd ∈ digs
        · simp [q]
        · simp [q, fig_out q]
      · have e : numsM ws most = none := nums_stop hwd (Option.isNone_iff_eq_none.mp hb)
        refine s_ret (ev_is ev_non (by rw [e]; rfl)) fun v H2 g2 hv => kr v H2 (g.trans (g1.trans g2)) hv
      · cases ef : figM wd most with
        | none =>
          rw [ef] at hb
          cases hb
        | some f =>
          have hin : wd ∈ digs := by
            by_cases q : wd ∈ digs
            · exact q
            · rw [fig_out q] at ef
              cases ef
          obtain ⟨c, hc, rfl⟩ := digs_sing wd hin
          have ef2 : (c : Int) - 48 = f := by
            rw [fig_sing hc] at ef
            split at ef
            · exact Option.some.inj ef
            · cases ef
          have hns : (ns.map PyData.int).length ≤ 200000 := by
            have := (nums_range h1).2.2
            have := hw.1
            rw [List.length_map]
            rw [List.length_take] at *
            omega
          refine s_appI (i := 2) (l := l) (g.trans g1) nl (g1.lst h3) (h4.kt g1.kt) rfl (ev_intS (n := f) (ev_var rfl (hx'.gx g1)) (by rw [fig_int c hc, ef2]) (by show 1 ≤ 640; decide)) rfl hns fun v H2 g2 hl2 ht2 => ?_
          exact ⟨ns ++ [f], some x, _, nums_step hwd ef h1, rfl, g2, hl2, by rw [List.map_append]; exact ht2⟩
    · subst h2
      rw [List.length_map, List.take_length] at h1
      refine s_ret (ev_is (ev_tupleL (ev_var (v := .ref l) rfl (.ofL h3 h4))) (by rw [h1]; rfl)) fun v H2 g2 hv => kr v H2 (g.trans g2) hv
end
end LP

/-! LpW5 -/
set_option maxHeartbeats 4000000
/-! Walks: lines, a state's words. -/
namespace LP
open PySem PySem.Spec PyProof.Rows L2 RZ
open TL (tl spl joinL)
/-! lines by splitting the whole text -/
theorem pre_nl (c : Nat) (r : List Nat) : TL.pre [10] (c :: r) = decide (c = 10) := by
  by_cases h : c = 10
  · rw [h]
    rfl
  · unfold TL.pre
    rw [decide_eq_false h]
    simp [h]
theorem spl_c10 (acc r : List Nat) : spl [10] 0 acc (10 :: r) = acc :: spl [10] 0 [] r := TL.spl_hit (pre_nl 10 r)
theorem spl_cne {c : Nat} (h : c ≠ 10) (acc r : List Nat) : spl [10] 0 acc (c :: r) = spl [10] 0 (acc ++ [c]) r := TL.spl_miss (by rw [pre_nl, decide_eq_false h])
theorem spl_end : ∀ (l acc : List Nat), spl [10] 0 acc (l ++ [10]) = spl [10] 0 acc l ++ [[]]
  | [], acc => by
    show spl [10] 0 acc (10 :: []) = spl [10] 0 acc [] ++ [[]]
    rw [spl_c10, TL.spl_nil, TL.spl_nil]
    rfl
  | c :: r, acc => by
    by_cases h : c = 10
    · subst h
      rw [List.cons_append, spl_c10, spl_c10, spl_end r []]
      rfl
    · rw [List.cons_append, spl_cne h, spl_cne h, spl_end r]
theorem spl_last_ne {c : Nat} (hc : c ≠ 10) : ∀ (l acc : List Nat), ∃ p, (spl [10] 0 acc (l ++ [c])).getLast? = some p ∧ p ≠ []
  | [], acc => by
    refine ⟨acc ++ [c], ?_, by simp⟩
    show (spl [10] 0 acc (c :: [])).getLast? = _
    rw [spl_cne hc, TL.spl_nil]
    rfl
  | d :: r, acc => by
    by_cases h : d = 10
    · subst h
      obtain ⟨p, h1, h2⟩ := spl_last_ne hc r []
      refine ⟨p, ?_, h2⟩
      rw [List.cons_append, spl_c10, List.getLast?_cons, h1]
      rfl
    · obtain ⟨p, h1, h2⟩ := spl_last_ne hc r (acc ++ [d])
      exact ⟨p, by rw [List.cons_append, spl_cne h]; exact h1, h2⟩
theorem spl_count : ∀ (l acc : List Nat), ((spl [10] 0 acc l).length : Int) = cnt 10 l + 1
  | [], acc => by
    rw [TL.spl_nil]
    rfl
  | c :: r, acc => by
    rw [cnt_cons]
    by_cases h : c = 10
    · subst h
      rw [spl_c10, List.length_cons, if_pos rfl]
      have := spl_count r []
      push_cast
      omega
    · rw [spl_cne h, if_neg h, spl_count r]
      omega
theorem split_tl (x : Str) : (Txt.split x nl).map tl = spl [10] 0 [] (tl x) := by
  have := TL.split_spl x nl (by rw [tl_nl]; simp) (TL.kind_ok (by decide +kernel))
  rw [tl_nl] at this
  exact this
theorem split_end {t : Str} (h : (tl t).getLast? = some 10) : Txt.split t nl = Txt.split ⟨(tl t).dropLast.toArray⟩ nl ++ [("" : Str)] := by
  refine TL.map_tl_inj ?_
  rw [List.map_append, split_tl, split_tl, TL.tl_mk]
  have hne : tl t ≠ [] := fun z => by
    rw [z] at h
    cases h
  have e : tl t = (tl t).dropLast ++ [10] := by
    have h1 := List.dropLast_concat_getLast hne
    have h2 : (tl t).getLast hne = 10 := by
      rw [List.getLast?_eq_some_getLast hne] at h
      exact Option.some.inj h
    rw [h2] at h1
    exact h1.symm
  have e2 : spl [10] 0 [] (tl t) = spl [10] 0 [] ((tl t).dropLast ++ [10]) := congrArg _ e
  rw [e2, spl_end]
  rfl
theorem split_noend {t : Str} {c : Nat} (h : (tl t).getLast? = some c) (hc : c ≠ 10) : (∃ p, (Txt.split t nl).getLast? = some p ∧ p ≠ "") ∧ ((Txt.split t nl).length : Int) - 1 = Txt.count t nl := by
  have hne : tl t ≠ [] := fun z => by
    rw [z] at h
    cases h
  have e : tl t = (tl t).dropLast ++ [c] := by
    have h1 := List.dropLast_concat_getLast hne
    have h2 : (tl t).getLast hne = c := by
      rw [List.getLast?_eq_some_getLast hne] at h
      exact Option.some.inj h
    rw [h2] at h1
    exact h1.symm
  refine ⟨?_, ?_⟩
  · obtain ⟨p, h1, h2⟩ := spl_last_ne hc (tl t).dropLast []
    rw [← e, ← split_tl, List.getLast?_map] at h1
    cases q : (Txt.split t nl).getLast? with
    | none =>
      rw [q] at h1
      cases h1
    | some z =>
      rw [q] at h1
      refine ⟨z, rfl, fun hz => h2 ?_⟩
      have h3 : tl z = p := Option.some.inj h1
      rw [← h3, hz]
      rfl
  · have h1 := spl_count (tl t) []
    rw [← split_tl, List.length_map] at h1
    have e4 : nl = ⟨#[10]⟩ := eq_sing tl_nl
    rw [h1]
    have e5 : Txt.count t nl = cnt 10 (tl t) := by
      rw [e4]
      exact count_cnt t 10
    rw [e5]
    omega
section
variable {P : Program} {w : World} {K : Fg} {mg : Str → Option Value} {base : Heap} {C : Addr}
/-! ### lines_of -/
def strsD (ls : List Str) : PyData := .list (ls.map .str)
def rLines : List PyData → Except Int PyData → Prop := fun ds r => ∃ d, tOk d ∧ ds = [d] ∧ r = mapE (linesM d) strsD
theorem tOk.plain {d : PyData} (h : tOk d) : plainD d = true := by
  rcases h with rfl | rfl | ⟨t, rfl, _⟩ <;> rfl
abbrev slines_of : Stmt := topS 22
theorem sclines_of : FnScope ["text"] ["text"] (defScope slines_of) := ⟨rfl, rfl, rfl, by decide +kernel, rfl, by decide +kernel, by decide +kernel⟩
theorem ok_lines_of (T : Tx K mg C) : CallOk P w K mg base (L2.CX P w) 3 "lines_of" ["text"] (SpX K C rLines) := by
  refine (T.fn 7 _ _ rfl).okX (k := 2) (N := ["text"]) sclines_of (fun _ _ _ _ _ _ us hl => match us, hl with | [_], _ => rfl) (fun ds r h => ?_) fun A outer s H0 E hr => ⟨_, (pss_cons (ps_if (L2.PW.pt (pw_or (pt_not (pt_val (pe_callB (r := rIsi K) call_isi (by rfl) T.isi boot_isinstance (pa_cons (pv 0) (pa_cons (pe_bltn (v := .ty "str") (by rfl) T.str boot_str rfl) pa_nil))))) (pw_or1 (pt_not (pt_truth (pv 0) (fun _ => rfl)))))) (pss_one (ps_badline T.bad rfl (hr.mono (by decide)) (takes_of rfl rfl rfl rfl) (pa_cons pe_int pa_nil))) pss_nil)
  (pss_cons (ps_if (pt_cmpR op_ne (pe_ix ix_str (pv 0) (pe_un un_neg pe_int) (fun _ _ => rfl)) pe_str (nomark _)) (pss_one (ps_badline T.bad rfl (hr.mono (by decide)) (takes_of rfl rfl rfl rfl) (pa_cons (pe_m1 F.slot_str_count F.type_str_count mt_count (pv 0) pe_str) pa_nil))) pss_nil)
  (pss_one (ps_ret (pe_split (pe_slice sl_str (pv 0) po_none (po_some (pe_un un_neg pe_int))) pe_str))))), fun H ds r vs h a t D kr ke => ?_⟩
  · obtain ⟨v, _, rfl, _⟩ := h
    rfl
  · obtain ⟨d, hd, rfl, rfl⟩ := h
    obtain ⟨x, rfl, hx⟩ := a.one
    rcases hd with rfl | rfl | ⟨t, rfl, ht, ha⟩
    · exact q_when (K := K) (b := true) (et_is (et_or (b := false) (et_not (et_B (ev_isi (b := false) (ev_var rfl hx) rfl))) fun hb => nomatch hb) rfl) (fun _ H1 g1 => s_raise (D := D) ev_int ((ke 0 rfl).gx g1)) fun hb => nomatch hb
    · exact q_when (K := K) (b := true) (et_is (et_or (b := false) (et_not (et_B (ev_isi (b := false) (ev_var rfl hx) rfl))) fun hb => nomatch hb) rfl) (fun _ H1 g1 => s_raise (D := D) ev_int ((ke 0 rfl).gx g1)) fun hb => nomatch hb
    · have h2 : t.length ≤ 200000 := by omega
      refine q_when (K := K) (b := decide (tl t = [])) (et_is (et_or (et_not (et_B (ev_isi (ev_var rfl hx) rfl))) fun _ => et_not (et_tru (d := .str t) (ev_var rfl hx) fun s e => by cases e; exact h2)) ?_) (fun hb H1 g1 => ?_) fun hb H1 g1 => ?_
      · show (false || !((t.length : Int) != 0)) = _
        rw [TL.len_tl]
        cases tl t with
        | nil => rfl
        | cons c r =>
          show (false || !(((r.length + 1 : Nat) : Int) != 0)) = false
          have : (((r.length + 1 : Nat) : Int) != 0) = true := by
            rw [bne_iff_ne]
            omega
          rw [this]
          rfl
      · have e : linesM (.str t) = .error 0 := by
          rw [lines_str, of_decide_eq_true hb]
          rfl
        rw [e] at ke
        exact s_raise (D := D) ev_int ((ke 0 rfl).gx g1)
      · have hne : tl t ≠ [] := of_decide_eq_false hb
        obtain ⟨c, hc⟩ : ∃ c, (tl t).getLast? = some c := ⟨_, List.getLast?_eq_some_getLast hne⟩
        refine q_when (K := K) (b := !decide (c = 10)) (et_is (et_test (ev_neS (ev_ixS (c := c) (ev_var rfl (hx.gx g1)) (ev_neg ev_int) h2 (atI_last hc)) ev_str)) ?_) (fun hb H2 g2 => ?_) fun hb H2 g2 => ?_
        · have e4 : nl = ⟨#[10]⟩ := eq_sing tl_nl
          show (!decide ((⟨#[c]⟩ : Str) = nl)) = _
          rw [e4]
          by_cases h : c = 10
          · rw [h]
            simp
          · have : (⟨#[c]⟩ : Str) ≠ ⟨#[10]⟩ := fun z => by
              have z2 : tl (⟨#[c]⟩ : Str) = tl (⟨#[10]⟩ : Str) := by rw [z]
              have z3 : [c] = [10] := z2
              exact h (by simpa using z3)
            rw [decide_eq_false this, decide_eq_false h]
        · have hc2 : c ≠ 10 := by simpa using hb
          have e : linesM (.str t) = .error (Txt.count t nl) := by
            rw [lines_str, hc]
            exact if_neg hc2
          rw [e] at ke
          exact s_raise (D := D) (ev_count (ev_var rfl ((hx.gx g1).gx g2)) ev_str) ((ke _ rfl).gx (g1.trans g2))
        · have hc2 : c = 10 := by simpa using hb
          have e : linesM (.str t) = .ok (Txt.split ⟨(tl t).dropLast.toArray⟩ nl) := by
            rw [lines_str, hc]
            exact if_pos hc2
          rw [e] at kr
          refine s_ret (En.ev (en_split (ev_slS (ev_var rfl ((hx.gx g1).gx g2)) eo_none (eo_some (ev_neg ev_int)) h2) ev_str (by decide +kernel) ?_)) fun v H3 g3 hv => kr _ rfl v H3 (g1.trans (g2.trans g3)) ?_
          · rw [show (-(1 : Int)) = -1 from rfl, cutS_but1, TL.len_tl, TL.tl_mk, List.length_dropLast, ← TL.len_tl]
            omega
          · rw [show (-(1 : Int)) = -1 from rfl, cutS_but1] at hv
            exact hv
/-! ### _law_lines -/
def linesD (r : Except Int (List Str)) : PyData := match r with
  | .ok ls => strsD ls
  | .error n => .int n
def rLawLines : List PyData → PyData → Prop := fun ds r => ∃ d, tOk d ∧ ds = [d] ∧ r = linesD (linesM d)
abbrev slaw_lines : Stmt := topS 43
theorem sclaw_lines : FnScope ["_law_text", "_law_lines_here"] ["_law_text"] (defScope slaw_lines) := ⟨rfl, rfl, rfl, by decide +kernel, rfl, by decide +kernel, by decide +kernel⟩
theorem ok_law_lines (T : Tx K mg C) : CallOk P w K mg base CX0 1 "_law_lines" ["_law_text"] (SpR K rLawLines) := by
  refine (T.fn 27 _ _ rfl).okR (k := 0) (N := ["_law_text", "_law_lines_here"]) sclaw_lines (fun _ _ _ _ _ _ us hl => match us, hl with | [_], _ => rfl) (fun ds r h => ?_) fun A outer s H0 E hr => ⟨_, (pss_cons (ps_if (L2.PW.pt (pw_or (pt_not (pt_val (pe_callB (r := rIsi K) call_isi (by rfl) T.isi boot_isinstance (pa_cons (pv 0) (pa_cons (pe_bltn (v := .ty "str") (by rfl) T.str boot_str rfl) pa_nil))))) (pw_or1 (pt_cmpR op_eq (pv 0) pe_str (nomark _))))) (pss_one (ps_ret pe_int)) pss_nil)
  (pss_cons (ps_set (i := 1) sclaw_lines.nd rfl (.inl rfl) (pe_split (pv 0) pe_str))
  (pss_one (ps_ret (pe_ifExp (pt_cmpR op_eq (pe_ix (r := rIxL K) ix_list (pv 1) (pe_un un_neg pe_int) (fun _ _ => rfl)) pe_str (nomark _)) (pe_slice (r := rSlL K) sl_list (pv 1) po_none (po_some (pe_un un_neg pe_int))) (pe_op op_sub (pe_callB (r := rLenSq K) call_len_seq (by rfl) T.len boot_len (pa_cons (pv 1) pa_nil)) pe_int)))))), fun H ds r vs h a t D kr kn => ?_⟩
  · obtain ⟨v, _, rfl, _⟩ := h
    rfl
  · obtain ⟨d, hd, rfl, rfl⟩ := h
    obtain ⟨x, rfl, hx⟩ := a.one
    rcases hd with rfl | rfl | ⟨t, rfl, ht, ha⟩
    · exact q_when (K := K) (b := true) (et_is (et_or (b := false) (et_not (et_B (ev_isi (b := false) (ev_var rfl hx) rfl))) fun hb => nomatch hb) rfl) (fun _ H1 g1 => s_ret ev_int fun v H2 g2 hv => kr v H2 (g1.trans g2) hv) fun hb => nomatch hb
    · exact q_when (K := K) (b := true) (et_is (et_or (b := false) (et_not (et_B (ev_isi (b := false) (ev_var rfl hx) rfl))) fun hb => nomatch hb) rfl) (fun _ H1 g1 => s_ret ev_int fun v H2 g2 hv => kr v H2 (g1.trans g2) hv) fun hb => nomatch hb
    · have h2 : t.length ≤ 200000 := by omega
      refine q_when (K := K) (b := decide (tl t = [])) (et_is (et_or (et_not (et_B (ev_isi (ev_var rfl hx) rfl))) fun _ => et_test (ev_eqS (ev_var rfl hx) ev_str)) ?_) (fun hb H1 g1 => ?_) fun hb H1 g1 => ?_
      · show (false || decide (t = "")) = _
        rw [Bool.false_or]
        by_cases h : tl t = []
        · rw [decide_eq_true h, decide_eq_true (TL.ext_tl (h.trans rfl))]
        · rw [decide_eq_false h, decide_eq_false fun z => h (by rw [z]; rfl)]
      · have e : linesM (.str t) = .error 0 := by
          rw [lines_str, of_decide_eq_true hb]
          rfl
        rw [e] at kr
        exact s_ret ev_int fun v H2 g2 hv => kr v H2 (g1.trans g2) hv
      · have hne : tl t ≠ [] := of_decide_eq_false hb
        obtain ⟨c, hc⟩ : ∃ c, (tl t).getLast? = some c := ⟨_, List.getLast?_eq_some_getLast hne⟩
        refine q_asgN (K := K) (ds := (Txt.split t nl).map PyData.str) (en_split (ev_var rfl (hx.gx g1)) ev_str (by decide +kernel) (by omega)) fun l us H2 g2 n2 e2 e3 => ?_
        have hl : Dv H2 (.ref l) (.list ((Txt.split t nl).map PyData.str)) := .ofL e2 e3
        by_cases hc2 : c = 10
        · subst hc2
          have e := split_end hc
          have e' : linesM (.str t) = .ok (Txt.split ⟨(tl t).dropLast.toArray⟩ nl) := by
            rw [lines_str, hc]
            rfl
          rw [e'] at kr
          have hlast : atI ((Txt.split t nl).map PyData.str) (-1) = some (.str "") := atI_last (by rw [e, List.map_append, List.getLast?_append]; rfl)
          refine s_ret (ev_if (b := true) (et_is (et_test (ev_eqS (ev_ixL (ev_var rfl hl) (ev_neg ev_int) hlast) ev_str)) (by simp)) (fun _ => En.ev (en_sl (ev_var rfl hl) eo_none (eo_some (ev_neg ev_int)))) fun hb => nomatch hb) fun v H3 g3 hv => kr v H3 (g1.trans (g2.trans g3)) ?_
          rw [show cutD ((Txt.split t nl).map PyData.str) none (some (-(1 : Int))) = ((Txt.split t nl).map PyData.str).dropLast from cutD_but1 _, e, List.map_append, show List.map PyData.str [("" : Str)] = [PyData.str ""] from rfl, List.dropLast_concat] at hv
          exact hv
        · obtain ⟨⟨p, h3, h4⟩, h5⟩ := split_noend hc hc2
          have e' : linesM (.str t) = .error (Txt.count t nl) := by
            rw [lines_str, hc]
            exact if_neg hc2
          rw [e'] at kr
          have hlast : atI ((Txt.split t nl).map PyData.str) (-1) = some (.str p) := atI_last (by rw [List.getLast?_map, h3]; rfl)
          refine s_ret (ev_if (b := false) (et_is (et_test (ev_eqS (ev_ixL (ev_var rfl hl) (ev_neg ev_int) hlast) ev_str)) (by rw [decide_eq_false h4])) (fun hb => nomatch hb) fun _ => ev_is (ev_sub (ev_lenL (ev_var rfl hl) (.inl rfl)) ev_int) ?_) fun v H3 g3 hv => kr v H3 (g1.trans (g2.trans g3)) hv
          rw [List.length_map, h5]
          rfl
end
end LP

/-! LpW6 -/
set_option maxHeartbeats 4000000
/-! Walks: the readers of questions. -/
namespace LP
open PySem PySem.Spec PyProof.Rows L2 RZ
open TL (tl spl joinL)
theorem numT_ascii (n : Nat) : asciiT (numT n) = true := by
  unfold asciiT numT
  rw [TL.tl_num]
  refine List.all_eq_true.mpr fun c hc => decide_eq_true ?_
  by_cases h : c < 128
  · exact h
  · exact absurd hc (TL.numL_free (n := n) (s := c) (.inr (by omega)))
theorem num_small {n : Nat} (h : n ≤ 100000) : ((n : Nat) : Int).natAbs.log2 < 1920 := by
  rw [Int.natAbs_natCast]
  by_cases h0 : n = 0
  · subst h0
    decide
  · exact Nat.lt_of_lt_of_le (Nat.log2_lt h0 |>.mpr (show n < 2 ^ 17 by omega)) (by decide)
theorem canLay_ints : ∀ xs : List Int, PyData.canLayAll0 (xs.map .int) = true
  | [] => rfl
  | x :: r => by simp [PyData.canLayAll0, PyData.canLay0, canLay_ints r]
theorem depth_ints : ∀ xs : List Int, PyData.depthAll (xs.map .int) ≤ 1
  | [] => by simp [PyData.depthAll]
  | x :: r => by
    have := depth_ints r
    simp [PyData.depthAll, PyData.depth]
    try omega
theorem canLay_tups : ∀ xs : List (List Int), PyData.canLayAll0 (xs.map iD) = true
  | [] => rfl
  | x :: r => by simp [PyData.canLayAll0, PyData.canLay0, canLay_ints x, canLay_tups r]
theorem depth_tups : ∀ xs : List (List Int), PyData.depthAll (xs.map iD) ≤ 2
  | [] => by simp [PyData.depthAll]
  | x :: r => by
    have := depth_tups r
    have := depth_ints x
    simp [PyData.depthAll, PyData.depth]
    try omega
theorem shaped_tups (xs : List (List Int)) : SeqAt.shaped (.list (xs.map iD)) = true := by
  unfold SeqAt.shaped
  refine Bool.and_eq_true_iff.mpr ⟨by rw [PyData.canLay0]; exact canLay_tups xs, decide_eq_true ?_⟩
  have := depth_tups xs
  rw [PyData.depth]
  omega
theorem shaped_ints (xs : List Int) : SeqAt.shaped (.list (xs.map .int)) = true := by
  unfold SeqAt.shaped
  refine Bool.and_eq_true_iff.mpr ⟨by rw [PyData.canLay0]; exact canLay_ints xs, decide_eq_true ?_⟩
  have := depth_ints xs
  rw [PyData.depth]
  omega
theorem shaped_nil : SeqAt.shaped (.list []) = true := shaped_ints []
theorem eqv_nil {xs : List PyData} : PyData.eqv (.list xs) (.list []) = xs.isEmpty := by
  cases xs <;> simp [PyData.eqv, PyData.eqvAll]
theorem atI_nat {xs : List PyData} {i : Nat} {d : PyData} (h : xs[i]? = some d) : atI xs (i : Nat) = some d := atI_natD (by omega) (by simpa using h)
theorem getD_str {ws : List Str} {i : Nat} (h : i < ws.length) : (ws.map PyData.str)[i]? = some (.str (ws.getD i "")) := by
  rw [List.getElem?_map, List.getD_eq_getElem?_getD, List.getElem?_eq_getElem h]
  rfl
section
variable {K : Fg} {σ : L2.St} {H : Hp} {ta tb' te : TE}
theorem en_cat {xs ys : List PyData} (ha : En K ta σ H xs) (hb : En K tb' σ H ys) (hz : xs.length + ys.length ≤ 200000) : En K (tOp rCat ta tb') σ H (xs ++ ys) := fun H1 g Q q =>
  ha H1 g _ fun a us H2 g2 n2 e2 t2 => hb H2 (g.trans g2) _ fun b vs H3 g3 n3 e3 t3 => ⟨a, b, us, vs, rfl, rfl, g3.lst e2, e3, sz (by rw [t2.length, t3.length]; exact hz), fun p np =>
    q p _ _ (g2.trans (g3.trans (.new np))) ((g2.trans g3).free np) upd_same (((t2.kt g3.kt).app t3).kt (.new np))⟩
/-- words[:k] != [..] and == -/
theorem ev_wne {ws us : List Str} {k : Nat} (hx : Ev K ta σ H (strsD ws)) (hu : Ev K tb' σ H (strsD us)) (hw : ws.all asciiT = true) (h2 : us.all asciiT = true) : Ev K (tOp (rNeD K) ta tb') σ H (.bool (!decide (ws = us))) := by
  have e := ev_neD hx hu (shaped_strs ws hw) (shaped_strs us h2)
  unfold strsD at e
  rw [eqv_strs] at e
  exact e
theorem ev_weq {ws us : List Str} (hx : Ev K ta σ H (strsD ws)) (hu : Ev K tb' σ H (strsD us)) (hw : ws.all asciiT = true) (h2 : us.all asciiT = true) : Ev K (tOp (rEqD K) ta tb') σ H (.bool (decide (ws = us))) := by
  have e := ev_eqD hx hu (shaped_strs ws hw) (shaped_strs us h2)
  unfold strsD at e
  rw [eqv_strs] at e
  exact e
theorem en_take {ws : List Str} (h : Ev K te σ H (strsD ws)) (k : Nat) {i : Int} (hi : i = k) : En K (L2.tSl (rSlL K) te tNoPart (tPart (tC (.int i)))) σ H ((ws.take k).map .str) := by
  subst hi
  have e := en_sl h eo_none (eo_some (ev_int (i := (k : Int))))
  rw [cutD_to, ← List.map_take] at e
  exact e
theorem en_drop {ws : List Str} (h : Ev K te σ H (strsD ws)) (k : Nat) {i : Int} (hi : i = k) : En K (L2.tSl (rSlL K) te (tPart (tC (.int i))) tNoPart) σ H ((ws.drop k).map .str) := by
  subst hi
  have e := en_sl h (eo_some (ev_int (i := (k : Int)))) eo_none
  rw [cutD_from, ← List.map_drop] at e
  exact e
theorem en_mid {ws : List Str} (h : Ev K te σ H (strsD ws)) (j k : Nat) {i i' : Int} (hi : i = j) (hi' : i' = k) : En K (L2.tSl (rSlL K) te (tPart (tC (.int i))) (tPart (tC (.int i')))) σ H (((ws.take k).drop j).map .str) := by
  subst hi hi'
  have e := en_sl h (eo_some (ev_int (i := (j : Int)))) (eo_some (ev_int (i := (k : Int))))
  rw [cutD_both, ← List.map_take, ← List.map_drop] at e
  exact e
end
theorem nb {b : Bool} (h : (!b) = true) : b = false := by
  cases b
  · rfl
  · cases h
theorem nb' {b : Bool} (h : (!b) = false) : b = true := by
  cases b
  · cases h
  · rfl
theorem ascii3 {a b c : Str} (h1 : asciiT a = true) (h2 : asciiT b = true) (h3 : asciiT c = true) : [a, b, c].all asciiT = true := by
  simp [h1, h2, h3]
section
variable {P : Program} {w : World} {K : Fg} {mg : Str → Option Value} {base : Heap} {C : Addr}
/-! ### state_of -/
def stateD : Option (Int × List Int) → PyData
  | none => .none
  | some (m, st) => .tuple [.int m, iD st]
def rState : List PyData → PyData → Prop := fun ds r => ∃ ws, ∃ i n : Nat, wsOk ws ∧ i ≤ 100000 ∧ ds = [strsD ws, .int i, .int n] ∧ r = stateD (stateM ws i n)
abbrev sstate_of : Stmt := topS 27
theorem scstate_of : FnScope ["words", "state", "many", "mark", "step"] ["words", "state", "many"] (defScope sstate_of) := ⟨rfl, rfl, rfl, by decide +kernel, rfl, by decide +kernel, by decide +kernel⟩
theorem ok_state_of (T : Tx K mg C) : CallOk P w K mg base CX0 3 "state_of" ["words", "state", "many"] (SpR K rState) := by
  have cfigure_of := ok_figure_of (P := P) (w := w) (base := base) T
  have cnumbers_of := ok_numbers_of (P := P) (w := w) (base := base) T
  refine (T.fn 12 _ _ rfl).okR (k := 2) (N := ["words", "state", "many", "mark", "step"]) scstate_of (fun _ _ _ _ _ _ us hl => match us, hl with | [_, _, _], _ => rfl) (fun ds r h => ?_) fun A outer s H0 E hr => ⟨_, (pss_cons (ps_if (L2.PW.pt (pw_or (pt_cmpR (r := rNeD K) (op_neD hr.units) (pe_slice (r := rSlL K) sl_list (pv 0) po_none (po_some pe_int)) (pe_lst (pa_cons pe_str (pa_cons (pe_callTy call_str_int (by rfl) T.str boot_str (pa_cons (pv 1) pa_nil)) (pa_cons pe_str pa_nil)))) (nomark _)) (pw_or (pt_cmpR op_lt (pe_callB (r := rLenSq K) call_len_seq (by rfl) T.len boot_len (pa_cons (pv 0) pa_nil)) pe_int (nomark _)) (pw_or1 (pt_cmpR op_ne (pe_ix (r := rIxL K) ix_list (pv 0) pe_int (fun _ _ => rfl)) pe_str (nomark _)))))) (pss_one (ps_ret pe_non)) pss_nil)
  (pss_cons (ps_par (i := 3) (j := 4) rfl scstate_of.nd rfl rfl (by decide) rfl rfl (pa_cons (pe_c cfigure_of (hr.mono (by decide)) pass0 (pa_cons (pe_ix (r := rIxL K) ix_list (pv 0) pe_int (fun _ _ => rfl)) (pa_cons (pe_gi T.ans) pa_nil))) (pa_cons (pe_c cnumbers_of (hr.mono (by decide)) pass0 (pa_cons (pe_slice (r := rSlL K) sl_list (pv 0) (po_some pe_int) po_none) (pa_cons (pe_op op_sub (pe_callB (call_min2 rfl) (by rfl) T.min boot_min (pa_cons (pv 2) (pa_cons (pe_gi T.sta) pa_nil))) pe_int) pa_nil))) pa_nil)) rfl)
  (pss_one (ps_ret (pe_ifExp (L2.PW.pt (pw_or (pt_cmpR op_isN (pv 3) pe_non (nomark _)) (pw_or (pt_cmpR op_isN (pv 4) pe_non (nomark _)) (pw_or1 (pt_cmpR op_gt (pe_callB (r := rLenSq K) call_len_seq (by rfl) T.len boot_len (pa_cons (pv 4) pa_nil)) (pe_gi T.let_) (nomark _)))))) pe_non (pe_tup (pa_cons (pv 3) (pa_cons (pv 4) pa_nil)))))))), fun H ds r vs h a t D kr kn => ?_⟩
  · obtain ⟨v, _, _, _, _, rfl, _⟩ := h
    rfl
  · obtain ⟨ws, i, n, hw, hi, rfl, rfl⟩ := h
    obtain ⟨x, y, z, rfl, hx, hy, hz⟩ := a.three
    have hx : Dv H x (strsD ws) := hx
    have wl := hw.1
    refine q_when (K := K) (b := !(decide (ws.take 3 = [("state" : Str), numT i, ("answer" : Str)]) && (decide (6 ≤ ws.length) && decide (ws.getD 4 "" = "to")))) (et_is (et_or (b := decide (ws.length < 6) || !decide (ws.getD 4 "" = "to")) (et_test (ev_wne (k := 3) (us := [("state" : Str), numT i, ("answer" : Str)]) (En.ev (en_take (ev_var rfl hx) 3 rfl)) (En.ev (en_lst (ea3 ev_str (ev_strI (ev_var rfl hy) (num_small hi)) ev_str) rfl (by show 3 ≤ 200000; decide))) (hw.take 3).ascii (ascii3 (by decide +kernel) (numT_ascii i) (by decide +kernel)))) fun _ =>
      et_or (b := !decide (ws.getD 4 "" = "to")) (et_is (et_test (ev_lt (ev_lenL (ev_var rfl hx) (.inl rfl)) ev_int)) (by rw [List.length_map]; exact decide_eq_decide.mpr (by omega))) fun hb => et_test (ev_neS (ev_ixL (ev_var rfl hx) ev_int (atI_nat (i := 4) (getD_str (by have := of_decide_eq_false hb; omega)))) ev_str)) ?_) (fun hb H1 g1 => ?_) fun hb H1 g1 => ?_
    · rw [Bool.not_and, Bool.not_and, show decide (ws.length < 6) = !decide (6 ≤ ws.length) by by_cases q : 6 ≤ ws.length <;> simp [q] <;> omega]
    · have e : stateM ws i n = none := by
        unfold stateM
        rw [if_neg (by rw [nb hb]; exact Bool.false_ne_true)]
      rw [e] at kr
      exact s_ret ev_non fun v H2 g2 hv => kr v H2 (g1.trans g2) hv
    · have hb2 : (decide (ws.take 3 = [("state" : Str), numT i, ("answer" : Str)]) && (decide (6 ≤ ws.length) && decide (ws.getD 4 "" = "to"))) = true := by simpa using hb
      have h6 : 6 ≤ ws.length := of_decide_eq_true (Bool.and_eq_true_iff.mp (Bool.and_eq_true_iff.mp hb2).2).1
      have e : stateM ws i n = (figM (ws.getD 3 "") 3).bind fun m => (numsM (ws.drop 5) (min n 8 - 1)).bind fun st => if st.length ≤ 5 then some (m, st) else none := by
        unfold stateM
        rw [if_pos hb2]
      rw [e] at kr
      have hl3 : (ws.getD 3 "").length ≤ 3000 := by
        refine (hw.2 _ ?_).1
        rw [List.getD_eq_getElem?_getD, List.getElem?_eq_getElem (by omega)]
        exact List.getElem_mem _
      refine s_par (D := { D with nx := _ }) (d := figD (figM (ws.getD 3 "") 3)) (e := numsD (numsM (ws.drop 5) (min n 8 - 1))) (ev_call (R := rFig) (g1.gt t) (ea2 (ev_ixL (ev_var rfl (hx.gx g1)) ev_int (atI_nat (i := 3) (getD_str (by omega)))) ev_int) ⟨_, 3, hl3, rfl, rfl⟩) (ev_call (R := rNums) (g1.gt t) (ea2 (En.ev (en_drop (ev_var rfl (hx.gx g1)) 5 rfl)) (ev_sub (ev_min (ev_var rfl (hz.gx g1)) ev_int) ev_int)) ⟨ws.drop 5, min n 8 - 1, hw.drop 5, ?_, rfl⟩) fun v u H2 g2 hv hu => ?_
      · have : ((if (8 : Int) < n then (8 : Int) else n) : Int) - 1 = min n 8 - 1 := by
          split <;> omega
        exact congrArg (fun z => [strsD (ws.drop 5), PyData.int z]) this
      · cases ef : figM (ws.getD 3 "") 3 with
        | none =>
          rw [ef] at hv kr
          refine s_ret (ev_if (b := true) (et_is (et_or (b := false) (et_test (ev_isN (ev_var rfl hv))) fun hb => nomatch hb) rfl) (fun _ => ev_non) fun hb => nomatch hb) fun v H3 g3 hv => kr v H3 (g1.trans (g2.trans g3)) hv
        | some m =>
          rw [ef] at hv kr
          cases es : numsM (ws.drop 5) (min n 8 - 1) with
          | none =>
            rw [es] at hu kr
            refine s_ret (ev_if (b := true) (et_is (et_or (b := true) (et_test (ev_isN (ev_var rfl hv))) fun _ => et_is (et_or (b := false) (et_test (ev_isN (ev_var rfl hu))) fun hb => nomatch hb) rfl) rfl) (fun _ => ev_non) fun hb => nomatch hb) fun v H3 g3 hv => kr v H3 (g1.trans (g2.trans g3)) hv
          | some st =>
            rw [es] at hu kr
            refine s_ret (ev_if (b := decide (5 < st.length)) (et_is (et_or (b := decide (5 < st.length)) (et_test (ev_isN (ev_var rfl hv))) fun _ => et_is (et_or (b := decide (5 < st.length)) (et_test (ev_isN (ev_var rfl hu))) fun _ => et_is (et_test (ev_gt (ev_lenL (ds := st.map PyData.int) (ev_var rfl hu) (.inr rfl)) ev_int)) (by rw [List.length_map]; exact decide_eq_decide.mpr (by omega))) rfl) rfl) (fun hb => ?_) fun hb => ?_) fun v H3 g3 hv => kr v H3 (g1.trans (g2.trans g3)) hv
            · refine ev_is ev_non ?_
              show PyData.none = stateD (if st.length ≤ 5 then some (m, st) else none)
              rw [if_neg (by have := of_decide_eq_true hb; omega)]
              rfl
            · refine ev_is (ev_tup (ea2 (ev_var rfl hv) (ev_var rfl hu)) rfl (by show 2 ≤ 200000; decide)) ?_
              show PyData.tuple [.int m, iD st] = stateD (if st.length ≤ 5 then some (m, st) else none)
              rw [if_pos (by have := of_decide_eq_false hb; omega)]
              rfl
end
end LP

/-! LpW7 -/
set_option maxHeartbeats 4000000
/-! Walks: read_question, the law's reader of questions. -/
namespace LP
open PySem PySem.Spec PyProof.Rows L2 RZ
open TL (tl spl joinL)
def lineD (n : Int) : PyData := .tuple [.str "line", .int n]
def toldD (r : Except Int PyData) : PyData := match r with
  | .ok d => d
  | .error n => lineD n
theorem tups_plain (st : List (List Int)) : (st.map iD).all plainD = true := by
  rw [List.all_map]
  exact List.all_eq_true.mpr fun _ _ => rfl
/-- the loop's turn fails, the whole fails -/
theorem loop_fail {α : Type} {f : Nat → α → Except Int α} {a b : α} {m : Int} {i n : Nat} (h : loopM f i a = .ok b) (e : f i b = .error m) (hi : i < n) : loopM f n a = .error m :=
  loopM_err (i := i + 1) (by
    show (match loopM f i a with
      | .error e => Except.error e
      | .ok b => f i b) = .error m
    rw [h]
    exact e) n hi
theorem loop_step {α : Type} {f : Nat → α → Except Int α} {a b c : α} {i : Nat} (h : loopM f i a = .ok b) (e : f i b = .ok c) : loopM f (i + 1) a = .ok c := by
  show (match loopM f i a with
    | .error e => Except.error e
    | .ok b => f i b) = .ok c
  rw [h]
  exact e
theorem loop_inv {α : Type} {f : Nat → α → Except Int α} {a c : α} {i : Nat} (h : loopM f (i + 1) a = .ok c) : ∃ b, loopM f i a = .ok b ∧ f i b = .ok c := by
  unfold loopM at h
  split at h
  · cases h
  · rename_i b q
    exact ⟨b, q, h⟩
theorem state_len {ws : List Str} {i n : Nat} {m : Int} {s : List Int} (h : stateM ws i n = some (m, s)) : s.length ≤ 5 := by
  unfold stateM at h
  split at h
  · cases e : figM (ws.getD 3 "") 3 with
    | none =>
      rw [e] at h
      cases h
    | some k =>
      rw [e] at h
      cases e2 : numsM (ws.drop 5) (min n 8 - 1) with
      | none =>
        rw [e2] at h
        cases h
      | some st =>
        rw [e2] at h
        have h : (if st.length ≤ 5 then some (k, st) else none) = some (m, s) := h
        split at h
        · cases h
          assumption
        · cases h
  · cases h
theorem head0 {st : List (List Int)} (h : st ≠ []) : (st.map iD)[0]? = some (iD (st.headD [])) := by
  cases st with
  | nil => exact absurd rfl h
  | cons a b => rfl
section
variable {P : Program} {w : World} {K : Fg} {mg : Str → Option Value} {base : Heap} {C : Addr}
def rRdQ : List PyData → Except Int PyData → Prop := fun ds r => ∃ d, tOk d ∧ ds = [d] ∧ r = mapE (rdQ d) qD
theorem stepQ_none {ls : List Str} {i : Nat} {a : Q2} (h : (if i < 8 then stateM (wordsOf (ls.getD i "")) i ls.length else none) = none) : stepQ ls i a = .error i := by
  unfold stepQ
  rw [h]
theorem stepQ_some {ls : List Str} {i : Nat} {a : Q2} {m : Int} {s : List Int} (h : (if i < 8 then stateM (wordsOf (ls.getD i "")) i ls.length else none) = some (m, s)) :
    stepQ ls i a = if a.1 ≠ [] ∧ s.length ≠ (a.1.headD []).length then .error i else .ok (a.1 ++ [s], a.2 ++ [m]) := by
  unfold stepQ
  rw [h]
/-- what the loop has made so far is small -/
theorem stepQ_len {ls : List Str} : ∀ {i : Nat} {a : Q2}, loopM (stepQ ls) i ([], []) = .ok a → a.1.length = i ∧ a.2.length = i
  | 0, a, h => by
    cases h
    exact ⟨rfl, rfl⟩
  | i + 1, a, h => by
    obtain ⟨b, e, h⟩ := loop_inv h
    · obtain ⟨h1, h2⟩ := stepQ_len e
      cases q : (if i < 8 then stateM (wordsOf (ls.getD i "")) i ls.length else none) with
      | none =>
        rw [stepQ_none q] at h
        cases h
      | some p =>
        obtain ⟨m, s⟩ := p
        rw [stepQ_some q] at h
        split at h
        · cases h
        · cases h
          simp [h1, h2]
abbrev sread_question : Stmt := topS 28
theorem scread_question : FnScope ["text", "lines", "steps", "marks", "at", "line", "told"] ["text"] (defScope sread_question) := ⟨rfl, rfl, rfl, by decide +kernel, rfl, by decide +kernel, by decide +kernel⟩
theorem ok_read_question (T : Tx K mg C) : CallOk P w K mg base (L2.CX P w) 4 "read_question" ["text"] (SpX K C rRdQ) := by
  have clines_of := ok_lines_of (P := P) (w := w) (base := base) T
  have cstate_of := ok_state_of (P := P) (w := w) (base := base) T
  refine (T.fn 13 _ _ rfl).okX (k := 3) (N := ["text", "lines", "steps", "marks", "at", "line", "told"]) scread_question (fun _ _ _ _ _ _ us hl => match us, hl with | [_], _ => rfl) (fun ds r h => ?_) fun A outer s H0 E hr => ⟨_, (pss_cons (ps_set (i := 1) scread_question.nd rfl (.inl rfl) (pe_cS clines_of (hr.mono (by decide)) (fun σ => passAt (W := fun cls d _ H => E cls d H) (takes_of rfl rfl rfl rfl) σ) (pa_cons (pv 0) pa_nil)))
  (pss_cons (ps_par (i := 2) (j := 3) rfl scread_question.nd rfl rfl (by decide) rfl rfl (pa_cons (pe_lst pa_nil) (pa_cons (pe_lst pa_nil) pa_nil)) rfl)
  (pss_cons (ps_for (passes_of rfl) rfl (pi_enum (by rfl) T.enum (pa_cons (pv 1) pa_nil)) (pg_tup rfl (pgs_cons (pg_name (i := 4) scread_question.nd rfl (.inl rfl)) (pgs_cons (pg_name (i := 5) scread_question.nd rfl (.inl rfl)) pgs_nil))) (pss_cons (ps_set (i := 6) scread_question.nd rfl (.inl rfl) (pe_ifExp (pt_cmpR op_lt (pv 4) (pe_gi T.sta) (nomark _)) (pe_c cstate_of (hr.mono (by decide)) pass0 (pa_cons (pe_split (pv 5) pe_str) (pa_cons (pv 4) (pa_cons (pe_callB (r := rLenSq K) call_len_seq (by rfl) T.len boot_len (pa_cons (pv 1) pa_nil)) pa_nil)))) pe_non))
  (pss_cons (ps_if (L2.PW.pt (pw_or (pt_cmpR op_isN (pv 6) pe_non (nomark _)) (pw_or1 (L2.PW.pt (pw_and (pt_truth (pv 2) (fun _ => rfl)) (pw_and1 (pt_cmpR op_ne (pe_callB (r := rLenSq K) call_len_seq (by rfl) T.len boot_len (pa_cons (pe_ix (r := rIxT K) ix_tup (pv 6) pe_int (fun _ _ => rfl)) pa_nil)) (pe_callB (r := rLenSq K) call_len_seq (by rfl) T.len boot_len (pa_cons (pe_ix (r := rIxL K) ix_list (pv 2) pe_int (fun _ _ => rfl)) pa_nil)) (nomark _)))))))) (pss_one (ps_badline T.bad rfl (hr.mono (by decide)) (takes_of rfl rfl rfl rfl) (pa_cons (pv 4) pa_nil))) pss_nil)
  (pss_cons (ps_expr (pe_bm PySem.F.plainAttrs_list PySem.F.slot_list_append PySem.F.type_list_append mt_append (pv 3) (pa_cons (pe_ix (r := rIxT K) ix_tup (pv 6) pe_int (fun _ _ => rfl)) pa_nil)))
  (pss_one (ps_expr (pe_bm PySem.F.plainAttrs_list PySem.F.slot_list_append PySem.F.type_list_append mt_append (pv 2) (pa_cons (pe_ix (r := rIxT K) ix_tup (pv 6) pe_int (fun _ _ => rfl)) pa_nil))))))))
  (pss_one (ps_ret (pe_tup (pa_cons (pe_callTy (r := rTupOf K) call_tuple_of (by rfl) T.tuple boot_tuple (pa_cons (pv 2) pa_nil)) (pa_cons (pe_callTy (r := rTupOf K) call_tuple_of (by rfl) T.tuple boot_tuple (pa_cons (pv 3) pa_nil)) pa_nil)))))))), fun H ds r vs h a t D kr ke => ?_⟩
  · obtain ⟨v, _, rfl, _⟩ := h
    rfl
  · obtain ⟨d, hd, rfl, rfl⟩ := h
    obtain ⟨x, rfl, hx⟩ := a.one
    refine q_asgX (K := K) (R := rLines) (r := mapE (linesM d) strsD) t (ea1 (ev_var rfl hx)) ⟨d, hd, rfl, rfl⟩ (fun dl hdl v H1 g1 hv => ?_) fun m hm => ?_
    · cases el : linesM d with
      | error m =>
        rw [el] at hdl
        cases hdl
      | ok ls =>
        rw [el] at hdl
        cases hdl
        obtain ⟨⟨l5, hls⟩, lne⟩ := lines_ok hd el
        have er : rdQ d = loopM (stepQ ls) ls.length ([], []) := by
          unfold rdQ
          rw [el]
          rfl
        rw [er] at kr ke
        obtain ⟨al, xs, rfl, e1, e2⟩ := hv.list
        refine s_parNN (K := K) (D := { D with nx := _ }) fun sa sb H2 g2 na nb' hab ea eb => ?_
        refine s_forELv (i0 := 1) (a := al) rfl (g2.lst e1) e2.length (fun i σ' H' => ∃ st mk vs us o o' o'', loopM (stepQ ls) i ([], []) = .ok (st, mk) ∧ σ' = [some x, some (.ref al), some (.ref sa), some (.ref sb), o, o', o''] ∧ Gx K H1 H' ∧ H' sa = some (.lst vs) ∧ TvAll H' vs (st.map iD) ∧ H' sb = some (.lst us) ∧ TvAll H' us (mk.map .int))
          ⟨[], [], [], [], none, none, none, rfl, rfl, g2, ea, .nil, eb, .nil⟩ (fun i σ' H' hi ⟨st, mk, vs, us, o, o', o'', _, _, g, _⟩ => ⟨g.lst e1, e2.kt g.kt⟩) (fun i dd z σ' H' H'' hdd hz ⟨st, mk, vs, us, o, o', o'', h1, h2, g, h3, h4, h5, h6⟩ g3 => ?_) (fun σ' H' ⟨st, mk, vs, us, o, o', o'', h1, h2, g, h3, h4, h5, h6⟩ => ?_)
        · subst h2
          obtain ⟨ln, hln, rfl⟩ := map_get hdd
          have hi : i < ls.length := (List.getElem?_eq_some_iff.mp hln).1
          have egd : ls.getD i "" = ln := by rw [List.getD_eq_getElem?_getD, hln]; rfl
          obtain ⟨n1, n2⟩ := hls ln (List.mem_of_getElem? hln)
          have gg := g.trans g3
          have h3 := g3.lst h3
          have h5 := g3.lst h5
          have h4 := h4.kt g3.kt
          have h6 := h6.kt g3.kt
          have hln : Dv H'' z (.str ln) := .inl hz
          obtain ⟨len1, len2⟩ := stepQ_len h1
          have len1 : st.length = i := len1
          have len2 : mk.length = i := len2
          have tt : GT K H'' := (g1.trans gg).gt t
          refine q_asg (K := K) (d := stateD (if i < 8 then stateM (wordsOf (ls.getD i "")) i ls.length else none)) (ev_if (b := decide (i < 8)) (et_is (et_test (ev_lt (i := (i : Nat)) (ev_var (v := .int (i : Nat)) rfl (.int _)) ev_int)) (decide_eq_decide.mpr (by omega))) (fun hb => ?_) fun hb => ?_) fun v H4 g4 hv => ?_
          · have hb := of_decide_eq_true hb
            rw [if_pos hb, egd]
            exact ev_call (R := rState) tt (ea3 (En.ev (en_split (a := ln) (b := spc) (ev_var rfl hln) ev_str (by decide +kernel) (by omega))) (ev_var (v := .int (i : Nat)) rfl (.int _)) (ev_lenL (ds := ls.map PyData.str) (ev_var (v := .ref al) rfl (.ofL (gg.lst e1) (e2.kt gg.kt))) (.inl rfl))) ⟨wordsOf ln, i, ls.length, words_ok n1 n2, by omega, by rw [List.length_map]; rfl, rfl⟩
          · have hb := of_decide_eq_false hb
            rw [if_neg hb]
            exact ev_non
          · have h3 := g4.lst h3
            have h5 := g4.lst h5
            have h4 := h4.kt g4.kt
            have h6 := h6.kt g4.kt
            have g5 := gg.trans g4
            cases q : (if i < 8 then stateM (wordsOf (ls.getD i "")) i ls.length else none) with
            | none =>
              rw [q] at hv
              have e := loop_fail h1 (stepQ_none (a := (st, mk)) q) hi
              rw [e] at ke
              exact q_when (K := K) (b := true) (et_is (et_or (b := false) (et_test (ev_isN (ev_var rfl hv))) fun hb => nomatch hb) rfl) (fun _ H5 g6 => s_raise (D := D) (ev_var (v := .int (i : Nat)) rfl (.int _)) ((ke i rfl).gx (g1.trans (g5.trans g6)))) fun hb => nomatch hb
            | some p =>
              obtain ⟨m, s⟩ := p
              rw [q] at hv
              have hv : Dv H4 v (.tuple [.int m, iD s]) := hv
              have es := stepQ_some (a := (st, mk)) q
              have hs : Dv H4 (.ref sa) (.list (st.map iD)) := .ofL h3 h4
              refine q_when (K := K) (b := decide (st ≠ [] ∧ s.length ≠ (st.headD []).length)) (et_is (et_or (b := decide (st ≠ [] ∧ s.length ≠ (st.headD []).length)) (et_test (ev_isN (ev_var rfl hv))) fun _ => et_is (et_and (b := !decide (s.length = (st.headD []).length)) (et_tru (d := .list (st.map iD)) (ev_var rfl hs) fun _ e => nomatch e) fun hb => et_is (et_test (ev_neI (ev_lenL (ds := s.map PyData.int) (ev_ixT (ev_var rfl hv) ev_int rfl) (.inr rfl)) (ev_lenL (ds := (st.headD []).map PyData.int) (ev_ixL (ev_var rfl hs) ev_int (atI_nat (i := 0) (head0 ?_))) (.inr rfl)))) ?_) ?_) rfl) (fun hb H5 g6 => ?_) fun hb H5 g6 => ?_
              · rintro rfl
                cases hb
              · rw [List.length_map, List.length_map]
                congr 1
                exact decide_eq_decide.mpr (by omega)
              · show (!List.isEmpty (st.map iD) && _) = _
                cases st with
                | nil => rfl
                | cons a b =>
                  show (true && !decide (s.length = a.length)) = decide (a :: b ≠ [] ∧ s.length ≠ a.length)
                  simp
              · have e := loop_fail h1 (es.trans (if_pos (of_decide_eq_true hb))) hi
                rw [e] at ke
                exact s_raise (D := D) (ev_var (v := .int (i : Nat)) rfl (.int _)) ((ke i rfl).gx (g1.trans (g5.trans g6)))
              · have e := loop_step h1 (es.trans (if_neg (of_decide_eq_false hb)))
                have h3 := g6.lst h3
                have h5 := g6.lst h5
                have h4 := h4.kt g6.kt
                have h6 := h6.kt g6.kt
                have hv := hv.gx g6
                have g7 := g5.trans g6
                have hvt : Tv H5 v (.tuple [.int m, iD s]) := hv.tv rfl
                refine s_app (K := K) (D := { D with nx := _ }) (i := 3) (l := sb) h5 rfl (ev_ixT (ev_var rfl hv) ev_int (d := .int m) rfl) rfl (by rw [h6.length, List.length_map]; omega) fun v' H6 g8 hv' hl8 => ?_
                have k8 : Kt H5 (upd H6 sb (.lst (us ++ [v']))) := g8.kt.trans (.mut hl8)
                have h3' : (upd H6 sb (.lst (us ++ [v']))) sa = some (.lst vs) := by
                  rw [upd_ne hab]
                  exact g8.lst h3
                refine s_app (K := K) (i := 2) (l := sa) (d := iD s) h3' rfl (ev_ixT (ev_var rfl (.inl (hvt.kt k8))) ev_int rfl) rfl (by rw [h4.length, List.length_map]; omega) fun v'' H7 g9 hv'' hl9 => ?_
                have h5' : H7 sb = some (.lst (us ++ [v'])) := g9.lst upd_same
                have k9 := k8.trans (g9.kt.trans (.mut (o := .lst (vs ++ [v''])) hl9))
                refine ⟨st ++ [s], mk ++ [m], vs ++ [v''], us ++ [v'], some (.int (i : Nat)), some z, some v, e, rfl, ((((g7.trans g8).mut nb' hl8).trans g9).mut na hl9), upd_same, ?_, ?_, ?_⟩
                · rw [List.map_append]
                  exact (h4.kt k9).app (.cons (hv''.kt (.mut hl9)) .nil)
                · rw [upd_ne (Ne.symm hab)]
                  exact h5'
                · rw [List.map_append]
                  exact (h6.kt k9).app (.cons (hv'.kt ((Kt.mut hl8).trans (g9.kt.trans (.mut hl9)))) .nil)
        · subst h2
          rw [List.length_map] at h1
          rw [h1] at kr
          refine s_ret (ev_tup (ea2 (ev_tupleL (ev_var (v := .ref sa) rfl (.ofL h3 h4))) (ev_tupleL (ev_var (v := .ref sb) rfl (.ofL h5 h6)))) rfl (by show 2 ≤ 200000; decide)) fun v H3 g3 hv => kr _ rfl v H3 (g1.trans (g.trans g3)) hv
    · cases el : linesM d with
      | ok ls =>
        rw [el] at hm
        cases hm
      | error m2 =>
        rw [el] at hm
        cases hm
        have er : rdQ d = .error m := by
          unfold rdQ
          rw [el]
          rfl
        rw [er] at ke
        exact ke m rfl
end
end LP

/-! LpW8 -/
set_option maxHeartbeats 4000000
/-! Walks: the law's reader of questions. -/
namespace LP
open PySem PySem.Spec PyProof.Rows L2 RZ
open TL (tl spl joinL)
def fineB (ws : List Str) (i : Nat) : Bool := decide (i < 8) && (decide (5 < ws.length) && decide (ws.take 3 ++ (ws.take 5).drop 4 = [("state" : Str), numT i, ("answer" : Str), ("to" : Str)]))
theorem fine_is (ws : List Str) (i n : Nat) : (if i < 8 then stateM ws i n else none) = if fineB ws i = true then (figM (ws.getD 3 "") 3).bind fun m => (numsM (ws.drop 5) (min n 8 - 1)).bind fun st => if st.length ≤ 5 then some (m, st) else none else none := by
  unfold fineB stateM
  by_cases hi : i < 8
  · rw [if_pos hi, decide_eq_true hi, Bool.true_and]
    have e : (decide (ws.take 3 = [("state" : Str), numT i, ("answer" : Str)]) && (decide (6 ≤ ws.length) && decide (ws.getD 4 "" = "to"))) = (decide (5 < ws.length) && decide (ws.take 3 ++ (ws.take 5).drop 4 = [("state" : Str), numT i, ("answer" : Str), ("to" : Str)])) := by
      match ws with
      | [] => simp
      | [_] => simp
      | [_, _] => simp
      | [_, _, _] => simp
      | [_, _, _, _] => simp
      | [_, _, _, _, _] => simp
      | a :: b :: c :: d :: e :: f :: r =>
        rw [Bool.eq_iff_iff]
        simp
        constructor
        · rintro ⟨⟨h1, h2, h3⟩, h4⟩
          exact ⟨h1, h2, h3, h4⟩
        · rintro ⟨h1, h2, h3, h4⟩
          exact ⟨⟨h1, h2, h3⟩, h4⟩
    rw [e]
  · rw [if_neg hi, decide_eq_false hi, Bool.false_and, if_neg Bool.false_ne_true]
theorem fine_len {ws : List Str} {i : Nat} (h : fineB ws i = true) : 6 ≤ ws.length := by
  unfold fineB at h
  have := of_decide_eq_true (Bool.and_eq_true_iff.mp (Bool.and_eq_true_iff.mp h).2).1
  omega
theorem nums_one {ws : List Str} {m : Int} (h : 6 ≤ ws.length) : numsM ((ws.take 4).drop 3) m = (figM (ws.getD 3 "") m).map fun k => [k] := by
  match ws, h with
  | a :: b :: c :: d :: e :: f :: r, _ =>
    show numsM [d] m = (figM d m).map fun k => [k]
    rw [nums_cons]
    cases figM d m <;> rfl
section
variable {P : Program} {w : World} {K : Fg} {mg : Str → Option Value} {base : Heap} {C : Addr}
def rLawQ : List PyData → PyData → Prop := fun ds r => ∃ d, tOk d ∧ ds = [d] ∧ r = toldD (mapE (rdQ d) qD)
abbrev slaw_read_question : Stmt := topS 44
theorem sclaw_read_question : FnScope ["_law_text", "_law_lines_here", "_law_steps", "_law_marks", "_law_at", "_law_words_here", "_law_fine", "_law_mark", "_law_step"] ["_law_text"] (defScope slaw_read_question) := ⟨rfl, rfl, rfl, by decide +kernel, rfl, by decide +kernel, by decide +kernel⟩
theorem ok_law_read_question (T : Tx K mg C) : CallOk P w K mg base CX0 2 "_law_read_question" ["_law_text"] (SpR K rLawQ) := by
  have c_law_lines := ok_law_lines (P := P) (w := w) (base := base) T
  have c_law_figures := ok_law_figures (P := P) (w := w) (base := base) T
  refine (T.fn 28 _ _ rfl).okR (k := 1) (N := ["_law_text", "_law_lines_here", "_law_steps", "_law_marks", "_law_at", "_law_words_here", "_law_fine", "_law_mark", "_law_step"]) sclaw_read_question (fun _ _ _ _ _ _ us hl => match us, hl with | [_], _ => rfl) (fun ds r h => ?_) fun A outer s H0 E hr => ⟨_, (pss_cons (ps_set (i := 1) sclaw_read_question.nd rfl (.inl rfl) (pe_c c_law_lines (hr.mono (by decide)) pass0 (pa_cons (pv 0) pa_nil)))
  (pss_cons (ps_if (pt_val (pe_callB (r := rIsi K) call_isi (by rfl) T.isi boot_isinstance (pa_cons (pv 1) (pa_cons (pe_bltn (v := .ty "int") (by rfl) T.int boot_int rfl) pa_nil)))) (pss_one (ps_ret (pe_tup (pa_cons pe_str (pa_cons (pv 1) pa_nil))))) pss_nil)
  (pss_cons (ps_par (i := 2) (j := 3) rfl sclaw_read_question.nd rfl rfl (by decide) rfl rfl (pa_cons (pe_lst pa_nil) (pa_cons (pe_lst pa_nil) pa_nil)) rfl)
  (pss_cons (ps_for PassesOwn.never rfl (pi_range1 (by rfl) T.range (pa_cons (pe_callB (r := rLenSq K) call_len_seq (by rfl) T.len boot_len (pa_cons (pv 1) pa_nil)) pa_nil)) (pg_name (i := 4) sclaw_read_question.nd rfl (.inl rfl)) (pss_cons (ps_set (i := 5) sclaw_read_question.nd rfl (.inl rfl) (pe_split (pe_ix (r := rIxL K) ix_list (pv 1) (pv 4) (fun _ _ => rfl)) pe_str))
  (pss_cons (ps_set (i := 6) sclaw_read_question.nd rfl (.inl rfl) (pe_and (pe_cmpR op_lt (pv 4) pe_int (nomark _)) (pe_and (pe_cmpR op_gt (pe_callB (r := rLenSq K) call_len_seq (by rfl) T.len boot_len (pa_cons (pv 5) pa_nil)) pe_int (nomark _)) (pe_one (pe_cmpR (r := rEqD K) (op_eqD hr.units) (pe_op op_cat (pe_slice (r := rSlL K) sl_list (pv 5) po_none (po_some pe_int)) (pe_slice (r := rSlL K) sl_list (pv 5) (po_some pe_int) (po_some pe_int))) (pe_lst (pa_cons pe_str (pa_cons (pe_callTy call_str_int (by rfl) T.str boot_str (pa_cons (pv 4) pa_nil)) (pa_cons pe_str (pa_cons pe_str pa_nil))))) (nomark _))))))
  (pss_cons (ps_par (i := 7) (j := 8) rfl sclaw_read_question.nd rfl rfl (by decide) rfl rfl (pa_cons (pe_c c_law_figures (hr.mono (by decide)) pass0 (pa_cons (pe_slice (r := rSlL K) sl_list (pv 5) (po_some pe_int) (po_some pe_int)) (pa_cons pe_int pa_nil))) (pa_cons (pe_c c_law_figures (hr.mono (by decide)) pass0 (pa_cons (pe_slice (r := rSlL K) sl_list (pv 5) (po_some pe_int) po_none) (pa_cons (pe_callB (call_min2 rfl) (by rfl) T.min boot_min (pa_cons pe_int (pa_cons (pe_op op_sub (pe_callB (r := rLenSq K) call_len_seq (by rfl) T.len boot_len (pa_cons (pv 1) pa_nil)) pe_int) pa_nil))) pa_nil))) pa_nil)) rfl)
  (pss_cons (ps_if (L2.PW.pt (pw_or (pt_not (pt_val (pv 6))) (pw_or (pt_cmpR op_isN (pv 7) pe_non (nomark _)) (pw_or (pt_cmpR op_isN (pv 8) pe_non (nomark _)) (pw_or (pt_cmpR op_gt (pe_callB (r := rLenSq K) call_len_seq (by rfl) T.len boot_len (pa_cons (pv 8) pa_nil)) pe_int (nomark _)) (pw_or1 (L2.PW.pt (pw_and (pt_cmpR (r := rNeD K) (op_neD hr.units) (pv 2) (pe_lst pa_nil) (nomark _)) (pw_and1 (pt_cmpR op_ne (pe_callB (r := rLenSq K) call_len_seq (by rfl) T.len boot_len (pa_cons (pe_ix (r := rIxL K) ix_list (pv 2) pe_int (fun _ _ => rfl)) pa_nil)) (pe_callB (r := rLenSq K) call_len_seq (by rfl) T.len boot_len (pa_cons (pv 8) pa_nil)) (nomark _))))))))))) (pss_one (ps_ret (pe_tup (pa_cons pe_str (pa_cons (pv 4) pa_nil))))) pss_nil)
  (pss_cons (ps_expr (pe_bm PySem.F.plainAttrs_list PySem.F.slot_list_append PySem.F.type_list_append mt_append (pv 2) (pa_cons (pv 8) pa_nil)))
  (pss_one (ps_expr (pe_bm PySem.F.plainAttrs_list PySem.F.slot_list_append PySem.F.type_list_append mt_append (pv 3) (pa_cons (pe_ix (r := rIxT K) ix_tup (pv 7) pe_int (fun _ _ => rfl)) pa_nil))))))))))
  (pss_one (ps_ret (pe_tup (pa_cons (pe_callTy (r := rTupOf K) call_tuple_of (by rfl) T.tuple boot_tuple (pa_cons (pv 2) pa_nil)) (pa_cons (pe_callTy (r := rTupOf K) call_tuple_of (by rfl) T.tuple boot_tuple (pa_cons (pv 3) pa_nil)) pa_nil))))))))), fun H ds r vs h a t D kr kn => ?_⟩
  · obtain ⟨v, _, rfl, _⟩ := h
    rfl
  · obtain ⟨d, hd, rfl, rfl⟩ := h
    obtain ⟨x, rfl, hx⟩ := a.one
    refine q_asg (K := K) (d := linesD (linesM d)) (ev_call (R := rLawLines) t (ea1 (ev_var rfl hx)) ⟨d, hd, rfl, rfl⟩) fun v H1 g1 hv => ?_
    cases el : linesM d with
    | error m =>
      rw [el] at hv
      have er : rdQ d = .error m := by
        unfold rdQ
        rw [el]
        rfl
      rw [er] at kr
      exact q_when (K := K) (b := true) (et_B (ev_isi (ev_var rfl hv) rfl)) (fun _ H2 g2 => s_ret (ev_tup (ea2 ev_str (ev_var rfl (hv.gx g2))) rfl (by show 2 ≤ 200000; decide)) fun u H3 g3 hu => kr u H3 (g1.trans (g2.trans g3)) hu) fun hb => nomatch hb
    | ok ls =>
      rw [el] at hv
      obtain ⟨⟨l5, hls⟩, lne⟩ := lines_ok hd el
      have er : rdQ d = loopM (stepQ ls) ls.length ([], []) := by
        unfold rdQ
        rw [el]
        rfl
      rw [er] at kr
      obtain ⟨al, xs, rfl, e1, e2⟩ := hv.list
      refine q_when (K := K) (b := false) (et_B (ev_isi (ev_var rfl hv) rfl)) (fun hb => nomatch hb) fun _ H1' g1' => ?_
      have g1 := g1.trans g1'
      have e1 := g1'.lst e1
      have e2 := e2.kt g1'.kt
      have hv := hv.gx g1'
      refine s_parNN (K := K) (D := { D with nx := _ }) fun sa sb H2 g2 na nb' hab ea eb => ?_
      refine s_for (K := K) (srk_range1 (j := ls.length) (ev_is (ev_lenL (ds := ls.map PyData.str) (ev_var rfl (hv.gx g2)) (.inl rfl)) (by rw [List.length_map])) (by omega)) fun H3 g3 => ⟨fun i σ' H' => ∃ st mk vs us o4 o5 o6 o7 o8, loopM (stepQ ls) i ([], []) = .ok (st, mk) ∧ σ' = [some x, some (.ref al), some (.ref sa), some (.ref sb), o4, o5, o6, o7, o8] ∧ Gx K H1' H' ∧ Kt H3 H' ∧ H' sa = some (.lst vs) ∧ TvAll H' vs (st.map iD) ∧ H' sb = some (.lst us) ∧ TvAll H' us (mk.map .int),
        ⟨[], [], [], [], none, none, none, none, none, rfl, rfl, g2.trans g3, .refl, g3.lst ea, .nil, g3.lst eb, .nil⟩, fun i σ' H' hi ⟨_, _, _, _, _, _, _, _, _, _, _, _, k, _⟩ => k, fun i z σ' H' H'' hi ⟨st, mk, vs, us, o4, o5, o6, o7, o8, h1, h2, g, kk, h3, h4, h5, h6⟩ g4 hz => ?_, fun σ' H' ⟨st, mk, vs, us, o4, o5, o6, o7, o8, h1, h2, g, kk, h3, h4, h5, h6⟩ => ?_⟩
      · subst h2
        subst hz
        obtain ⟨ln, hln⟩ : ∃ ln, ls[i]? = some ln := ⟨ls[i], List.getElem?_eq_getElem hi⟩
        have egd : ls.getD i "" = ln := by rw [List.getD_eq_getElem?_getD, hln]; rfl
        obtain ⟨n1, n2⟩ := hls ln (List.mem_of_getElem? hln)
        have gg := g.trans g4
        have kk := kk.trans g4.kt
        have tt : GT K H'' := (g1.trans gg).gt t
        obtain ⟨len1, len2⟩ := stepQ_len h1
        have len1 : st.length = i := len1
        have len2 : mk.length = i := len2
        have wok := words_ok n1 n2
        have hi5 : i ≤ 100000 := by omega
        refine q_asgN (K := K) (ds := (wordsOf ln).map PyData.str) (en_split (a := ln) (b := spc) (ev_ixL (ev_var (v := .ref al) rfl (.ofL (gg.lst e1) (e2.kt gg.kt))) (ev_var (v := .int (i : Nat)) rfl (.int _)) (atI_nat (by rw [List.getElem?_map, hln]; rfl))) ev_str (by decide +kernel) (by omega)) fun wl ys H5 g5 nw ew tw => ?_
        have hw : Dv H5 (.ref wl) (strsD (wordsOf ln)) := .ofL ew tw
        generalize hws : wordsOf ln = ws at hw wok
        refine q_asg (K := K) (d := .bool (fineB ws i)) (ev_andV (ev_is (ev_lt (i := (i : Nat)) (ev_var (v := .int (i : Nat)) rfl (.int _)) ev_int) (congrArg PyData.bool (decide_eq_decide.mpr (by omega)))) fun _ => ev_andV (ev_is (ev_gt (ev_lenL (ds := ws.map PyData.str) (ev_var rfl hw) (.inl rfl)) ev_int) (by rw [List.length_map]; exact congrArg PyData.bool (decide_eq_decide.mpr (by omega)))) fun _ =>
          ev_weq (us := [("state" : Str), numT i, ("answer" : Str), ("to" : Str)]) (ev_is (En.ev (en_cat (en_take (ev_var rfl hw) 3 rfl) (en_mid (ev_var rfl hw) 4 5 rfl rfl) (by have := wok.1; simp; omega))) (by rw [← List.map_append]; rfl)) (En.ev (en_lst (ea_cons ev_str (ea3 (ev_strI (ev_var (v := .int (i : Nat)) rfl (.int _)) (num_small hi5)) ev_str ev_str)) rfl (by show 4 ≤ 200000; decide))) ?_ ?_) fun vf H6 g6 hf => ?_
        · rw [List.all_append, (wok.take 3).ascii, ((wok.take 5).drop 4).ascii]
          rfl
        · simp only [List.all_cons, numT_ascii, List.all_nil, Bool.and_true]
          decide +kernel
        · have hw6 := hw.gx g6
          have tt6 := (g5.trans g6).gt tt
          have hmin : ((if (↑(ls.length : Nat) : Int) - 1 < 7 then (↑(ls.length : Nat) : Int) - 1 else 7) : Int) = (min ls.length 8 : Nat) - 1 := by split <;> omega
          refine s_par (K := K) (D := { D with nx := _ }) (d := numsD (numsM ((ws.take 4).drop 3) 3)) (e := numsD (numsM (ws.drop 5) (min ls.length 8 - 1))) (ev_call (R := rNums) tt6 (ea2 (En.ev (en_mid (ev_var rfl hw6) 3 4 rfl rfl)) ev_int) ⟨_, 3, (wok.take 4).drop 3, rfl, rfl⟩) (ev_call (R := rNums) tt6 (ea2 (En.ev (en_drop (ev_var rfl hw6) 5 rfl)) (ev_is (ev_min ev_int (ev_sub (ev_is (ev_lenL (ds := ls.map PyData.str) (ev_var (v := .ref al) rfl (.ofL ((gg.trans (g5.trans g6)).lst e1) (e2.kt (gg.trans (g5.trans g6)).kt))) (.inl rfl)) (by rw [List.length_map])) ev_int)) (congrArg PyData.int hmin))) ⟨ws.drop 5, min ls.length 8 - 1, wok.drop 5, rfl, rfl⟩) fun v u H7 g7 hv7 hu7 => ?_
          have g57 := g5.trans (g6.trans g7)
          have h3 := (g4.trans g57).lst h3
          have h5 := (g4.trans g57).lst h5
          have h4 := h4.kt (g4.trans g57).kt
          have h6 := h6.kt (g4.trans g57).kt
          have g8 := gg.trans g57
          have kk := kk.trans g57.kt
          have hf := hf.gx g7
          have lineR : ∀ (e : loopM (stepQ ls) ls.length ([], []) = .error (i : Nat)) (H8 : Hp), Gx K H7 H8 → ∀ (D' : Ends), D'.rt = D.rt → tRet (tTup (tCons (tC (.str "line")) (tCons (tVar 4) tNil))) D' [some x, some (.ref al), some (.ref sa), some (.ref sb), some (.int (i : Nat)), some (.ref wl), some vf, some v, some u] H8 := fun e H8 g9 D' hD => by
            rw [e] at kr
            refine s_ret (K := K) (ev_tup (ea2 ev_str (ev_var (v := .int (i : Nat)) rfl (.int _))) rfl (by show 2 ≤ 200000; decide)) fun u' H9 g10 hu' => ?_
            rw [hD]
            exact kr u' H9 (g1.trans (g8.trans (g9.trans g10))) hu'
          have opt := fine_is ws i ls.length
          cases hb : fineB ws i with
          | false =>
            rw [hb] at hf opt
            rw [if_neg Bool.false_ne_true] at opt
            have e := loop_fail h1 (stepQ_none (a := (st, mk)) (by rw [egd, hws]; exact opt)) hi
            exact q_when (K := K) (b := true) (et_is (et_or (b := false) (et_not (et_B (ev_var rfl hf))) fun hb => nomatch hb) rfl) (fun _ H8 g9 => lineR e H8 g9 _ rfl) fun hb => nomatch hb
          | true =>
            have l6 := fine_len hb
            rw [hb] at hf opt
            rw [if_pos rfl] at opt
            rw [nums_one l6] at hv7
            cases ef : figM (ws.getD 3 "") 3 with
            | none =>
              rw [ef] at opt hv7
              have e := loop_fail h1 (stepQ_none (a := (st, mk)) (by rw [egd, hws]; exact opt)) hi
              exact q_when (K := K) (b := true) (et_is (et_or (b := true) (et_not (et_B (ev_var rfl hf))) fun _ => et_is (et_or (b := false) (et_test (ev_isN (ev_var rfl hv7))) fun hb => nomatch hb) rfl) rfl) (fun _ H8 g9 => lineR e H8 g9 _ rfl) fun hb => nomatch hb
            | some m =>
              rw [ef] at opt hv7
              have hv7 : Dv H7 v (iD [m]) := hv7
              cases es : numsM (ws.drop 5) (min ls.length 8 - 1) with
              | none =>
                rw [es] at opt hu7
                have e := loop_fail h1 (stepQ_none (a := (st, mk)) (by rw [egd, hws]; exact opt)) hi
                exact q_when (K := K) (b := true) (et_is (et_or (b := true) (et_not (et_B (ev_var rfl hf))) fun _ => et_is (et_or (b := true) (et_test (ev_isN (ev_var rfl hv7))) fun _ => et_is (et_or (b := false) (et_test (ev_isN (ev_var rfl hu7))) fun hb => nomatch hb) rfl) rfl) rfl) (fun _ H8 g9 => lineR e H8 g9 _ rfl) fun hb => nomatch hb
              | some s =>
                rw [es] at opt hu7
                have hu7 : Dv H7 u (iD s) := hu7
                have opt : (if i < 8 then stateM ws i ls.length else none) = if s.length ≤ 5 then some (m, s) else none := opt
                by_cases l5' : s.length ≤ 5
                · rw [if_pos l5'] at opt
                  have es := stepQ_some (a := (st, mk)) (ls := ls) (i := i) (m := m) (s := s) (by rw [egd, hws]; exact opt)
                  have hs : Dv H7 (.ref sa) (.list (st.map iD)) := .ofL h3 h4
                  refine q_when (K := K) (b := decide (st ≠ [] ∧ s.length ≠ (st.headD []).length)) (et_is (et_or (b := decide (st ≠ [] ∧ s.length ≠ (st.headD []).length)) (et_not (et_B (ev_var rfl hf))) fun _ => et_is (et_or (b := decide (st ≠ [] ∧ s.length ≠ (st.headD []).length)) (et_test (ev_isN (ev_var rfl hv7))) fun _ => et_is (et_or (b := decide (st ≠ [] ∧ s.length ≠ (st.headD []).length)) (et_test (ev_isN (ev_var rfl hu7))) fun _ => et_is (et_or (b := decide (st ≠ [] ∧ s.length ≠ (st.headD []).length)) (et_is (b := false) (et_test (ev_gt (ev_lenL (ds := s.map PyData.int) (ev_var rfl hu7) (.inr rfl)) ev_int)) (by rw [List.length_map]; exact decide_eq_false (by omega))) fun _ =>
                    et_is (et_and (b := !decide (s.length = (st.headD []).length)) (et_test (ev_neD (ev_var rfl hs) (En.ev (en_lst ea_nil rfl (by decide))) (shaped_tups st) shaped_nil)) fun hb => et_is (et_test (ev_neI (ev_lenL (ds := (st.headD []).map PyData.int) (ev_ixL (ev_var rfl hs) ev_int (atI_nat (i := 0) (head0 ?_))) (.inr rfl)) (ev_lenL (ds := s.map PyData.int) (ev_var rfl hu7) (.inr rfl)))) ?_) ?_) rfl) rfl) rfl) rfl) (fun hb H8 g9 => ?_) fun hb H8 g9 => ?_
                  · rintro rfl
                    cases hb
                  · rw [List.length_map, List.length_map]
                    congr 1
                    exact decide_eq_decide.mpr (by omega)
                  · rw [eqv_nil]
                    cases st with
                    | nil => rfl
                    | cons a b =>
                      show (true && !decide (s.length = a.length)) = decide (a :: b ≠ [] ∧ s.length ≠ a.length)
                      simp
                  · exact lineR (loop_fail h1 (es.trans (if_pos (of_decide_eq_true hb))) hi) H8 g9 _ rfl
                  · have e := loop_step h1 (es.trans (if_neg (of_decide_eq_false hb)))
                    have h3 := g9.lst h3
                    have h5 := g9.lst h5
                    have h4 := h4.kt g9.kt
                    have h6 := h6.kt g9.kt
                    have hu := hu7.gx g9
                    have hvt : Tv H8 v (iD [m]) := (hv7.gx g9).tv rfl
                    refine s_app (K := K) (D := { D with nx := _ }) (i := 2) (l := sa) (d := iD s) h3 rfl (ev_var rfl hu) rfl (by rw [h4.length, List.length_map]; omega) fun v' H9 g10 hv' hl9 => ?_
                    have k9 : Kt H8 (upd H9 sa (.lst (vs ++ [v']))) := g10.kt.trans (.mut hl9)
                    have h5' : (upd H9 sa (.lst (vs ++ [v']))) sb = some (.lst us) := by
                      rw [upd_ne (Ne.symm hab)]
                      exact g10.lst h5
                    refine s_app (K := K) (i := 3) (l := sb) (d := .int m) h5' rfl (ev_ixT (ev_var rfl (.inl (hvt.kt k9))) ev_int rfl) rfl (by rw [h6.length, List.length_map]; omega) fun v'' Ha g11 hv'' hla => ?_
                    have h3' : Ha sa = some (.lst (vs ++ [v'])) := g11.lst upd_same
                    have ka := k9.trans (g11.kt.trans (.mut (o := .lst (us ++ [v''])) hla))
                    refine ⟨st ++ [s], mk ++ [m], vs ++ [v'], us ++ [v''], some (.int (i : Nat)), some (.ref wl), some vf, some v, some u, e, rfl, ((((g8.trans (g9.trans g10)).mut na hl9).trans g11).mut nb' hla), kk.trans (g9.kt.trans ka), ?_, ?_, upd_same, ?_⟩
                    · rw [upd_ne hab]
                      exact h3'
                    · rw [List.map_append]
                      exact (h4.kt ka).app (.cons (hv'.kt ((Kt.mut hl9).trans (g11.kt.trans (.mut hla)))) .nil)
                    · rw [List.map_append]
                      exact (h6.kt ka).app (.cons (hv''.kt (.mut hla)) .nil)
                · rw [if_neg l5'] at opt
                  have e := loop_fail h1 (stepQ_none (a := (st, mk)) (by rw [egd, hws]; exact opt)) hi
                  exact q_when (K := K) (b := true) (et_is (et_or (b := true) (et_not (et_B (ev_var rfl hf))) fun _ => et_is (et_or (b := true) (et_test (ev_isN (ev_var rfl hv7))) fun _ => et_is (et_or (b := true) (et_test (ev_isN (ev_var rfl hu7))) fun _ => et_is (et_or (b := false) (et_is (b := true) (et_test (ev_gt (ev_lenL (ds := s.map PyData.int) (ev_var rfl hu7) (.inr rfl)) ev_int)) (by rw [List.length_map]; exact decide_eq_true (by omega))) fun hb => nomatch hb) rfl) rfl) rfl) rfl) (fun _ H8 g9 => lineR e H8 g9 _ rfl) fun hb => nomatch hb
      · subst h2
        rw [h1] at kr
        refine s_ret (ev_tup (ea2 (ev_tupleL (ev_var (v := .ref sa) rfl (.ofL h3 h4))) (ev_tupleL (ev_var (v := .ref sb) rfl (.ofL h5 h6)))) rfl (by show 2 ≤ 200000; decide)) fun v H4 g4 hv => kr v H4 (g1.trans (g.trans g4)) hv
end
end LP

/-! LpW9 -/
set_option maxHeartbeats 4000000
/-! Walks: the readers of plans. -/
namespace LP
open PySem PySem.Spec PyProof.Rows L2 RZ
open TL (tl spl joinL)
theorem stepP_none {ls : List Str} {m : Int} {i : Nat} {a : List (List Int)} (h : (if (wordsOf (ls.getD (i + 1) "")).take 3 = [("letter" : Str), numT i, ("to" : Str)] then numsM ((wordsOf (ls.getD (i + 1) "")).drop 3) (m - 1) else none) = none) : stepP ls m i a = .error (i + 1 : Nat) := by
  unfold stepP
  rw [h]
theorem stepP_some {ls : List Str} {m : Int} {i : Nat} {a : List (List Int)} {lot : List Int} (h : (if (wordsOf (ls.getD (i + 1) "")).take 3 = [("letter" : Str), numT i, ("to" : Str)] then numsM ((wordsOf (ls.getD (i + 1) "")).drop 3) (m - 1) else none) = some lot) :
    stepP ls m i a = if (decide (5 < i + 1) || !isLot m lot) = true then .error (i + 1 : Nat) else .ok (a ++ [lot]) := by
  unfold stepP
  rw [h]
theorem stepP_len {ls : List Str} {m : Int} : ∀ {i : Nat} {a : List (List Int)}, loopM (stepP ls m) i [] = .ok a → a.length = i
  | 0, a, h => by
    cases h
    rfl
  | i + 1, a, h => by
    obtain ⟨b, e, h⟩ := loop_inv h
    have h1 := stepP_len e
    cases q : (if (wordsOf (ls.getD (i + 1) "")).take 3 = [("letter" : Str), numT i, ("to" : Str)] then numsM ((wordsOf (ls.getD (i + 1) "")).drop 3) (m - 1) else none) with
    | none =>
      rw [stepP_none q] at h
      cases h
    | some lot =>
      rw [stepP_some q] at h
      split at h
      · cases h
      · cases h
        simp [h1]
theorem words_ne (l : Str) : 0 < (wordsOf l).length := List.length_pos_iff.mpr (split_ne tl_spc (by decide +kernel))
theorem head_some {l : Str} {m : Int} (h : headM l = some m) : (wordsOf l).getD 0 "" = "messengers" ∧ (wordsOf l).length = 2 ∧ figM ((wordsOf l).getD 1 "") 7 = some m ∧ m ≠ 0 := by
  unfold headM at h
  split at h
  · rename_i hc
    obtain ⟨h1, h2⟩ := Bool.and_eq_true_iff.mp hc
    cases e : figM ((wordsOf l).getD 1 "") 7 with
    | none =>
      rw [e] at h
      cases h
    | some k =>
      rw [e] at h
      have h : (if k = 0 then none else some k) = some m := h
      split at h
      · cases h
      · rename_i h0
        cases h
        exact ⟨of_decide_eq_true h1, of_decide_eq_true h2, rfl, h0⟩
  · cases h
def headO (l : Str) : Option Int := if decide ((wordsOf l).getD 0 "" = "messengers") && decide ((wordsOf l).length = 2) then figM ((wordsOf l).getD 1 "") 7 else none
theorem head_O (l : Str) : headM l = (headO l).bind fun k => if k = 0 then none else some k := by
  unfold headM headO
  split <;> rfl
theorem rdP_none {d : PyData} {ls : List Str} (el : linesM d = .ok ls) (h : headM (ls.headD "") = none) : rdP d = .error 0 := by
  unfold rdP
  rw [el]
  simp only [bindE]
  rw [h]
theorem rdP_some {d : PyData} {ls : List Str} {m : Int} (el : linesM d = .ok ls) (h : headM (ls.headD "") = some m) : rdP d = bindE (loopM (stepP ls m) (ls.length - 1) []) fun told => if told = [] then .error 1 else .ok (m, told) := by
  unfold rdP
  rw [el]
  simp only [bindE]
  rw [h]
section
variable {P : Program} {w : World} {K : Fg} {mg : Str → Option Value} {base : Heap} {C : Addr}
abbrev pE (r : Except Int (Int × List (List Int))) : Except Int PyData := mapE r pD
def rRdP : List PyData → Except Int PyData → Prop := fun ds r => ∃ d, tOk d ∧ ds = [d] ∧ r = pE (rdP d)
abbrev sread_plan : Stmt := topS 30
theorem scread_plan : FnScope ["text", "lines", "words", "messengers", "told", "at", "lot"] ["text"] (defScope sread_plan) := ⟨rfl, rfl, rfl, by decide +kernel, rfl, by decide +kernel, by decide +kernel⟩
theorem ok_read_plan (T : Tx K mg C) (B : Tbs K mg base) : CallOk P w K mg base (L2.CX P w) 4 "read_plan" ["text"] (SpX K C rRdP) := by
  have clines_of := ok_lines_of (P := P) (w := w) (base := base) T
  have cfigure_of := ok_figure_of (P := P) (w := w) (base := base) T
  have cnumbers_of := ok_numbers_of (P := P) (w := w) (base := base) T
  have cis_lot := ok_is_lot (P := P) (w := w) (base := base) T B
  refine (T.fn 15 _ _ rfl).okX (k := 3) (N := ["text", "lines", "words", "messengers", "told", "at", "lot"]) scread_plan (fun _ _ _ _ _ _ us hl => match us, hl with | [_], _ => rfl) (fun ds r h => ?_) fun A outer s H0 E hr => ⟨_, (pss_cons (ps_set (i := 1) scread_plan.nd rfl (.inl rfl) (pe_cS clines_of (hr.mono (by decide)) (fun σ => passAt (W := fun cls d _ H => E cls d H) (takes_of rfl rfl rfl rfl) σ) (pa_cons (pv 0) pa_nil)))
  (pss_cons (ps_set (i := 2) scread_plan.nd rfl (.inl rfl) (pe_split (pe_ix (r := rIxL K) ix_list (pv 1) pe_int (fun _ _ => rfl)) pe_str))
  (pss_cons (ps_set (i := 3) scread_plan.nd rfl (.inl rfl) (pe_ifExp (L2.PW.pt (pw_and (pt_cmpR op_eq (pe_ix (r := rIxL K) ix_list (pv 2) pe_int (fun _ _ => rfl)) pe_str (nomark _)) (pw_and1 (pt_cmpR op_eq (pe_callB (r := rLenSq K) call_len_seq (by rfl) T.len boot_len (pa_cons (pv 2) pa_nil)) pe_int (nomark _))))) (pe_c cfigure_of (hr.mono (by decide)) pass0 (pa_cons (pe_ix (r := rIxL K) ix_list (pv 2) pe_int (fun _ _ => rfl)) (pa_cons (pe_gi T.mes) pa_nil))) pe_non))
  (pss_cons (ps_if (pt_not (pt_truth (pv 3) (fun _ => rfl))) (pss_one (ps_badline T.bad rfl (hr.mono (by decide)) (takes_of rfl rfl rfl rfl) (pa_cons pe_int pa_nil))) pss_nil)
  (pss_cons (ps_set (i := 4) scread_plan.nd rfl (.inl rfl) (pe_lst pa_nil))
  (pss_cons (ps_for (passes_of rfl) rfl (pi_range2 (by rfl) T.range (pa_cons pe_int (pa_cons (pe_callB (r := rLenSq K) call_len_seq (by rfl) T.len boot_len (pa_cons (pv 1) pa_nil)) pa_nil))) (pg_name (i := 5) scread_plan.nd rfl (.inl rfl)) (pss_cons (ps_set (i := 2) scread_plan.nd rfl (.inl rfl) (pe_split (pe_ix (r := rIxL K) ix_list (pv 1) (pv 5) (fun _ _ => rfl)) pe_str))
  (pss_cons (ps_set (i := 6) scread_plan.nd rfl (.inl rfl) (pe_ifExp (pt_cmpR (r := rEqD K) (op_eqD hr.units) (pe_slice (r := rSlL K) sl_list (pv 2) po_none (po_some pe_int)) (pe_lst (pa_cons pe_str (pa_cons (pe_callTy call_str_int (by rfl) T.str boot_str (pa_cons (pe_op op_sub (pv 5) pe_int) pa_nil)) (pa_cons pe_str pa_nil)))) (nomark _)) (pe_c cnumbers_of (hr.mono (by decide)) pass0 (pa_cons (pe_slice (r := rSlL K) sl_list (pv 2) (po_some pe_int) po_none) (pa_cons (pe_op op_sub (pv 3) pe_int) pa_nil))) pe_non))
  (pss_cons (ps_if (L2.PW.pt (pw_or (pt_cmpR op_gt (pv 5) (pe_gi T.let_) (nomark _)) (pw_or (pt_cmpR op_isN (pv 6) pe_non (nomark _)) (pw_or1 (pt_not (pt_val (pe_c cis_lot (hr.mono (by decide)) pass0 (pa_cons (pv 3) (pa_cons (pv 6) pa_nil))))))))) (pss_one (ps_badline T.bad rfl (hr.mono (by decide)) (takes_of rfl rfl rfl rfl) (pa_cons (pv 5) pa_nil))) pss_nil)
  (pss_one (ps_expr (pe_bm PySem.F.plainAttrs_list PySem.F.slot_list_append PySem.F.type_list_append mt_append (pv 4) (pa_cons (pv 6) pa_nil))))))))
  (pss_cons (ps_if (pt_not (pt_truth (pv 4) (fun _ => rfl))) (pss_one (ps_badline T.bad rfl (hr.mono (by decide)) (takes_of rfl rfl rfl rfl) (pa_cons pe_int pa_nil))) pss_nil)
  (pss_one (ps_ret (pe_tup (pa_cons (pv 3) (pa_cons (pe_callTy (r := rTupOf K) call_tuple_of (by rfl) T.tuple boot_tuple (pa_cons (pv 4) pa_nil)) pa_nil)))))))))))), fun H ds r vs h a t D kr ke => ?_⟩
  · obtain ⟨v, _, rfl, _⟩ := h
    rfl
  · obtain ⟨d, hd, rfl, rfl⟩ := h
    obtain ⟨x, rfl, hx⟩ := a.one
    refine q_asgX (K := K) (R := rLines) (r := mapE (linesM d) strsD) t (ea1 (ev_var rfl hx)) ⟨d, hd, rfl, rfl⟩ (fun dl hdl v H1 g1 hv => ?_) fun m hm => ?_
    · cases el : linesM d with
      | error m =>
        rw [el] at hdl
        cases hdl
      | ok ls =>
        rw [el] at hdl
        cases hdl
        obtain ⟨⟨l5, hls⟩, lne⟩ := lines_ok hd el
        obtain ⟨l0, lr, rfl⟩ : ∃ a b, ls = a :: b := by
          cases ls with
          | nil => exact absurd rfl lne
          | cons a b => exact ⟨a, b, rfl⟩
        obtain ⟨z1, z2⟩ := hls l0 List.mem_cons_self
        obtain ⟨al, xs, rfl, e1, e2⟩ := hv.list
        refine q_asgN (K := K) (ds := (wordsOf l0).map PyData.str) (en_split (a := l0) (b := spc) (ev_ixL (ev_var rfl hv) ev_int (atI_nat (i := 0) rfl)) ev_str (by decide +kernel) (by omega)) fun w0 y0 H2 g2 _ ew tw => ?_
        have hw : Dv H2 (.ref w0) (strsD (wordsOf l0)) := .ofL ew tw
        have wok := words_ok z1 z2
        have wne := words_ne l0
        have t2 := (g1.trans g2).gt t
        refine q_asg (K := K) (d := figD (headO l0)) (ev_if (b := decide ((wordsOf l0).getD 0 "" = "messengers") && decide ((wordsOf l0).length = 2)) (et_and (et_test (ev_eqS (ev_ixL (ev_var rfl hw) ev_int (atI_nat (i := 0) (getD_str wne))) ev_str)) fun _ => et_is (et_test (ev_eqI (ev_lenL (ds := (wordsOf l0).map PyData.str) (ev_var rfl hw) (.inl rfl)) ev_int)) (by rw [List.length_map]; exact decide_eq_decide.mpr (by omega))) (fun hb => ?_) fun hb => ?_) fun vm H3 g3 hm => ?_
        · have h2 : (wordsOf l0).length = 2 := of_decide_eq_true (Bool.and_eq_true_iff.mp hb).2
          have e : headO l0 = figM ((wordsOf l0).getD 1 "") 7 := if_pos hb
          rw [e]
          have hl1 : ((wordsOf l0).getD 1 "").length ≤ 3000 := by
            refine (wok.2 _ ?_).1
            rw [List.getD_eq_getElem?_getD, List.getElem?_eq_getElem (by omega)]
            exact List.getElem_mem _
          exact ev_call (R := rFig) t2 (ea2 (ev_ixL (ev_var rfl hw) ev_int (atI_nat (i := 1) (getD_str (by omega)))) ev_int) ⟨_, 7, hl1, rfl, rfl⟩
        · have e : headO l0 = none := if_neg (by rw [hb]; exact Bool.false_ne_true)
          rw [e]
          exact ev_non
        · have hO := head_O l0
          cases hh : headM l0 with
          | none =>
            have er : rdP d = .error 0 := by
              exact rdP_none el hh
            rw [er] at ke
            refine q_when (K := K) (b := true) (et_is (et_not (et_tru (ev_var rfl hm) fun s e => ?_)) ?_) (fun _ H4 g4 => s_raise (D := D) ev_int ((ke 0 rfl).gx (g1.trans (g2.trans (g3.trans g4))))) fun hb => nomatch hb
            · cases q : headO l0 <;> rw [q] at e <;> cases e
            · rw [hh] at hO
              cases q : headO l0 with
              | none => rfl
              | some k =>
                rw [q] at hO
                have hO : none = (if k = 0 then none else some k) := hO
                split at hO
                · rename_i h0
                  subst h0
                  rfl
                · cases hO
          | some m =>
            obtain ⟨hw0, hw2, hf, hm0⟩ := head_some hh
            have eO : headO l0 = some m := by
              unfold headO
              rw [hw0, hw2]
              exact hf
            obtain ⟨m1, m2, m3⟩ := fig_range hf
            rw [eO] at hm
            have hm : Dv H3 vm (.int m) := hm
            have er : rdP d = bindE (loopM (stepP (l0 :: lr) m) lr.length []) fun told => if told = [] then .error 1 else .ok (m, told) := by
              exact rdP_some el hh
            rw [er] at kr ke
            refine q_when (K := K) (b := false) (et_is (et_not (et_tru (d := .int m) (ev_var rfl hm) fun s e => nomatch e)) (by
              show (!(m != 0)) = false
              simp [hm0])) (fun hb => nomatch hb) fun _ H4 g4 => ?_
            refine q_asgN (K := K) (ds := []) (en_lst ea_nil rfl (by decide)) fun tl0 us0 H5 g5 nt et tt' => ?_
            cases tt'
            have g24 := g2.trans (g3.trans g4)
            have g25 := g24.trans g5
            have hm5 := (hm.gx g4).gx g5
            have e14 := g24.lst e1
            have e24 := e2.kt g24.kt
            have hm4 := hm.gx g4
            refine s_for (K := K) (D := { D with nx := _ }) (srk_range2 (lo := 1) (j := (l0 :: lr).length) ev_int (ev_is (ev_lenL (ds := (l0 :: lr).map PyData.str) (ev_var rfl (hv.gx g25)) (.inl rfl)) (by rw [List.length_map])) (by omega) (by omega)) fun H6 g6 => ⟨fun i σ' H' => ∃ told vs o2 o5 o6, loopM (stepP (l0 :: lr) m) i [] = .ok told ∧ σ' = [some x, some (.ref al), o2, some vm, some (.ref tl0), o5, o6] ∧ Gx K H4 H' ∧ Kt H6 H' ∧ H' tl0 = some (.lst vs) ∧ TvAll H' vs (told.map iD),
              ⟨[], [], some (.ref w0), none, none, rfl, rfl, g5.trans g6, .refl, g6.lst et, .nil⟩, fun i σ' H' hi ⟨_, _, _, _, _, _, _, _, k, _⟩ => k, fun i z σ' H' H'' hi ⟨told, vs, o2, o5, o6, h1, h2, g, kk, h3, h4⟩ g7 hz => ?_, fun σ' H' ⟨told, vs, o2, o5, o6, h1, h2, g, kk, h3, h4⟩ => ?_⟩
            · subst h2
              subst hz
              have hi' : i < lr.length := by simpa using hi
              have hi1 : i + 1 < (l0 :: lr).length := by simp; omega
              have eat : ((1 + i : Nat) : Int) - 1 = (i : Nat) := by omega
              obtain ⟨ln, hln⟩ : ∃ ln, (l0 :: lr)[i + 1]? = some ln := ⟨_, List.getElem?_eq_getElem hi1⟩
              have egd : (l0 :: lr).getD (i + 1) "" = ln := by rw [List.getD_eq_getElem?_getD, hln]; rfl
              obtain ⟨n1, n2⟩ := hls ln (List.mem_of_getElem? hln)
              have gg := g.trans g7
              have kk := kk.trans g7.kt
              have len1 := stepP_len h1
              have wok := words_ok n1 n2
              refine q_asgN (K := K) (ds := (wordsOf ln).map PyData.str) (en_split (a := ln) (b := spc) (ev_ixL (ev_var (v := .ref al) rfl (.ofL (gg.lst e14) (e24.kt gg.kt))) (ev_var (v := .int ((1 + i : Nat) : Int)) rfl (.int _)) (atI_nat (by rw [List.getElem?_map, Nat.add_comm, hln]; rfl))) ev_str (by decide +kernel) (by omega)) fun wl ys H8 g8 nw ew tw => ?_
              have hw : Dv H8 (.ref wl) (strsD (wordsOf ln)) := .ofL ew tw
              have tt8 : GT K H8 := ((((g1.trans g24).trans gg).trans g8).gt t)
              generalize hws : wordsOf ln = ws at hw wok
              refine q_asg (K := K) (d := numsD (if ws.take 3 = [("letter" : Str), numT i, ("to" : Str)] then numsM (ws.drop 3) (m - 1) else none)) (ev_if (b := decide (ws.take 3 = [("letter" : Str), numT i, ("to" : Str)])) (et_test (ev_weq (us := [("letter" : Str), numT i, ("to" : Str)]) (En.ev (en_take (ev_var rfl hw) 3 rfl)) (En.ev (en_lst (ea3 ev_str (ev_strI (ev_is (ev_sub (ev_var (v := .int ((1 + i : Nat) : Int)) rfl (.int _)) ev_int) (congrArg PyData.int eat)) (num_small (by omega))) ev_str) rfl (by show 3 ≤ 200000; decide))) (wok.take 3).ascii (ascii3 (by decide +kernel) (numT_ascii i) (by decide +kernel)))) (fun hb => ?_) fun hb => ?_) fun vl H9 g9 hl => ?_
              · rw [if_pos (of_decide_eq_true hb)]
                exact ev_call (R := rNums) tt8 (ea2 (En.ev (en_drop (ev_var rfl hw) 3 rfl)) (ev_sub (ev_var rfl ((hm4.gx gg).gx g8)) ev_int)) ⟨ws.drop 3, m - 1, wok.drop 3, rfl, rfl⟩
              · rw [if_neg (of_decide_eq_false hb)]
                exact ev_non
              · have g89 := g8.trans g9
                have h3 := (g7.trans g89).lst h3
                have h4 := h4.kt (g7.trans g89).kt
                have ga := gg.trans g89
                have kk := kk.trans g89.kt
                have hm9 := hm4.gx ga
                have raise : ∀ (e : loopM (stepP (l0 :: lr) m) lr.length [] = .error ((i + 1 : Nat) : Int)) (Hb : Hp), Gx K H9 Hb → Errs K C E Hb ((1 + i : Nat) : Int) := fun e Hb gb => by
                  rw [e] at ke
                  have := ((ke _ rfl).gx (((g1.trans g24).trans ga).trans gb))
                  rw [Nat.add_comm]
                  exact this
                have q5 : decide ((5 : Int) < ((1 + i : Nat) : Int)) = decide (5 < i + 1) := decide_eq_decide.mpr (by omega)
                cases q : (if ws.take 3 = [("letter" : Str), numT i, ("to" : Str)] then numsM (ws.drop 3) (m - 1) else none) with
                | none =>
                  rw [q] at hl
                  have e := loop_fail h1 (stepP_none (a := told) (by rw [egd, hws]; exact q)) hi'
                  refine q_when (K := K) (b := true) (et_is (et_or (b := true) (et_test (ev_gt (ev_var (v := .int ((1 + i : Nat) : Int)) rfl (.int _)) ev_int)) fun _ => et_is (et_or (b := false) (et_test (ev_isN (ev_var rfl hl))) fun hb => nomatch hb) rfl) (by simp)) (fun _ Hb gb => s_raise (D := D) (ev_var (v := .int ((1 + i : Nat) : Int)) rfl (.int _)) (raise e Hb gb)) fun hb => nomatch hb
                | some lot =>
                  rw [q] at hl
                  have hl : Dv H9 vl (iD lot) := hl
                  have es := stepP_some (a := told) (ls := l0 :: lr) (m := m) (i := i) (lot := lot) (by rw [egd, hws]; exact q)
                  refine q_when (K := K) (b := decide (5 < i + 1) || !isLot m lot) (et_is (et_or (b := !isLot m lot) (et_test (ev_gt (ev_var (v := .int ((1 + i : Nat) : Int)) rfl (.int _)) ev_int)) fun _ => et_is (et_or (b := !isLot m lot) (et_test (ev_isN (ev_var rfl hl))) fun _ => et_not (et_B (ev_call (R := rLot) (d := .bool (isLot m lot)) (g9.gt tt8) (ea2 (ev_var rfl hm9) (ev_var rfl hl)) ⟨m, lot, rfl, rfl⟩))) rfl) (by rw [q5])) (fun hb Hb gb => ?_) fun hb Hb gb => ?_
                  · exact s_raise (D := D) (ev_var (v := .int ((1 + i : Nat) : Int)) rfl (.int _)) (raise (loop_fail h1 (es.trans (if_pos hb)) hi') Hb gb)
                  · have e := loop_step h1 (es.trans (if_neg (by rw [hb]; exact Bool.false_ne_true)))
                    have h3 := gb.lst h3
                    have h4 := h4.kt gb.kt
                    refine s_app (K := K) (i := 4) (l := tl0) (d := iD lot) h3 rfl (ev_var rfl (hl.gx gb)) rfl (by rw [h4.length, List.length_map]; simp at l5; omega) fun v' Hc gc hv' hlc => ?_
                    refine ⟨told ++ [lot], vs ++ [v'], some (.ref wl), some (.int ((1 + i : Nat) : Int)), some vl, e, rfl, ((ga.trans (gb.trans gc)).mut nt hlc), kk.trans (gb.kt.trans (gc.kt.trans (.mut hlc))), upd_same, ?_⟩
                    rw [List.map_append]
                    exact (h4.kt (gc.kt.trans (.mut hlc))).app (.cons (hv'.kt (.mut hlc)) .nil)
            · subst h2
              have h1 : loopM (stepP (l0 :: lr) m) lr.length [] = .ok told := by simpa using h1
              rw [h1] at kr ke
              have gall := (g1.trans g24).trans g
              have ht : Dv H' (.ref tl0) (.list (told.map iD)) := .ofL h3 h4
              dsimp only
              refine q_when (K := K) (b := told.isEmpty) ?_ (fun hb H7 g7 => ?_) fun hb H7 g7 => ?_
              · refine et_is (et_not (et_tru (d := .list (told.map iD)) (ev_var (v := .ref tl0) rfl ht) fun _ e => nomatch e)) ?_
                show (!!List.isEmpty _) = _
                cases told <;> rfl
              · have e : told = [] := List.isEmpty_iff.mp hb
                subst e
                exact s_raise (D := D) ev_int ((ke 1 rfl).gx (gall.trans g7))
              · have e : told ≠ [] := fun z => by
                  rw [z] at hb
                  cases hb
                have e' : bindE (.ok told) (fun told => if told = [] then .error 1 else .ok (m, told)) = .ok (m, told) := if_neg e
                rw [e'] at kr
                refine s_ret (ev_tup (ea2 (ev_var rfl (((hm4.gx g)).gx g7)) (ev_tupleL (ev_var (v := .ref tl0) rfl (ht.gx g7)))) rfl (by show 2 ≤ 200000; decide)) fun v H8 g8 hv => kr _ rfl v H8 (gall.trans (g7.trans g8)) hv
    · cases el : linesM d with
      | ok ls =>
        rw [el] at hm
        cases hm
      | error m2 =>
        rw [el] at hm
        cases hm
        have er : rdP d = .error m := by
          unfold rdP
          rw [el]
          rfl
        rw [er] at ke
        exact ke m rfl
end
end LP

/-! LpW10 -/
set_option maxHeartbeats 4000000
/-! Walks: the law's reader of plans. -/
namespace LP
open PySem PySem.Spec PyProof.Rows L2 RZ
open TL (tl spl joinL)
/-! sorted, without repeats -/
theorem asc_pw : ∀ {ns : List Int}, asc ns = true → ns.Pairwise (· < ·)
  | [], _ => .nil
  | [a], _ => by simp
  | a :: b :: r, h => by
    obtain ⟨h1, h2⟩ := Bool.and_eq_true_iff.mp (show (decide (a < b) && asc (b :: r)) = true from h)
    have h1 := of_decide_eq_true h1
    have ih := asc_pw h2
    refine List.pairwise_cons.mpr ⟨fun x hx => ?_, ih⟩
    rcases List.mem_cons.mp hx with rfl | hx
    · exact h1
    · have := (List.pairwise_cons.mp ih).1 x hx
      omega
theorem pw_asc : ∀ {ns : List Int}, ns.Pairwise (· < ·) → asc ns = true
  | [], _ => rfl
  | [a], _ => rfl
  | a :: b :: r, h => by
    obtain ⟨h1, h2⟩ := List.pairwise_cons.mp h
    show (decide (a < b) && asc (b :: r)) = true
    rw [decide_eq_true (h1 b List.mem_cons_self), pw_asc h2]
    rfl
theorem pw_uniq : ∀ {xs ys : List Int}, xs.Pairwise (· < ·) → ys.Pairwise (· < ·) → (∀ k, k ∈ xs ↔ k ∈ ys) → xs = ys
  | [], [], _, _, _ => rfl
  | [], y :: r, _, _, h => ((List.not_mem_nil) ((h y).mpr List.mem_cons_self)).elim
  | x :: r, [], _, _, h => ((List.not_mem_nil) ((h x).mp List.mem_cons_self)).elim
  | x :: xs, y :: ys, hx, hy, h => by
    obtain ⟨x1, x2⟩ := List.pairwise_cons.mp hx
    obtain ⟨y1, y2⟩ := List.pairwise_cons.mp hy
    have e : x = y := by
      have a1 := (h x).mp List.mem_cons_self
      have a2 := (h y).mpr List.mem_cons_self
      rcases List.mem_cons.mp a1 with e | a1
      · exact e
      · rcases List.mem_cons.mp a2 with e | a2
        · exact e.symm
        · have := y1 x a1
          have := x1 y a2
          omega
    subst e
    rw [pw_uniq x2 y2 fun k => ⟨fun hk => ?_, fun hk => ?_⟩]
    · rcases List.mem_cons.mp ((h k).mp (List.mem_cons_of_mem _ hk)) with e | a
      · have := x1 k hk
        omega
      · exact a
    · rcases List.mem_cons.mp ((h k).mpr (List.mem_cons_of_mem _ hk)) with e | a
      · have := y1 k hk
        omega
      · exact a
def ten : List Int := [0, 1, 2, 3, 4, 5, 6, 7, 8, 9]
def sortM (ns : List Int) : List Int := ten.filter fun k => decide (k ∈ ns)
theorem in_ten {n : Int} (h : inR 0 9 n = true) : n ∈ ten := by
  rcases dig_cases h with rfl | rfl | rfl | rfl | rfl | rfl | rfl | rfl | rfl | rfl <;> decide
theorem sort_pw (ns : List Int) : (sortM ns).Pairwise (· < ·) := List.Pairwise.sublist List.filter_sublist (show ten.Pairwise (· < ·) by decide)
theorem sort_mem {ns : List Int} (h : ns.all (inR 0 9) = true) (k : Int) : k ∈ sortM ns ↔ k ∈ ns := by
  unfold sortM
  rw [List.mem_filter]
  constructor
  · rintro ⟨_, h2⟩
    exact of_decide_eq_true h2
  · intro hk
    exact ⟨in_ten (List.all_eq_true.mp h k hk), decide_eq_true hk⟩
theorem sort_asc {ns : List Int} (h : ns.all (inR 0 9) = true) : decide (sortM ns = ns) = asc ns := by
  cases e : asc ns with
  | true => exact decide_eq_true (pw_uniq (sort_pw ns) (asc_pw e) (sort_mem h))
  | false =>
    refine decide_eq_false fun z => ?_
    have := pw_asc (sort_pw ns)
    rw [z, e] at this
    cases this
theorem eqvAll_ints : ∀ xs ys : List Int, PyData.eqvAll (xs.map .int) (ys.map .int) = decide (xs = ys)
  | [], [] => by simp [PyData.eqvAll]
  | [], _ :: _ => by simp [PyData.eqvAll]
  | _ :: _, [] => by simp [PyData.eqvAll]
  | x :: xs, y :: ys => by
    have ih := eqvAll_ints xs ys
    rw [Bool.eq_iff_iff] at ih ⊢
    simp only [decide_eq_true_eq] at ih ⊢
    simp only [List.map_cons, PyData.eqvAll, PyData.eqv, Bool.and_eq_true, beq_iff_eq, List.cons.injEq, ih]
theorem eqv_ints (xs ys : List Int) : PyData.eqv (.list (xs.map .int)) (.list (ys.map .int)) = decide (xs = ys) := by
  rw [← eqvAll_ints xs ys, PyData.eqv]
section
variable {K : Fg} {σ : L2.St} {H : Hp} {ta tb' te : TE} {w : World}
theorem en_sset {ns : List Int} (h : Ev K ta σ H (iD ns)) (h9 : ns.all (inR 0 9) = true) (hl : ns.length ≤ 4000) : En K (tCB (rSortedSet w) (tCons (tCB (rSetI K w) (tCons ta tNil)) tNil)) σ H ((sortM ns).map .int) := fun H1 g Q q => by
    show (tCons ta tNil) σ H1 (fun vs H2 => rSetI K w vs H2 fun v H3 => rSortedSet w [v] H3 Q)
    refine (ea1 h) H1 g _ fun vs H2 g2 hvs => ?_
    obtain ⟨x, rfl, hx⟩ := hvs.one
    obtain ⟨a, xs, rfl, e1, e2⟩ := hx.tup
    have e3 := e2.intsV
    subst e3
    refine ⟨a, ns, rfl, SqT.of e1, hl, fun b c nb hc => ?_⟩
    have c10 : c ≤ 10 := hc ten fun j hj => in_ten (List.all_eq_true.mp h9 j hj)
    refine ⟨b, _, c, rfl, upd_same, by omega, fun ns' p pw hm hn np => ?_⟩
    have e4 : ns' = sortM ns := pw_uniq pw (sort_pw ns) fun k => by
      rw [hm k, sort_mem h9 k]
      exact decide_eq_true_iff
    subst e4
    have g3 : Gx K H1 (upd H2 b (SetO w b (fun j => decide (j ∈ ns)) c)) := g2.trans (.new nb)
    exact q p _ _ (g3.trans (.new np)) (g3.free np) upd_same (TvAll.ints _)
theorem ev_sortne {ns : List Int} (h : Ev K ta σ H (iD ns)) (h2 : Ev K tb' σ H (iD ns)) (h9 : ns.all (inR 0 9) = true) (hl : ns.length ≤ 4000) :
    Ev K (tOp (rNeD K) (tCB (rSortedSet w) (tCons (tCB (rSetI K w) (tCons ta tNil)) tNil)) (tCB (rListOf K) (tCons tb' tNil))) σ H (.bool (!asc ns)) := by
  have e := ev_neD (En.ev (en_sset (w := w) h h9 hl)) (En.ev (en_listT h2)) (shaped_ints _) (shaped_ints _)
  rw [eqv_ints, sort_asc h9] at e
  exact e
end
/-! the head's line -/
def hs7 : List Str := (List.range 7).map fun i => ("messengers " : Str) ++ numT ((1 + i : Nat) : Int)
theorem head_parts (i : Nat) : wordsOf (("messengers " : Str) ++ numT ((i : Nat) : Int)) = [("messengers" : Str), numT ((i : Nat) : Int)] := by
  have e : ("messengers " : Str) ++ numT ((i : Nat) : Int) = Txt.join spc [("messengers" : Str), numT ((i : Nat) : Int)] := by
    rw [TL.join_eq]
    show _ = ("messengers" : Str) ++ spc ++ numT ((i : Nat) : Int)
    rfl
  unfold wordsOf
  rw [e]
  refine TL.split_join (s := 32) (S := []) tl_spc (by decide +kernel) (by simp) fun p hp => ?_
  rcases List.mem_cons.mp hp with rfl | hp
  · decide +kernel
  · rw [List.mem_singleton.mp hp]
    unfold numT
    rw [TL.tl_num]
    exact TL.numL_free (.inl (by decide))
theorem num_dig {i : Nat} (h : i < 10) : numT ((i : Nat) : Int) = ⟨#[48 + i]⟩ := by
  refine TL.ext_tl ?_
  unfold numT
  rw [TL.tl_num, TL.numL_lt h]
theorem dig_in {i : Nat} (h : i < 10) : 48 + i ∈ tl ("0123456789" : Str) := by
  have : ∀ j < 10, 48 + j ∈ tl ("0123456789" : Str) := by decide +kernel
  exact this i h
theorem head_in {l : Str} (h : l ∈ hs7) : ∃ k : Nat, 1 ≤ k ∧ k ≤ 7 ∧ headM l = some ((k : Nat) : Int) ∧ (tl l).getLast? = some (48 + k) := by
  obtain ⟨i, hi, rfl⟩ := List.mem_map.mp h
  have hi := List.mem_range.mp hi
  refine ⟨1 + i, by omega, by omega, ?_, ?_⟩
  · unfold headM
    rw [head_parts, num_dig (by omega)]
    show ((if decide ((48 + (1 + i)) ∈ tl ("0123456789" : Str)) && decide ((((48 + (1 + i) : Nat) : Int) - 48) ≤ 7) then some ((((48 + (1 + i) : Nat)) : Int) - 48) else none).bind fun k => if k = 0 then none else some k) = _
    rw [decide_eq_true (dig_in (by omega)), decide_eq_true (by omega), show (((48 + (1 + i) : Nat)) : Int) - 48 = ((1 + i : Nat) : Int) by omega]
    show (if ((1 + i : Nat) : Int) = 0 then none else some ((1 + i : Nat) : Int)) = _
    rw [if_neg (by omega)]
  · rw [TL.tl_append, num_dig (by omega), List.getLast?_append]
    rfl
theorem fig_back {w : Str} {most k : Int} (h : figM w most = some k) : ∃ c : Nat, w = ⟨#[48 + c]⟩ ∧ k = c ∧ c < 10 := by
  unfold figM at h
  split at h
  · rename_i c hc
    split at h
    · rename_i q
      have h1 := of_decide_eq_true (Bool.and_eq_true_iff.mp q).1
      have h3 : ∀ c ∈ tl ("0123456789" : Str), 48 ≤ c ∧ c ≤ 57 := by decide +kernel
      obtain ⟨h4, h5⟩ := h3 c h1
      injection h with h
      refine ⟨c - 48, ?_, by omega, by omega⟩
      rw [eq_sing hc, show 48 + (c - 48) = c by omega]
    · cases h
  · cases h
theorem head_out {l : Str} {m : Int} (h : headM l = some m) : l ∈ hs7 := by
  obtain ⟨h1, h2, h3, h4⟩ := head_some h
  obtain ⟨c, e1, e2, e3⟩ := fig_back h3
  have e4 := (fig_range h3).2.2
  have e := StrLaws.join_split l spc
  have e5 : Txt.split l spc = [("messengers" : Str), ⟨#[48 + c]⟩] := by
    have h1 : (Txt.split l spc).getD 0 "" = "messengers" := h1
    have h2 : (Txt.split l spc).length = 2 := h2
    have e1 : (Txt.split l spc).getD 1 "" = ⟨#[48 + c]⟩ := e1
    match q : Txt.split l spc, h2 with
    | [a, b], _ =>
      rw [q] at h1 e1
      have h1 : a = "messengers" := h1
      have e1 : b = ⟨#[48 + c]⟩ := e1
      rw [h1, e1]
  rw [e5] at e
  refine List.mem_map.mpr ⟨c - 1, List.mem_range.mpr (by omega), ?_⟩
  rw [show 1 + (c - 1) = c by omega, num_dig e3, ← e]
  rfl
end LP

/-! LpW11 -/
set_option maxHeartbeats 4000000
/-! Walks: the law's reader of plans. -/
namespace LP
open PySem PySem.Spec PyProof.Rows L2 RZ
open TL (tl spl joinL)
theorem hs7_ascii : ∀ l ∈ hs7, l.length ≤ 100 := by
  intro l hl
  obtain ⟨i, hi, rfl⟩ := List.mem_map.mp hl
  have hi := List.mem_range.mp hi
  rw [num_dig (by omega), TL.len_tl, TL.tl_append, List.length_append]
  show (tl ("messengers " : Str)).length + 1 ≤ 100
  decide +kernel
theorem isLot_asc {ws : List Str} {m : Int} {lot : List Int} (h : numsM ws (m - 1) = some lot) : isLot m lot = asc lot := by
  obtain ⟨h1, h2, _⟩ := nums_range h
  unfold isLot
  have e : lot.all (inR 0 (m - 1)) = true := h2
  rw [e, Bool.true_and]
theorem nums_opt {c : Bool} {ws : List Str} {m : Int} {lot : List Int} {q : Prop} [Decidable q] (h : (if q then numsM ws m else none) = some lot) : numsM ws m = some lot := by
  split at h
  · exact h
  · cases h
section
variable {P : Program} {w : World} {K : Fg} {mg : Str → Option Value} {base : Heap} {C : Addr}
def rLawP : List PyData → PyData → Prop := fun ds r => ∃ d, tOk d ∧ ds = [d] ∧ r = toldD (pE (rdP d))
abbrev slaw_read_plan : Stmt := topS 45
theorem sclaw_read_plan : FnScope ["_law_text", "_law_lines_here", "_law_many", "_law_told_here", "_law_at", "_law_words_here", "_law_lot"] ["_law_text"] (defScope slaw_read_plan) := ⟨rfl, rfl, rfl, by decide +kernel, rfl, by decide +kernel, by decide +kernel⟩
theorem ok_law_read_plan (T : Tx K mg C) : CallOk P w K mg base CX0 2 "_law_read_plan" ["_law_text"] (SpR K rLawP) := by
  have c_law_lines := ok_law_lines (P := P) (w := w) (base := base) T
  have c_law_figures := ok_law_figures (P := P) (w := w) (base := base) T
  refine (T.fn 29 _ _ rfl).okR (k := 1) (N := ["_law_text", "_law_lines_here", "_law_many", "_law_told_here", "_law_at", "_law_words_here", "_law_lot"]) sclaw_read_plan (fun _ _ _ _ _ _ us hl => match us, hl with | [_], _ => rfl) (fun ds r h => ?_) fun A outer s H0 E hr => ⟨_, (pss_cons (ps_set (i := 1) sclaw_read_plan.nd rfl (.inl rfl) (pe_c c_law_lines (hr.mono (by decide)) pass0 (pa_cons (pv 0) pa_nil)))
  (pss_cons (ps_if (pt_val (pe_callB (r := rIsi K) call_isi (by rfl) T.isi boot_isinstance (pa_cons (pv 1) (pa_cons (pe_bltn (v := .ty "int") (by rfl) T.int boot_int rfl) pa_nil)))) (pss_one (ps_ret (pe_tup (pa_cons pe_str (pa_cons (pv 1) pa_nil))))) pss_nil)
  (pss_cons (ps_if (pt_cmpR (r := rIn K true) op_notIn_seq (pe_ix (r := rIxL K) ix_list (pv 1) pe_int (fun _ _ => rfl)) (pe_lc (own := [("_law_many", 2)]) rfl sclaw_read_plan.nd (pi_range2 (by rfl) T.range (pa_cons pe_int (pa_cons pe_int pa_nil))) (blkOk_by (N := ["_law_text", "_law_lines_here", "_law_many", "_law_told_here", "_law_at", "_law_words_here", "_law_lot"]) (sc := defScope slaw_read_plan) (by decide +kernel)) (fun _ _ _ _ _ => (pg_name (i := 2) sclaw_read_plan.nd rfl (.inl rfl))) (fun _ _ _ _ _ => pts_nil) (fun _ _ _ _ _ => (pe_op op_add_str pe_str (pe_callTy call_str_int (by rfl) T.str boot_str (pa_cons (pv 2) pa_nil))))) (by with_unfolding_all rfl)) (pss_one (ps_ret (pe_tup (pa_cons pe_str (pa_cons pe_int pa_nil))))) pss_nil)
  (pss_cons (ps_par (i := 2) (j := 3) rfl sclaw_read_plan.nd rfl rfl (by decide) rfl rfl (pa_cons (pe_callTy call_int_str (by rfl) T.int boot_int (pa_cons (pe_ix ix_str (pe_ix (r := rIxL K) ix_list (pv 1) pe_int (fun _ _ => rfl)) (pe_un un_neg pe_int) (fun _ _ => rfl)) pa_nil)) (pa_cons (pe_lst pa_nil) pa_nil)) rfl)
  (pss_cons (ps_for PassesOwn.never rfl (pi_range2 (by rfl) T.range (pa_cons pe_int (pa_cons (pe_callB (r := rLenSq K) call_len_seq (by rfl) T.len boot_len (pa_cons (pv 1) pa_nil)) pa_nil))) (pg_name (i := 4) sclaw_read_plan.nd rfl (.inl rfl)) (pss_cons (ps_set (i := 5) sclaw_read_plan.nd rfl (.inl rfl) (pe_split (pe_ix (r := rIxL K) ix_list (pv 1) (pv 4) (fun _ _ => rfl)) pe_str))
  (pss_cons (ps_set (i := 6) sclaw_read_plan.nd rfl (.inl rfl) (pe_c c_law_figures (hr.mono (by decide)) pass0 (pa_cons (pe_slice (r := rSlL K) sl_list (pv 5) (po_some pe_int) po_none) (pa_cons (pe_op op_sub (pv 2) pe_int) pa_nil))))
  (pss_cons (ps_if (L2.PW.pt (pw_or (pt_cmpR (r := rNeD K) (op_neD hr.units) (pe_slice (r := rSlL K) sl_list (pv 5) po_none (po_some pe_int)) (pe_lst (pa_cons pe_str (pa_cons (pe_callTy call_str_int (by rfl) T.str boot_str (pa_cons (pe_op op_sub (pv 4) pe_int) pa_nil)) (pa_cons pe_str pa_nil)))) (nomark _)) (pw_or (pt_cmpR op_gt (pv 4) pe_int (nomark _)) (pw_or (pt_cmpR op_isN (pv 6) pe_non (nomark _)) (pw_or1 (pt_cmpR (r := rNeD K) (op_neD hr.units) (pe_callB (cr_sortedSet rfl) (by rfl) T.sorted boot_sorted (pa_cons (pe_callTy (cr_setI rfl) (by rfl) T.set boot_set (pa_cons (pv 6) pa_nil)) pa_nil)) (pe_callTy (r := rListOf K) call_list_of (by rfl) T.list boot_list (pa_cons (pv 6) pa_nil)) (nomark _))))))) (pss_one (ps_ret (pe_tup (pa_cons pe_str (pa_cons (pv 4) pa_nil))))) pss_nil)
  (pss_one (ps_expr (pe_bm PySem.F.plainAttrs_list PySem.F.slot_list_append PySem.F.type_list_append mt_append (pv 3) (pa_cons (pv 6) pa_nil))))))))
  (pss_one (ps_ret (pe_ifExp (pt_cmpR (r := rNeD K) (op_neD hr.units) (pv 3) (pe_lst pa_nil) (nomark _)) (pe_tup (pa_cons (pv 2) (pa_cons (pe_callTy (r := rTupOf K) call_tuple_of (by rfl) T.tuple boot_tuple (pa_cons (pv 3) pa_nil)) pa_nil))) (pe_tup (pa_cons pe_str (pa_cons pe_int pa_nil))))))))))), fun H ds r vs h a t D kr kn => ?_⟩
  · obtain ⟨v, _, rfl, _⟩ := h
    rfl
  · obtain ⟨d, hd, rfl, rfl⟩ := h
    obtain ⟨x, rfl, hx⟩ := a.one
    refine q_asg (K := K) (d := linesD (linesM d)) (ev_call (R := rLawLines) t (ea1 (ev_var rfl hx)) ⟨d, hd, rfl, rfl⟩) fun v H1 g1 hv => ?_
    cases el : linesM d with
    | error m =>
      rw [el] at hv
      have er : rdP d = .error m := by
        unfold rdP
        rw [el]
        rfl
      rw [er] at kr
      exact q_when (K := K) (b := true) (et_B (ev_isi (ev_var rfl hv) rfl)) (fun _ H2 g2 => s_ret (ev_tup (ea2 ev_str (ev_var rfl (hv.gx g2))) rfl (by show 2 ≤ 200000; decide)) fun u H3 g3 hu => kr u H3 (g1.trans (g2.trans g3)) hu) fun hb => nomatch hb
    | ok ls =>
      rw [el] at hv
      obtain ⟨⟨l5, hls⟩, lne⟩ := lines_ok hd el
      obtain ⟨l0, lr, rfl⟩ : ∃ a b, ls = a :: b := by
        cases ls with
        | nil => exact absurd rfl lne
        | cons a b => exact ⟨a, b, rfl⟩
      obtain ⟨z1, z2⟩ := hls l0 List.mem_cons_self
      obtain ⟨al, xs, rfl, e1, e2⟩ := hv.list
      refine q_when (K := K) (b := false) (et_B (ev_isi (ev_var rfl hv) rfl)) (fun hb => nomatch hb) fun _ H1' g1' => ?_
      have g1 := g1.trans g1'
      have e1 := g1'.lst e1
      have e2 := e2.kt g1'.kt
      have hv := hv.gx g1'
      refine q_when (K := K) (b := !decide (l0 ∈ hs7)) (et_is (et_test (ev_in (neg := true) (ds := hs7.map PyData.str) (ev_ixL (ev_var rfl hv) ev_int (atI_nat (i := 0) rfl)) (En.ev (ds := hs7.map PyData.str) ?_) (.inl rfl) rfl (strs_flat _))) (by rw [any_str]; rfl)) (fun hb H2 g2 => ?_) fun hb H2 g2 => ?_
      · have ecomp : selD 7 (fun _ => true) (fun i => PyData.str (("messengers " : Str) ++ numT ((1 + i : Nat) : Int))) = hs7.map PyData.str := rfl
        rw [← ecomp]
        refine en_lc (n := 7) (src_range2 (lo := 1) (j := 8) ev_int ev_int (by decide) (by decide)) (turn_name (fun _ => rfl) (fun _ _ _ _ _ _ => et_yes) fun i z H' hi g it _ => ?_) (fun i hi _ => rfl) (by decide)
        subst it
        refine ev_addS ev_str (ev_strI (ev_var (v := .int ((1 + i : Nat) : Int)) rfl (.int _)) (num_small (by omega))) ?_
        have := hs7_ascii _ (List.mem_map.mpr ⟨i, List.mem_range.mpr hi, rfl⟩)
        rw [TL.len_tl, TL.tl_append, List.length_append, ← TL.len_tl, ← TL.len_tl] at this
        have e : (numT ((1 + i : Nat) : Int)).length = (Str.ofString (toString ((1 + i : Nat) : Int))).length := rfl
        omega
      · have hn : l0 ∉ hs7 := of_decide_eq_false (nb hb)
        have hh : headM l0 = none := by
          cases q : headM l0 with
          | none => rfl
          | some m => exact absurd (head_out q) hn
        rw [rdP_none el hh] at kr
        exact s_ret (K := K) (ev_tup (ea2 ev_str ev_int) rfl (by show 2 ≤ 200000; decide)) fun u H3 g3 hu => kr u H3 (g1.trans (g2.trans g3)) hu
      · obtain ⟨k, k1, k7, hh, hlast⟩ := head_in (of_decide_eq_true (nb' hb))
        rw [rdP_some el hh] at kr
        have hv := hv.gx g2
        have h0l : l0.length ≤ 200000 := by omega
        refine s_parN (K := K) (D := { D with nx := _ }) (d := .int (k : Nat)) (ev_is (ev_intS (ev_ixS (ev_ixL (ev_var rfl hv) ev_int (atI_nat (i := 0) rfl)) (ev_neg ev_int) h0l (atI_last hlast)) (fig_int _ (dig_in (by omega))) (by show 1 ≤ 640; decide)) (congrArg PyData.int (by omega))) fun vm tl0 H5 g5 hm nt et => ?_
        have g25 := g2.trans g5
        have e14 := g2.lst e1
        have e24 := e2.kt g2.kt
        have tt5 := (g1.trans g25).gt t
        cases hm.intE
        refine s_for (K := K) (D := { D with nx := _ }) (srk_range2 (lo := 1) (j := (l0 :: lr).length) ev_int (ev_is (ev_lenL (ds := (l0 :: lr).map PyData.str) (ev_var rfl (hv.gx g5)) (.inl rfl)) (by rw [List.length_map])) (by omega) (by omega)) fun H6 g6 => ⟨fun i σ' H' => ∃ told vs o4 o5 o6, loopM (stepP (l0 :: lr) (k : Nat)) i [] = .ok told ∧ σ' = [some x, some (.ref al), some (.int (k : Nat)), some (.ref tl0), o4, o5, o6] ∧ Gx K H2 H' ∧ Kt H6 H' ∧ H' tl0 = some (.lst vs) ∧ TvAll H' vs (told.map iD),
          ⟨[], [], none, none, none, rfl, rfl, g5.trans g6, .refl, g6.lst et, .nil⟩, fun i σ' H' hi ⟨_, _, _, _, _, _, _, _, k, _⟩ => k, fun i z σ' H' H'' hi ⟨told, vs, o4, o5, o6, h1, h2, g, kk, h3, h4⟩ g7 hz => ?_, fun σ' H' ⟨told, vs, o4, o5, o6, h1, h2, g, kk, h3, h4⟩ => ?_⟩
        · subst h2
          subst hz
          have hi' : i < lr.length := by simpa using hi
          have hi1 : i + 1 < (l0 :: lr).length := by simp; omega
          have eat : ((1 + i : Nat) : Int) - 1 = (i : Nat) := by omega
          obtain ⟨ln, hln⟩ : ∃ ln, (l0 :: lr)[i + 1]? = some ln := ⟨_, List.getElem?_eq_getElem hi1⟩
          have egd : (l0 :: lr).getD (i + 1) "" = ln := by rw [List.getD_eq_getElem?_getD, hln]; rfl
          obtain ⟨n1, n2⟩ := hls ln (List.mem_of_getElem? hln)
          have gg := g.trans g7
          have kk := kk.trans g7.kt
          have len1 := stepP_len h1
          have wok := words_ok n1 n2
          refine q_asgN (K := K) (ds := (wordsOf ln).map PyData.str) (en_split (a := ln) (b := spc) (ev_ixL (ev_var (v := .ref al) rfl (.ofL (gg.lst e14) (e24.kt gg.kt))) (ev_var (v := .int ((1 + i : Nat) : Int)) rfl (.int _)) (atI_nat (by rw [List.getElem?_map, Nat.add_comm, hln]; rfl))) ev_str (by decide +kernel) (by omega)) fun wl ys H8 g8 nw ew tw => ?_
          have hw : Dv H8 (.ref wl) (strsD (wordsOf ln)) := .ofL ew tw
          have tt8 : GT K H8 := ((((g1.trans g2).trans gg).trans g8).gt t)
          generalize hws : wordsOf ln = ws at hw wok
          refine q_asg (K := K) (d := numsD (numsM (ws.drop 3) ((k : Nat) - 1))) (ev_call (R := rNums) tt8 (ea2 (En.ev (en_drop (ev_var rfl hw) 3 rfl)) (ev_sub (ev_var (v := .int (k : Nat)) rfl (.int _)) ev_int)) ⟨ws.drop 3, (k : Nat) - 1, wok.drop 3, rfl, rfl⟩) fun vl H9 g9 hl => ?_
          have g89 := g8.trans g9
          have h3 := (g7.trans g89).lst h3
          have h4 := h4.kt (g7.trans g89).kt
          have ga := gg.trans g89
          have kk := kk.trans g89.kt
          have hw9 := hw.gx g9
          have lineR : ∀ (e : loopM (stepP (l0 :: lr) (k : Nat)) lr.length [] = .error ((i + 1 : Nat) : Int)) (Hb : Hp), Gx K H9 Hb → ∀ (D' : Ends), D'.rt = D.rt → tRet (tTup (tCons (tC (.str "line")) (tCons (tVar 4) tNil))) D' [some x, some (.ref al), some (.int (k : Nat)), some (.ref tl0), some (.int ((1 + i : Nat) : Int)), some (.ref wl), some vl] Hb := fun e Hb gb D' hD => by
            have e : loopM (stepP (l0 :: lr) (k : Nat)) ((l0 :: lr).length - 1) [] = .error ((i + 1 : Nat) : Int) := e
            rw [e] at kr
            refine s_ret (K := K) (ev_tup (ea2 ev_str (ev_var (v := .int ((1 + i : Nat) : Int)) rfl (.int _))) rfl (by show 2 ≤ 200000; decide)) fun u' H9 g10 hu' => ?_
            rw [hD]
            rw [Nat.add_comm] at hu'
            exact kr u' H9 (g1.trans (g2.trans (ga.trans (gb.trans g10)))) hu'
          have q5 : decide ((5 : Int) < ((1 + i : Nat) : Int)) = decide (5 < i + 1) := decide_eq_decide.mpr (by omega)
          have test1 : Ev K _ _ H9 (.bool (!decide (ws.take 3 = [("letter" : Str), numT i, ("to" : Str)]))) := ev_wne (k := 0) (σ := [some x, some (.ref al), some (.int (k : Nat)), some (.ref tl0), some (.int ((1 + i : Nat) : Int)), some (.ref wl), some vl]) (us := [("letter" : Str), numT i, ("to" : Str)]) (En.ev (en_take (te := tVar 5) (ev_var rfl hw9) 3 (i := 3) rfl)) (En.ev (en_lst (ea3 (ta := tC (.str "letter")) (tc := tC (.str "to")) ev_str (ev_strI (ev_is (ev_sub (ta := tVar 4) (tb' := tC (.int 1)) (ev_var (v := .int ((1 + i : Nat) : Int)) rfl (.int _)) ev_int) (congrArg PyData.int eat)) (num_small (by omega))) ev_str) rfl (by show 3 ≤ 200000; decide))) (wok.take 3).ascii (ascii3 (by decide +kernel) (numT_ascii i) (by decide +kernel))
          by_cases ht3 : ws.take 3 = [("letter" : Str), numT i, ("to" : Str)]
          · rw [decide_eq_true ht3] at test1
            cases q : numsM (ws.drop 3) ((k : Nat) - 1) with
            | none =>
              rw [q] at hl
              have e := loop_fail h1 (stepP_none (a := told) (by rw [egd, hws, if_pos ht3]; exact q)) hi'
              refine q_when (K := K) (b := true) (et_is (et_or (b := true) (et_test test1) fun _ => et_is (et_or (b := true) (et_test (ev_gt (ev_var (v := .int ((1 + i : Nat) : Int)) rfl (.int _)) ev_int)) fun _ => et_is (et_or (b := false) (et_test (ev_isN (ev_var rfl hl))) fun hb => nomatch hb) rfl) (by simp)) rfl) (fun _ Hb gb => lineR e Hb gb _ rfl) fun hb => nomatch hb
            | some lot =>
              rw [q] at hl
              have hl : Dv H9 vl (iD lot) := hl
              have es := stepP_some (a := told) (ls := l0 :: lr) (m := (k : Nat)) (i := i) (lot := lot) (by rw [egd, hws, if_pos ht3]; exact q)
              have r9 := nums_range q
              have lasc := isLot_asc q
              refine q_when (K := K) (b := decide (5 < i + 1) || !isLot (k : Nat) lot) (et_is (et_or (b := decide (5 < i + 1) || !isLot (k : Nat) lot) (et_test test1) fun _ => et_is (et_or (b := !isLot (k : Nat) lot) (et_test (ev_gt (ev_var (v := .int ((1 + i : Nat) : Int)) rfl (.int _)) ev_int)) fun _ => et_is (et_or (b := !isLot (k : Nat) lot) (et_test (ev_isN (ev_var rfl hl))) fun _ => et_is (et_test (ev_sortne (ev_var rfl hl) (ev_var rfl hl) r9.1 (by
                  have := r9.2.2
                  have := (wok.drop 3).1
                  omega))) (by rw [lasc])) rfl) (by rw [q5])) rfl) (fun hb Hb gb => ?_) fun hb Hb gb => ?_
              · exact lineR (loop_fail h1 (es.trans (if_pos hb)) hi') Hb gb _ rfl
              · have e := loop_step h1 (es.trans (if_neg (by rw [hb]; exact Bool.false_ne_true)))
                have h3 := gb.lst h3
                have h4 := h4.kt gb.kt
                refine s_app (K := K) (i := 3) (l := tl0) (d := iD lot) h3 rfl (ev_var rfl (hl.gx gb)) rfl (by rw [h4.length, List.length_map]; simp at l5; omega) fun v' Hc gc hv' hlc => ?_
                refine ⟨told ++ [lot], vs ++ [v'], some (.int ((1 + i : Nat) : Int)), some (.ref wl), some vl, e, rfl, ((ga.trans (gb.trans gc)).mut nt hlc), kk.trans (gb.kt.trans (gc.kt.trans (.mut hlc))), upd_same, ?_⟩
                rw [List.map_append]
                exact (h4.kt (gc.kt.trans (.mut hlc))).app (.cons (hv'.kt (.mut hlc)) .nil)
          · rw [decide_eq_false ht3] at test1
            have e := loop_fail h1 (stepP_none (a := told) (by rw [egd, hws, if_neg ht3])) hi'
            exact q_when (K := K) (b := true) (et_is (et_or (b := false) (et_test test1) fun hb => nomatch hb) rfl) (fun _ Hb gb => lineR e Hb gb _ rfl) fun hb => nomatch hb
        · subst h2
          have h1 : loopM (stepP (l0 :: lr) (k : Nat)) ((l0 :: lr).length - 1) [] = .ok told := by simpa using h1
          rw [h1] at kr
          have gall := g1.trans (g2.trans g)
          have ht : Dv H' (.ref tl0) (.list (told.map iD)) := .ofL h3 h4
          refine s_ret (ev_if (b := !told.isEmpty) (et_is (et_test (ev_neD (ev_var (v := .ref tl0) rfl ht) (En.ev (en_lst ea_nil rfl (by decide))) (shaped_tups told) shaped_nil)) ?_) (fun hb => ?_) fun hb => ?_) fun v H8 g8 hv => kr v H8 (gall.trans g8) hv
          · rw [eqv_nil]
            cases told <;> rfl
          · have e : told ≠ [] := fun z => by
              rw [z] at hb
              cases hb
            have e' : bindE (.ok told) (fun told => if told = [] then .error 1 else .ok (((k : Nat) : Int), told)) = .ok (((k : Nat) : Int), told) := if_neg e
            rw [e']
            exact ev_tup (ea2 (ev_var (v := .int (k : Nat)) rfl (.int _)) (ev_tupleL (ev_var (v := .ref tl0) rfl ht))) rfl (by show 2 ≤ 200000; decide)
          · have e : told = [] := List.isEmpty_iff.mp (nb' hb)
            subst e
            exact ev_tup (ea2 ev_str ev_int) rfl (by show 2 ≤ 200000; decide)
end
end LP

/-! LpW12 -/
set_option maxHeartbeats 4000000
/-! Walks: the readers of what is brought. -/
namespace LP
open PySem PySem.Spec PyProof.Rows L2 RZ
open TL (tl spl joinL)
section
variable {K : Fg} {σ : L2.St} {H : Hp} {te : TE} {ta : TA} {d : PyData} {D : Ends}
theorem q_drop {tz : TS} (h : Ev K te σ H d) (k : ∀ H1, Gx K H H1 → tz D σ H1) : tSeq (tDrop te) tz D σ H := h H .refl _ fun v H1 g _ => k H1 g
theorem q_parX {i j : Nat} {C : Addr} {W : WX} {tz : TS} {R : List PyData → Except Int PyData → Prop} {ds : List PyData} {r : Except Int PyData} (t : GT K H) (h : EvA K ta σ H ds) (hr : R ds r)
    (k : ∀ d, r = .ok d → ∀ v b H1, Gx K H H1 → Dv H1 v d → H1 b = none → tz D ((σ.set i (some v)).set j (some (.ref b))) (upd H1 b (.lst []))) (ke : ∀ m, r = .error m → Errs K C (WE W σ) H m) : tSeq (tPar i j (tCons (tCallS (SpX K C R) (WE W) ta) (tCons (tLst tNil) tNil))) tz D σ H :=
  h H .refl _ fun vs H1 g1 hvs => ⟨ds, r, hvs, hr, g1.gt t, fun d hd v H2 g2 hv => ⟨Nat.zero_le _, fun p np => ⟨v, .ref p, rfl, k d hd v p H2 (g1.trans g2) hv np⟩⟩, fun m hm => (ke m hm).gx g1⟩
end
def wordsAt (ls : List Str) (i : Nat) : List Str := if i < ls.length then wordsOf (ls.getD i "") else []
theorem stepB_none {p : Int × List (List Int)} {ls : List Str} {i : Nat} {a : List (List Int)} (h : (if (wordsAt ls i).take 3 = [("messenger" : Str), numT i, ("brings" : Str)] then numsM ((wordsAt ls i).drop 3) 4 else none) = none) : stepB p ls i a = .error i := by
  unfold wordsAt at h
  unfold stepB
  simp only []
  rw [h]
theorem stepB_some {p : Int × List (List Int)} {ls : List Str} {i : Nat} {a : List (List Int)} {row : List Int} (h : (if (wordsAt ls i).take 3 = [("messenger" : Str), numT i, ("brings" : Str)] then numsM ((wordsAt ls i).drop 3) 4 else none) = some row) :
    stepB p ls i a = if (decide (p.1 ≤ i) || !rowOk p.2 i row) = true then .error i else .ok (a ++ [row]) := by
  unfold wordsAt at h
  unfold stepB
  simp only []
  rw [h]
theorem stepB_len {p : Int × List (List Int)} {ls : List Str} : ∀ {i : Nat} {a : List (List Int)}, loopM (stepB p ls) i [] = .ok a → a.length = i
  | 0, a, h => by
    cases h
    rfl
  | i + 1, a, h => by
    obtain ⟨b, e, h⟩ := loop_inv h
    have h1 := stepB_len e
    cases q : (if (wordsAt ls i).take 3 = [("messenger" : Str), numT i, ("brings" : Str)] then numsM ((wordsAt ls i).drop 3) 4 else none) with
    | none =>
      rw [stepB_none q] at h
      cases h
    | some lot =>
      rw [stepB_some q] at h
      split at h
      · cases h
      · cases h
        simp [h1]
theorem wordsAt_ok {ls : List Str} (h : lsOk ls) (i : Nat) : wsOk (wordsAt ls i) := by
  unfold wordsAt
  by_cases q : i < ls.length
  · rw [if_pos q]
    have hm : ls.getD i "" ∈ ls := by
      rw [List.getD_eq_getElem?_getD, List.getElem?_eq_getElem q]
      exact List.getElem_mem _
    exact words_ok (h.2 _ hm).1 (h.2 _ hm).2
  · rw [if_neg q]
    exact ⟨by simp, fun x hx => (List.not_mem_nil hx).elim⟩
theorem max_is {p : Int × List (List Int)} (hp : POk p) (n : Nat) : (if p.1 > (n : Int) then p.1 else (n : Int)) = ((max n p.1.toNat : Nat) : Int) := by
  have := of_decide_eq_true (Bool.and_eq_true_iff.mp hp.m).1
  split <;> omega
theorem max_le {p : Int × List (List Int)} (hp : POk p) {n : Nat} (h : n ≤ 3001) : max n p.1.toNat ≤ 100000 := by
  have := of_decide_eq_true (Bool.and_eq_true_iff.mp hp.m).2
  omega
section
variable {P : Program} {w : World} {K : Fg} {mg : Str → Option Value} {base : Heap} {C : Addr}
def rRdB : List PyData → Except Int PyData → Prop := fun ds r => ∃ p d, POk p ∧ tOk d ∧ ds = [pD p, d] ∧ r = mapE (rdB p d) tD
theorem rdB_ok {p : Int × List (List Int)} {d : PyData} {ls : List Str} (el : linesM d = .ok ls) : rdB p d = loopM (stepB p ls) (max ls.length p.1.toNat) [] := by
  unfold rdB
  rw [el]
  rfl
theorem rdB_err {p : Int × List (List Int)} {d : PyData} {m : Int} (el : linesM d = .error m) : rdB p d = .error m := by
  unfold rdB
  rw [el]
  rfl
abbrev sread_brought : Stmt := topS 32
theorem scread_brought : FnScope ["plan", "text", "lines", "found", "at", "words", "row"] ["plan", "text"] (defScope sread_brought) := ⟨rfl, rfl, rfl, by decide +kernel, rfl, by decide +kernel, by decide +kernel⟩
theorem ok_read_brought (T : Tx K mg C) (B : Tbs K mg base) : CallOk P w K mg base (L2.CX P w) 6 "read_brought" ["plan", "text"] (SpX K C rRdB) := by
  have clines_of := ok_lines_of (P := P) (w := w) (base := base) T
  have cneed_plan := ok_need_plan (P := P) (w := w) (base := base) T B
  have cnumbers_of := ok_numbers_of (P := P) (w := w) (base := base) T
  have cis_row := ok_is_row (P := P) (w := w) (base := base) T B
  refine (T.fn 17 _ _ rfl).okX (k := 5) (N := ["plan", "text", "lines", "found", "at", "words", "row"]) scread_brought (fun _ _ _ _ _ _ us hl => match us, hl with | [_, _], _ => rfl) (fun ds r h => ?_) fun A outer s H0 E hr => ⟨_, (pss_cons (ps_expr (pe_c cneed_plan (hr.mono (by decide)) pass0 (pa_cons (pv 0) pa_nil)))
  (pss_cons (ps_par (i := 2) (j := 3) rfl scread_brought.nd rfl rfl (by decide) rfl rfl (pa_cons (pe_cS clines_of (hr.mono (by decide)) (fun σ => passAt (W := fun cls d _ H => E cls d H) (takes_of rfl rfl rfl rfl) σ) (pa_cons (pv 1) pa_nil)) (pa_cons (pe_lst pa_nil) pa_nil)) rfl)
  (pss_cons (ps_for (passes_of rfl) rfl (pi_range1 (by rfl) T.range (pa_cons (pe_callB (call_max2 rfl) (by rfl) T.max boot_max (pa_cons (pe_callB (r := rLenSq K) call_len_seq (by rfl) T.len boot_len (pa_cons (pv 2) pa_nil)) (pa_cons (pe_ix (r := rIxT K) ix_tup (pv 0) pe_int (fun _ _ => rfl)) pa_nil))) pa_nil)) (pg_name (i := 4) scread_brought.nd rfl (.inl rfl)) (pss_cons (ps_set (i := 5) scread_brought.nd rfl (.inl rfl) (pe_ifExp (pt_cmpR op_lt (pv 4) (pe_callB (r := rLenSq K) call_len_seq (by rfl) T.len boot_len (pa_cons (pv 2) pa_nil)) (nomark _)) (pe_split (pe_ix (r := rIxL K) ix_list (pv 2) (pv 4) (fun _ _ => rfl)) pe_str) (pe_lst pa_nil)))
  (pss_cons (ps_set (i := 6) scread_brought.nd rfl (.inl rfl) (pe_ifExp (pt_cmpR (r := rEqD K) (op_eqD hr.units) (pe_slice (r := rSlL K) sl_list (pv 5) po_none (po_some pe_int)) (pe_lst (pa_cons pe_str (pa_cons (pe_callTy call_str_int (by rfl) T.str boot_str (pa_cons (pv 4) pa_nil)) (pa_cons pe_str pa_nil)))) (nomark _)) (pe_c cnumbers_of (hr.mono (by decide)) pass0 (pa_cons (pe_slice (r := rSlL K) sl_list (pv 5) (po_some pe_int) po_none) (pa_cons (pe_op op_sub (pe_gi T.let_) pe_int) pa_nil))) pe_non))
  (pss_cons (ps_if (L2.PW.pt (pw_or (pt_cmpR op_ge (pv 4) (pe_ix (r := rIxT K) ix_tup (pv 0) pe_int (fun _ _ => rfl)) (nomark _)) (pw_or (pt_cmpR op_isN (pv 6) pe_non (nomark _)) (pw_or1 (pt_not (pt_val (pe_c cis_row (hr.mono (by decide)) pass0 (pa_cons (pv 0) (pa_cons (pv 4) (pa_cons (pv 6) pa_nil)))))))))) (pss_one (ps_badline T.bad rfl (hr.mono (by decide)) (takes_of rfl rfl rfl rfl) (pa_cons (pv 4) pa_nil))) pss_nil)
  (pss_one (ps_expr (pe_bm PySem.F.plainAttrs_list PySem.F.slot_list_append PySem.F.type_list_append mt_append (pv 3) (pa_cons (pv 6) pa_nil))))))))
  (pss_one (ps_ret (pe_callTy (r := rTupOf K) call_tuple_of (by rfl) T.tuple boot_tuple (pa_cons (pv 3) pa_nil))))))), fun H ds r vs h a t D kr ke => ?_⟩
  · obtain ⟨p, d, _, _, rfl, _⟩ := h
    rfl
  · obtain ⟨p, d, hp, hd, rfl, rfl⟩ := h
    obtain ⟨x, y, rfl, hx, hy⟩ := a.two
    refine q_drop (K := K) (ev_call (R := rNeedP) (d := .none) t (ea1 (ev_var rfl hx)) ⟨p, hp, rfl, rfl⟩) fun Ha ga => ?_
    refine q_parX (K := K) (R := rLines) (r := mapE (linesM d) strsD) (ga.gt t) (ea1 (ev_var rfl (hy.gx ga))) ⟨d, hd, rfl, rfl⟩ (fun dl hdl v fa H1 g1 hv nf => ?_) fun m hm => ?_
    · cases el : linesM d with
      | error m =>
        rw [el] at hdl
        cases hdl
      | ok ls =>
        rw [el] at hdl
        cases hdl
        obtain ⟨lok, lne⟩ := lines_ok hd el
        rw [rdB_ok el] at kr ke
        obtain ⟨al, xs, rfl, e1, e2⟩ := hv.list
        have gb : Gx K H1 (upd H1 fa (.lst [])) := .new nf
        have g01 := ga.trans g1
        refine s_for (K := K) (D := { D with nx := _ }) (srk_range1 (j := max ls.length p.1.toNat) (ev_is (ev_max (ev_is (ev_lenL (ds := ls.map PyData.str) (ev_var rfl (hv.gx gb)) (.inl rfl)) (by rw [List.length_map])) (ev_ixT (d := .int p.1) (ev_var rfl ((hx.gx g01).gx gb)) ev_int rfl)) (congrArg PyData.int (max_is hp ls.length))) (max_le hp lok.1)) fun H6 g6 => ⟨fun i σ' H' => ∃ fo vs o4 o5 o6, loopM (stepB p ls) i [] = .ok fo ∧ σ' = [some x, some y, some (.ref al), some (.ref fa), o4, o5, o6] ∧ Gx K H1 H' ∧ Kt H6 H' ∧ H' fa = some (.lst vs) ∧ TvAll H' vs (fo.map iD),
          ⟨[], [], none, none, none, rfl, rfl, gb.trans g6, .refl, g6.lst upd_same, .nil⟩, fun i σ' H' hi ⟨_, _, _, _, _, _, _, _, k, _⟩ => k, fun i z σ' H' H'' hi ⟨fo, vs, o4, o5, o6, h1, h2, g, kk, h3, h4⟩ g7 hz => ?_, fun σ' H' ⟨fo, vs, o4, o5, o6, h1, h2, g, kk, h3, h4⟩ => ?_⟩
        · subst h2
          subst hz
          have gg := g.trans g7
          have kk := kk.trans g7.kt
          have len1 := stepB_len h1
          have wok := wordsAt_ok lok i
          have hsz := max_le hp lok.1
          have tt := (g01.trans gg).gt t
          have hl : Dv H'' (.ref al) (.list (ls.map PyData.str)) := .ofL (gg.lst e1) (e2.kt gg.kt)
          refine q_asg (K := K) (d := strsD (wordsAt ls i)) (ev_if (b := decide (i < ls.length)) (et_is (et_test (ev_lt (i := (i : Nat)) (ev_var (v := .int (i : Nat)) rfl (.int _)) (ev_lenL (ds := ls.map PyData.str) (ev_var (v := .ref al) rfl hl) (.inl rfl)))) (decide_eq_decide.mpr (by rw [List.length_map]; omega))) (fun hb => ?_) fun hb => ?_) fun vw H8 g8 hw => ?_
          · have hb := of_decide_eq_true hb
            have egd : (ls.map PyData.str)[i]? = some (.str (ls.getD i "")) := getD_str hb
            have hln : (ls.getD i "").length ≤ 3000 := by
              refine (lok.2 _ ?_).1
              rw [List.getD_eq_getElem?_getD, List.getElem?_eq_getElem hb]
              exact List.getElem_mem _
            unfold wordsAt
            rw [if_pos hb]
            exact En.ev (en_split (a := ls.getD i "") (b := spc) (ev_ixL (ev_var (v := .ref al) rfl hl) (ev_var (v := .int (i : Nat)) rfl (.int _)) (atI_nat egd)) ev_str (by decide +kernel) (by omega))
          · unfold wordsAt
            rw [if_neg (of_decide_eq_false hb)]
            exact En.ev (en_lst ea_nil rfl (by decide))
          · have tt8 : GT K H8 := g8.gt tt
            generalize hws : wordsAt ls i = ws at hw wok
            refine q_asg (K := K) (d := numsD (if ws.take 3 = [("messenger" : Str), numT i, ("brings" : Str)] then numsM (ws.drop 3) 4 else none)) (ev_if (b := decide (ws.take 3 = [("messenger" : Str), numT i, ("brings" : Str)])) (et_test (ev_weq (us := [("messenger" : Str), numT i, ("brings" : Str)]) (En.ev (en_take (ev_var rfl hw) 3 rfl)) (En.ev (en_lst (ea3 ev_str (ev_strI (ev_var (v := .int (i : Nat)) rfl (.int _)) (num_small (by omega))) ev_str) rfl (by show 3 ≤ 200000; decide))) (wok.take 3).ascii (ascii3 (by decide +kernel) (numT_ascii i) (by decide +kernel)))) (fun hb => ?_) fun hb => ?_) fun vl H9 g9 hl9 => ?_
            · rw [if_pos (of_decide_eq_true hb)]
              exact ev_call (R := rNums) tt8 (ea2 (En.ev (en_drop (ev_var rfl hw) 3 rfl)) (ev_sub ev_int ev_int)) ⟨ws.drop 3, 4, wok.drop 3, rfl, rfl⟩
            · rw [if_neg (of_decide_eq_false hb)]
              exact ev_non
            · have g89 := g8.trans g9
              have h3 := (g7.trans g89).lst h3
              have h4 := h4.kt (g7.trans g89).kt
              have gc := gg.trans g89
              have kk := kk.trans g89.kt
              have hx9 := (hx.gx g01).gx gc
              have raise : ∀ (e : loopM (stepB p ls) (max ls.length p.1.toNat) [] = .error ((i : Nat) : Int)) (Hb : Hp), Gx K H9 Hb → Errs K C E Hb ((i : Nat) : Int) := fun e Hb gb => by
                rw [e] at ke
                exact (ke _ rfl).gx ((g01.trans gc).trans gb)
              cases q : (if ws.take 3 = [("messenger" : Str), numT i, ("brings" : Str)] then numsM (ws.drop 3) 4 else none) with
              | none =>
                rw [q] at hl9
                have e := loop_fail h1 (stepB_none (p := p) (a := fo) (by rw [hws]; exact q)) hi
                refine q_when (K := K) (b := true) (et_is (et_or (b := true) (et_test (ev_ge (ev_var (v := .int (i : Nat)) rfl (.int _)) (ev_ixT (d := .int p.1) (ev_var rfl hx9) ev_int rfl))) fun _ => et_is (et_or (b := false) (et_test (ev_isN (ev_var rfl hl9))) fun hb => nomatch hb) rfl) (by simp)) (fun _ Hb gb => s_raise (D := D) (ev_var (v := .int (i : Nat)) rfl (.int _)) (raise e Hb gb)) fun hb => nomatch hb
              | some row =>
                rw [q] at hl9
                have hl9 : Dv H9 vl (iD row) := hl9
                have es := stepB_some (p := p) (a := fo) (ls := ls) (i := i) (row := row) (by rw [hws]; exact q)
                refine q_when (K := K) (b := decide (p.1 ≤ i) || !rowOk p.2 i row) (et_or (b := !rowOk p.2 i row) (et_test (ev_ge (ev_var (v := .int (i : Nat)) rfl (.int _)) (ev_ixT (d := .int p.1) (ev_var rfl hx9) ev_int rfl))) fun _ => et_is (et_or (b := !rowOk p.2 i row) (et_test (ev_isN (ev_var rfl hl9))) fun _ => et_not (et_B (ev_call (R := rRow) (d := .bool (rowOk p.2 i row)) (g9.gt tt8) (ea3 (ev_var rfl hx9) (ev_var (v := .int (i : Nat)) rfl (.int _)) (ev_var rfl hl9)) ⟨p, i, row, rfl, rfl⟩))) rfl) (fun hb Hb gb => ?_) fun hb Hb gb => ?_
                · exact s_raise (D := D) (ev_var (v := .int (i : Nat)) rfl (.int _)) (raise (loop_fail h1 (es.trans (if_pos hb)) hi) Hb gb)
                · have e := loop_step h1 (es.trans (if_neg (by rw [hb]; exact Bool.false_ne_true)))
                  have h3 := gb.lst h3
                  have h4 := h4.kt gb.kt
                  refine s_app (K := K) (i := 3) (l := fa) (d := iD row) h3 rfl (ev_var rfl (hl9.gx gb)) rfl (by rw [h4.length, List.length_map]; omega) fun v' Hc gd hv' hlc => ?_
                  refine ⟨fo ++ [row], vs ++ [v'], some (.int (i : Nat)), some vw, some vl, e, rfl, ((gc.trans (gb.trans gd)).mut nf hlc), kk.trans (gb.kt.trans (gd.kt.trans (.mut hlc))), upd_same, ?_⟩
                  rw [List.map_append]
                  exact (h4.kt (gd.kt.trans (.mut hlc))).app (.cons (hv'.kt (.mut hlc)) .nil)
        · subst h2
          rw [h1] at kr
          dsimp only
          exact s_ret (ev_tupleL (ev_var (v := .ref fa) rfl (.ofL h3 h4))) fun v H8 g8 hv => kr _ rfl v H8 (g01.trans (g.trans g8)) hv
    · cases el : linesM d with
      | ok ls =>
        rw [el] at hm
        cases hm
      | error m2 =>
        rw [el] at hm
        cases hm
        rw [rdB_err el] at ke
        exact (ke m rfl).gx ga
end
end LP

/-! LpW13 -/
set_option maxHeartbeats 4000000
/-! Walks: the law's reader of what is brought. -/
namespace LP
open PySem PySem.Spec PyProof.Rows L2 RZ
open TL (tl spl joinL)
theorem fig_low {w : Str} {a b i : Int} (h : figM w b = some i) : figM w a = if i ≤ a then some i else none := by
  unfold figM at h ⊢
  split at h
  · rename_i c hc
    split at h
    · rename_i q
      have h1 := (Bool.and_eq_true_iff.mp q).1
      injection h with h
      rw [h1, Bool.true_and]
      by_cases z : i ≤ a
      · rw [if_pos z, decide_eq_true (by omega), if_pos rfl, h]
      · rw [if_neg z, decide_eq_false (by omega), if_neg Bool.false_ne_true]
    · cases h
  · cases h
theorem nums_low {a b : Int} : ∀ {ws : List Str} {ns : List Int}, numsM ws b = some ns → ns.all (inR 0 a) = true → numsM ws a = some ns
  | [], ns, h, _ => by
    cases h
    rfl
  | w :: ws, ns, h, hn => by
    rw [nums_cons] at h ⊢
    cases e : figM w b with
    | none =>
      rw [e] at h
      cases h
    | some i =>
      rw [e] at h
      cases e2 : numsM ws b with
      | none =>
        rw [e2] at h
        cases h
      | some r =>
        rw [e2] at h
        cases h
        obtain ⟨h1, h2⟩ := Bool.and_eq_true_iff.mp (show (inR 0 a i && r.all (inR 0 a)) = true from hn)
        have h3 := of_decide_eq_true (Bool.and_eq_true_iff.mp h1).2
        rw [fig_low e, if_pos h3, nums_low e2 h2]
        rfl
theorem nums_up {a b : Int} (hab : a ≤ b) : ∀ {ws : List Str} {ns : List Int}, numsM ws a = some ns → numsM ws b = some ns
  | [], ns, h => by
    cases h
    rfl
  | w :: ws, ns, h => by
    rw [nums_cons] at h ⊢
    cases e : figM w a with
    | none =>
      rw [e] at h
      cases h
    | some i =>
      rw [e] at h
      cases e2 : numsM ws a with
      | none =>
        rw [e2] at h
        cases h
      | some r =>
        rw [e2] at h
        cases h
        have h3 := (fig_range e).2.2
        rw [fig_low e, if_pos (by omega), nums_up hab e2]
        rfl
/-- the ints that a comprehension keeps -/
theorem sel_ints (ns : List Int) (keep : Nat → Bool) : selD ns.length keep (fun i => PyData.int (ns.getD i 0)) = (((List.range ns.length).filter keep).map fun i => ns.getD i 0).map PyData.int := by
  unfold selD
  rw [List.map_map]
  rfl
theorem sel_empty (ns : List Int) (f : Int → Bool) : (selD ns.length (fun i => !f (ns.getD i 0)) (fun i => PyData.int (ns.getD i 0))).isEmpty = ns.all f := by
  have e := range_all (xs := ns) (f := f) (g := fun i => f (ns.getD i 0)) fun i x hx => by
    show f (ns.getD i 0) = f x
    rw [List.getD_eq_getElem?_getD, hx]
    rfl
  rw [← e]
  unfold selD
  rw [Bool.eq_iff_iff, List.isEmpty_iff, List.map_eq_nil_iff, List.filter_eq_nil_iff, List.all_eq_true]
  constructor
  · intro h i hi
    have := h i hi
    simpa using this
  · intro h i hi
    have := h i hi
    simpa using this
section
variable {P : Program} {w : World} {K : Fg} {mg : Str → Option Value} {base : Heap} {C : Addr}
def rLawB : List PyData → PyData → Prop := fun ds r => ∃ p d, POk p ∧ tOk d ∧ ds = [pD p, d] ∧ r = toldD (mapE (rdB p d) tD)
abbrev slaw_read_brought : Stmt := topS 46
theorem sclaw_read_brought : FnScope ["_law_plan_here", "_law_text", "_law_lines_here", "_law_found", "_law_at", "_law_words_here", "_law_some", "_law_letter"] ["_law_plan_here", "_law_text"] (defScope slaw_read_brought) := ⟨rfl, rfl, rfl, by decide +kernel, rfl, by decide +kernel, by decide +kernel⟩
theorem ok_law_read_brought (T : Tx K mg C) : CallOk P w K mg base CX0 2 "_law_read_brought" ["_law_plan_here", "_law_text"] (SpR K rLawB) := by
  have c_law_lines := ok_law_lines (P := P) (w := w) (base := base) T
  have c_law_figures := ok_law_figures (P := P) (w := w) (base := base) T
  refine (T.fn 30 _ _ rfl).okR (k := 1) (N := ["_law_plan_here", "_law_text", "_law_lines_here", "_law_found", "_law_at", "_law_words_here", "_law_some", "_law_letter"]) sclaw_read_brought (fun _ _ _ _ _ _ us hl => match us, hl with | [_, _], _ => rfl) (fun ds r h => ?_) fun A outer s H0 E hr => ⟨_, (pss_cons (ps_set (i := 2) sclaw_read_brought.nd rfl (.inl rfl) (pe_c c_law_lines (hr.mono (by decide)) pass0 (pa_cons (pv 1) pa_nil)))
  (pss_cons (ps_if (pt_val (pe_callB (r := rIsi K) call_isi (by rfl) T.isi boot_isinstance (pa_cons (pv 2) (pa_cons (pe_bltn (v := .ty "int") (by rfl) T.int boot_int rfl) pa_nil)))) (pss_one (ps_ret (pe_tup (pa_cons pe_str (pa_cons (pv 2) pa_nil))))) pss_nil)
  (pss_cons (ps_set (i := 3) sclaw_read_brought.nd rfl (.inl rfl) (pe_lst pa_nil))
  (pss_cons (ps_for PassesOwn.never rfl (pi_range1 (by rfl) T.range (pa_cons (pe_callB (call_max2 rfl) (by rfl) T.max boot_max (pa_cons (pe_callB (r := rLenSq K) call_len_seq (by rfl) T.len boot_len (pa_cons (pv 2) pa_nil)) (pa_cons (pe_ix (r := rIxT K) ix_tup (pv 0) pe_int (fun _ _ => rfl)) pa_nil))) pa_nil)) (pg_name (i := 4) sclaw_read_brought.nd rfl (.inr rfl)) (pss_cons (ps_set (i := 5) sclaw_read_brought.nd rfl (.inl rfl) (pe_ifExp (pt_cmpR op_lt (pv 4) (pe_callB (r := rLenSq K) call_len_seq (by rfl) T.len boot_len (pa_cons (pv 2) pa_nil)) (nomark _)) (pe_split (pe_ix (r := rIxL K) ix_list (pv 2) (pv 4) (fun _ _ => rfl)) pe_str) (pe_lst pa_nil)))
  (pss_cons (ps_set (i := 6) sclaw_read_brought.nd rfl (.inl rfl) (pe_c c_law_figures (hr.mono (by decide)) pass0 (pa_cons (pe_slice (r := rSlL K) sl_list (pv 5) (po_some pe_int) po_none) (pa_cons (pe_op op_sub (pe_callB (r := rLenSq K) call_len_seq (by rfl) T.len boot_len (pa_cons (pe_ix (r := rIxT K) ix_tup (pv 0) pe_int (fun _ _ => rfl)) pa_nil)) pe_int) pa_nil))))
  (pss_cons (ps_if (L2.PW.pt (pw_or (pt_cmpR op_ge (pv 4) (pe_ix (r := rIxT K) ix_tup (pv 0) pe_int (fun _ _ => rfl)) (nomark _)) (pw_or (pt_cmpR (r := rNeD K) (op_neD hr.units) (pe_slice (r := rSlL K) sl_list (pv 5) po_none (po_some pe_int)) (pe_lst (pa_cons pe_str (pa_cons (pe_callTy call_str_int (by rfl) T.str boot_str (pa_cons (pv 4) pa_nil)) (pa_cons pe_str pa_nil)))) (nomark _)) (pw_or (pt_cmpR op_isN (pv 6) pe_non (nomark _)) (pw_or1 (pt_cmpR op_gt (pe_callB (r := rLenSq K) call_len_seq (by rfl) T.len boot_len (pa_cons (pv 6) pa_nil)) pe_int (nomark _))))))) (pss_one (ps_ret (pe_tup (pa_cons pe_str (pa_cons (pv 4) pa_nil))))) pss_nil)
  (pss_cons (ps_if (pt_cmpR (r := rNeD K) (op_neD hr.units) (pe_lc (own := [("_law_letter", 7)]) rfl sclaw_read_brought.nd (pi_tup (pv 6)) (blkOk_by (N := ["_law_plan_here", "_law_text", "_law_lines_here", "_law_found", "_law_at", "_law_words_here", "_law_some", "_law_letter"]) (sc := defScope slaw_read_brought) (by decide +kernel)) (fun _ _ _ _ _ => (pg_name (i := 7) sclaw_read_brought.nd rfl (.inl rfl))) (fun _ _ _ _ _ => (pts_one (pt_cmpR (r := rIn K true) op_notIn_seq (pv 4) (pe_ix (r := rIxT K) ix_tup (pe_ix (r := rIxT K) ix_tup (pv 0) pe_int (fun _ _ => rfl)) (pv 7) (fun _ _ => rfl)) (by with_unfolding_all rfl)))) (fun _ _ _ _ _ => (pv 7))) (pe_lst pa_nil) (nomark _)) (pss_one (ps_ret (pe_tup (pa_cons pe_str (pa_cons (pv 4) pa_nil))))) pss_nil)
  (pss_one (ps_expr (pe_bm PySem.F.plainAttrs_list PySem.F.slot_list_append PySem.F.type_list_append mt_append (pv 3) (pa_cons (pv 6) pa_nil)))))))))
  (pss_one (ps_ret (pe_callTy (r := rTupOf K) call_tuple_of (by rfl) T.tuple boot_tuple (pa_cons (pv 3) pa_nil)))))))), fun H ds r vs h a t D kr kn => ?_⟩
  · obtain ⟨p, d, _, _, rfl, _⟩ := h
    rfl
  · obtain ⟨p, d, hp, hd, rfl, rfl⟩ := h
    obtain ⟨x, y, rfl, hx, hy⟩ := a.two
    refine q_asg (K := K) (d := linesD (linesM d)) (ev_call (R := rLawLines) t (ea1 (ev_var rfl hy)) ⟨d, hd, rfl, rfl⟩) fun v H1 g1 hv => ?_
    cases el : linesM d with
    | error m =>
      rw [el] at hv
      rw [rdB_err el] at kr
      exact q_when (K := K) (b := true) (et_B (ev_isi (ev_var rfl hv) rfl)) (fun _ H2 g2 => s_ret (ev_tup (ea2 ev_str (ev_var rfl (hv.gx g2))) rfl (by show 2 ≤ 200000; decide)) fun u H3 g3 hu => kr u H3 (g1.trans (g2.trans g3)) hu) fun hb => nomatch hb
    | ok ls =>
      rw [el] at hv
      obtain ⟨lok, lne⟩ := lines_ok hd el
      rw [rdB_ok el] at kr
      obtain ⟨al, xs, rfl, e1, e2⟩ := hv.list
      refine q_when (K := K) (b := false) (et_B (ev_isi (ev_var rfl hv) rfl)) (fun hb => nomatch hb) fun _ H1' g1' => ?_
      have g01 := g1.trans g1'
      have e1 := g1'.lst e1
      have e2 := e2.kt g1'.kt
      have hv := hv.gx g1'
      refine q_asgN (K := K) (ds := []) (en_lst ea_nil rfl (by decide)) fun fa us0 H2 g2 nf ef tf => ?_
      cases tf
      have t5 : p.2.length ≤ 5 := hp.t5
      refine s_for (K := K) (D := { D with nx := _ }) (srk_range1 (j := max ls.length p.1.toNat) (ev_is (ev_max (ev_is (ev_lenL (ds := ls.map PyData.str) (ev_var rfl (hv.gx g2)) (.inl rfl)) (by rw [List.length_map])) (ev_ixT (d := .int p.1) (ev_var rfl ((hx.gx g01).gx g2)) ev_int rfl)) (congrArg PyData.int (max_is hp ls.length))) (max_le hp lok.1)) fun H6 g6 => ⟨fun i σ' H' => ∃ fo vs o4 o5 o6, loopM (stepB p ls) i [] = .ok fo ∧ σ' = [some x, some y, some (.ref al), some (.ref fa), o4, o5, o6, none] ∧ Gx K H1' H' ∧ Kt H6 H' ∧ H' fa = some (.lst vs) ∧ TvAll H' vs (fo.map iD),
        ⟨[], [], none, none, none, rfl, rfl, g2.trans g6, .refl, g6.lst ef, .nil⟩, fun i σ' H' hi ⟨_, _, _, _, _, _, _, _, k, _⟩ => k, fun i z σ' H' H'' hi ⟨fo, vs, o4, o5, o6, h1, h2, g, kk, h3, h4⟩ g7 hz => ?_, fun σ' H' ⟨fo, vs, o4, o5, o6, h1, h2, g, kk, h3, h4⟩ => ?_⟩
      · subst h2
        subst hz
        have gg := g.trans g7
        have kk := kk.trans g7.kt
        have len1 := stepB_len h1
        have wok := wordsAt_ok lok i
        have hsz := max_le hp lok.1
        have tt := (g01.trans gg).gt t
        have hl : Dv H'' (.ref al) (.list (ls.map PyData.str)) := .ofL (gg.lst e1) (e2.kt gg.kt)
        refine q_asg (K := K) (d := strsD (wordsAt ls i)) (ev_if (b := decide (i < ls.length)) (et_is (et_test (ev_lt (i := (i : Nat)) (ev_var (v := .int (i : Nat)) rfl (.int _)) (ev_lenL (ds := ls.map PyData.str) (ev_var (v := .ref al) rfl hl) (.inl rfl)))) (decide_eq_decide.mpr (by rw [List.length_map]; omega))) (fun hb => ?_) fun hb => ?_) fun vw H8 g8 hw => ?_
        · have hb := of_decide_eq_true hb
          have egd : (ls.map PyData.str)[i]? = some (.str (ls.getD i "")) := getD_str hb
          have hln : (ls.getD i "").length ≤ 3000 := by
            refine (lok.2 _ ?_).1
            rw [List.getD_eq_getElem?_getD, List.getElem?_eq_getElem hb]
            exact List.getElem_mem _
          unfold wordsAt
          rw [if_pos hb]
          exact En.ev (en_split (a := ls.getD i "") (b := spc) (ev_ixL (ev_var (v := .ref al) rfl hl) (ev_var (v := .int (i : Nat)) rfl (.int _)) (atI_nat egd)) ev_str (by decide +kernel) (by omega))
        · unfold wordsAt
          rw [if_neg (of_decide_eq_false hb)]
          exact En.ev (en_lst ea_nil rfl (by decide))
        · have tt8 : GT K H8 := g8.gt tt
          have hx8 := ((hx.gx g01).gx gg).gx g8
          generalize hws : wordsAt ls i = ws at hw wok
          refine q_asg (K := K) (d := numsD (numsM (ws.drop 3) (p.2.length - 1))) (ev_call (R := rNums) tt8 (ea2 (En.ev (en_drop (ev_var rfl hw) 3 rfl)) (ev_sub (ev_is (ev_lenL (ds := p.2.map iD) (ev_ixT (ev_var rfl hx8) ev_int rfl) (.inr rfl)) (by rw [List.length_map])) ev_int)) ⟨ws.drop 3, p.2.length - 1, wok.drop 3, rfl, rfl⟩) fun vl H9 g9 hl9 => ?_
          have g89 := g8.trans g9
          have h3 := (g7.trans g89).lst h3
          have h4 := h4.kt (g7.trans g89).kt
          have gc := gg.trans g89
          have kk := kk.trans g89.kt
          have hx9 := (hx.gx g01).gx gc
          have hw9 := hw.gx g9
          have lineR : ∀ (e : loopM (stepB p ls) (max ls.length p.1.toNat) [] = .error ((i : Nat) : Int)) (Hb : Hp), Gx K H9 Hb → ∀ (D' : Ends), D'.rt = D.rt → tRet (tTup (tCons (tC (.str "line")) (tCons (tVar 4) tNil))) D' [some x, some y, some (.ref al), some (.ref fa), some (.int (i : Nat)), some vw, some vl, none] Hb := fun e Hb gb D' hD => by
            rw [e] at kr
            refine s_ret (K := K) (ev_tup (ea2 ev_str (ev_var (v := .int (i : Nat)) rfl (.int _))) rfl (by show 2 ≤ 200000; decide)) fun u' H9 g10 hu' => ?_
            rw [hD]
            exact kr u' H9 (g01.trans (gc.trans (gb.trans g10))) hu'
          by_cases hat : p.1 ≤ (i : Nat)
          · -- too many lines
            have e : stepB p ls i fo = .error i := by
              cases q : (if (wordsAt ls i).take 3 = [("messenger" : Str), numT i, ("brings" : Str)] then numsM ((wordsAt ls i).drop 3) 4 else none) with
              | none => exact stepB_none q
              | some row => rw [stepB_some q, decide_eq_true hat, Bool.true_or, if_pos rfl]
            refine q_when (K := K) (b := true) (et_is (et_or (b := false) (et_is (b := true) (et_test (ev_ge (ev_var (v := .int (i : Nat)) rfl (.int _)) (ev_ixT (d := .int p.1) (ev_var rfl hx9) ev_int rfl))) (decide_eq_true hat)) fun hb => nomatch hb) rfl) (fun _ Hb gb => lineR (loop_fail h1 e hi) Hb gb _ rfl) fun hb => nomatch hb
          · have tat : EvT K _ [some x, some y, some (.ref al), some (.ref fa), some (.int (i : Nat)), some vw, some vl, none] H9 false := et_is (et_test (ev_ge (ta := tVar 4) (ev_var (v := .int (i : Nat)) rfl (.int _)) (ev_ixT (ta := tVar 0) (tb' := tC (.int 0)) (d := .int p.1) (ev_var rfl hx9) ev_int rfl))) (decide_eq_false hat)
            have test1 : Ev K _ _ H9 (.bool (!decide (ws.take 3 = [("messenger" : Str), numT i, ("brings" : Str)]))) := ev_wne (k := 0) (σ := [some x, some y, some (.ref al), some (.ref fa), some (.int (i : Nat)), some vw, some vl, none]) (us := [("messenger" : Str), numT i, ("brings" : Str)]) (En.ev (en_take (te := tVar 5) (ev_var rfl hw9) 3 (i := 3) rfl)) (En.ev (en_lst (ea3 (ta := tC (.str "messenger")) (tc := tC (.str "brings")) ev_str (ev_strI (ta := tVar 4) (ev_var (v := .int (i : Nat)) rfl (.int _)) (num_small (by omega))) ev_str) rfl (by show 3 ≤ 200000; decide))) (wok.take 3).ascii (ascii3 (by decide +kernel) (numT_ascii i) (by decide +kernel))
            by_cases ht3 : ws.take 3 = [("messenger" : Str), numT i, ("brings" : Str)]
            · rw [decide_eq_true ht3] at test1
              have opt : (if (wordsAt ls i).take 3 = [("messenger" : Str), numT i, ("brings" : Str)] then numsM ((wordsAt ls i).drop 3) 4 else none) = numsM (ws.drop 3) 4 := by rw [hws, if_pos ht3]
              have hle : (p.2.length : Int) - 1 ≤ 4 := by omega
              cases q : numsM (ws.drop 3) (p.2.length - 1) with
              | none =>
                rw [q] at hl9
                have e : stepB p ls i fo = .error i := by
                  cases q2 : numsM (ws.drop 3) 4 with
                  | none => exact stepB_none (opt.trans q2)
                  | some row =>
                    rw [stepB_some (opt.trans q2)]
                    have hr : rowOk p.2 i row = false := by
                      cases z : rowOk p.2 i row with
                      | false => rfl
                      | true =>
                        unfold rowOk isText at z
                        have z2 := (Bool.and_eq_true_iff.mp (Bool.and_eq_true_iff.mp z).1).2
                        rw [nums_low q2 z2] at q
                        cases q
                    rw [hr, Bool.not_false, Bool.or_true, if_pos rfl]
                refine q_when (K := K) (b := true) (et_is (et_or (b := true) tat fun _ => et_is (et_or (b := true) (et_test test1) fun _ => et_is (et_or (b := false) (et_test (ev_isN (ev_var rfl hl9))) fun hb => nomatch hb) rfl) rfl) rfl) (fun _ Hb gb => lineR (loop_fail h1 e hi) Hb gb _ rfl) fun hb => nomatch hb
              | some row =>
                rw [q] at hl9
                have hl9 : Dv H9 vl (iD row) := hl9
                have es := stepB_some (p := p) (a := fo) (ls := ls) (i := i) (row := row) (opt.trans (nums_up hle q))
                rw [decide_eq_false hat, Bool.false_or] at es
                have hall : row.all (inR 0 (p.2.length - 1)) = true := (nums_range q).2.1
                have erow : rowOk p.2 i row = (decide (row.length ≤ 40) && row.all fun l => decide ((i : Int) ∈ p.2.getD l.toNat [])) := by
                  unfold rowOk isText
                  rw [hall, Bool.and_true]
                by_cases l40 : row.length ≤ 40
                · rw [decide_eq_true l40, Bool.true_and] at erow
                  refine q_when (K := K) (b := false) (et_is (et_or (b := false) tat fun _ => et_is (et_or (b := false) (et_test test1) fun _ => et_is (et_or (b := false) (et_test (ev_isN (ev_var rfl hl9))) fun _ => et_is (et_test (ev_gt (ev_lenL (ds := row.map PyData.int) (ev_var rfl hl9) (.inr rfl)) ev_int)) (by rw [List.length_map]; exact decide_eq_false (by omega))) rfl) rfl) rfl) (fun hb => nomatch hb) fun _ Ha ga => ?_
                  have hxa := hx9.gx ga
                  have hla := hl9.gx ga
                  have esel : selD row.length (fun j => !decide ((i : Int) ∈ p.2.getD (row.getD j 0).toNat [])) (fun j => PyData.int (row.getD j 0)) = _ := sel_ints row (fun j => !decide ((i : Int) ∈ p.2.getD (row.getD j 0).toNat []))
                  refine q_when (K := K) (b := !rowOk p.2 i row) (et_is (et_test (ev_neD (d := .list (selD row.length (fun j => !decide ((i : Int) ∈ p.2.getD (row.getD j 0).toNat [])) (fun j => PyData.int (row.getD j 0)))) (e := .list []) (En.ev (en_lc (n := row.length) (item := itemD (row.map PyData.int)) (by
                      have z := src_tup (K := K) (H := Ha) (σ := [some x, some y, some (.ref al), some (.ref fa), some (.int (i : Nat)), some vw, some vl, none]) (te := tVar 6) (ds := row.map PyData.int) (ev_var rfl hla)
                      rw [List.length_map] at z
                      exact z) (turn_name (fun _ => rfl) (fun j u H' hj gj it => ?_) fun j u H' hj gj it _ => ?_) (fun j hj _ => rfl) (by omega))) (En.ev (en_lst ea_nil rfl (by decide))) (by rw [esel]; exact shaped_ints _) shaped_nil)) ?_) (fun hb Hb gb => ?_) fun hb Hb gb => ?_
                  · obtain ⟨d, hd, hu⟩ := it
                    obtain ⟨l, hl, rfl⟩ := map_get hd
                    have hin := List.all_eq_true.mp hall l (List.mem_of_getElem? hl)
                    have b1 : 0 ≤ l := of_decide_eq_true (Bool.and_eq_true_iff.mp hin).1
                    have b2 : l ≤ p.2.length - 1 := of_decide_eq_true (Bool.and_eq_true_iff.mp hin).2
                    have hlt : l.toNat < p.2.length := by omega
                    have e4 : (p.2.map iD)[l.toNat]? = some (iD (p.2.getD l.toNat [])) := by
                      rw [List.getElem?_map, List.getD_eq_getElem?_getD, List.getElem?_eq_getElem hlt]
                      rfl
                    refine et_is (et_test (ev_in (neg := true) (ev_var (v := .int (i : Nat)) rfl (.int _)) (ev_ixT (ev_ixT (ev_var rfl (hxa.gx gj)) ev_int rfl) (ev_var rfl hu) (atI_natD b1 e4)) (.inr rfl) rfl (ints_flat _))) ?_
                    rw [any_int]
                    show (!decide _) = !decide _
                    rw [List.getD_eq_getElem?_getD (l := row), hl]
                    rfl
                  · obtain ⟨d, hd, hu⟩ := it
                    obtain ⟨l, hl, rfl⟩ := map_get hd
                    refine ev_is (ev_var rfl hu) ?_
                    show PyData.int l = PyData.int (row.getD j 0)
                    rw [List.getD_eq_getElem?_getD, hl]
                    rfl
                  · rw [eqv_nil, sel_empty row (fun l => decide ((i : Int) ∈ p.2.getD l.toNat [])), erow]
                  · exact lineR (loop_fail h1 (es.trans (if_pos hb)) hi) Hb (ga.trans gb) _ rfl
                  · have e := loop_step h1 (es.trans (if_neg (by rw [hb]; exact Bool.false_ne_true)))
                    have gb := ga.trans gb
                    have h3 := gb.lst h3
                    have h4 := h4.kt gb.kt
                    refine s_app (K := K) (i := 3) (l := fa) (d := iD row) h3 rfl (ev_var rfl (hl9.gx gb)) rfl (by rw [h4.length, List.length_map]; omega) fun v' Hc gd hv' hlc => ?_
                    refine ⟨fo ++ [row], vs ++ [v'], some (.int (i : Nat)), some vw, some vl, e, rfl, ((gc.trans (gb.trans gd)).mut nf hlc), kk.trans (gb.kt.trans (gd.kt.trans (.mut hlc))), upd_same, ?_⟩
                    rw [List.map_append]
                    exact (h4.kt (gd.kt.trans (.mut hlc))).app (.cons (hv'.kt (.mut hlc)) .nil)
                · rw [decide_eq_false l40, Bool.false_and] at erow
                  rw [erow, Bool.not_false, if_pos rfl] at es
                  refine q_when (K := K) (b := true) (et_is (et_or (b := true) tat fun _ => et_is (et_or (b := true) (et_test test1) fun _ => et_is (et_or (b := true) (et_test (ev_isN (ev_var rfl hl9))) fun _ => et_is (et_test (ev_gt (ev_lenL (ds := row.map PyData.int) (ev_var rfl hl9) (.inr rfl)) ev_int)) (by rw [List.length_map]; exact decide_eq_true (by omega))) rfl) rfl) rfl) (fun _ Hb gb => lineR (loop_fail h1 es hi) Hb gb _ rfl) fun hb => nomatch hb
            · rw [decide_eq_false ht3] at test1
              have e : stepB p ls i fo = .error i := stepB_none (by rw [hws, if_neg ht3])
              refine q_when (K := K) (b := true) (et_is (et_or (b := true) tat fun _ => et_is (et_or (b := false) (et_test test1) fun hb => nomatch hb) rfl) rfl) (fun _ Hb gb => lineR (loop_fail h1 e hi) Hb gb _ rfl) fun hb => nomatch hb
      · subst h2
        rw [h1] at kr
        dsimp only
        exact s_ret (ev_tupleL (ev_var (v := .ref fa) rfl (.ofL h3 h4))) fun v H8 g8 hv => kr v H8 (g01.trans (g.trans g8)) hv
end
end LP

/-! LpW14 -/
set_option maxHeartbeats 4000000
/-! Walks: the writers. -/
namespace LP
open PySem PySem.Spec PyProof.Rows L2 RZ
open TL (tl spl joinL)
theorem str_len (a b : Str) : (a ++ b).length = a.length + b.length := by
  rw [TL.len_tl, TL.tl_append, List.length_append, ← TL.len_tl, ← TL.len_tl]
theorem joinL_nil : ∀ ps : List (List Nat), joinL [] ps = ps.flatten
  | [] => rfl
  | [p] => by simp [joinL]
  | p :: q :: r => by
    have e : joinL [] (p :: q :: r) = p ++ ([] ++ joinL [] (q :: r)) := rfl
    rw [e, joinL_nil (q :: r)]
    rfl
theorem tl_glue (xs : List Str) : tl (Txt.join "" xs) = (xs.map tl).flatten := by
  rw [TL.join_eq, TL.tl_join]
  exact joinL_nil _
/-- lines put together -/
def textOf (ls : List Str) : Str := Txt.join "" (ls.map fun l => l ++ nl)
theorem textOf_nil : textOf [] = "" := TL.ext_tl (by
  unfold textOf
  rw [tl_glue]
  rfl)
theorem textOf_snoc (ls : List Str) (l : Str) : textOf (ls ++ [l]) = textOf ls ++ (l ++ nl) := TL.ext_tl (by
  unfold textOf
  rw [tl_glue, TL.tl_append, tl_glue, List.map_append, List.map_append, List.flatten_append]
  simp)
theorem textOf_one (l : Str) : textOf [l] = l ++ nl := by
  have e := textOf_snoc [] l
  rw [textOf_nil] at e
  refine e.trans (TL.ext_tl ?_)
  rw [TL.tl_append]
  rfl
theorem flat_len {k : Nat} : ∀ {ps : List (List Nat)}, (∀ p ∈ ps, p.length ≤ k) → ps.flatten.length ≤ ps.length * k
  | [], _ => by simp
  | p :: r, h => by
    have h1 := h p List.mem_cons_self
    have h2 := flat_len (k := k) (ps := r) fun q hq => h q (List.mem_cons_of_mem _ hq)
    simp only [List.flatten_cons, List.length_append, List.length_cons, Nat.add_mul]
    omega
theorem textOf_len {ls : List Str} {k : Nat} (h : ∀ l ∈ ls, l.length ≤ k) : (textOf ls).length ≤ ls.length * (k + 1) := by
  rw [TL.len_tl]
  unfold textOf
  rw [tl_glue]
  refine Nat.le_trans (flat_len (k := k + 1) fun p hp => ?_) (by simp)
  obtain ⟨x, hx, rfl⟩ := List.mem_map.mp hp
  obtain ⟨l, hl, rfl⟩ := List.mem_map.mp hx
  rw [← TL.len_tl, str_len]
  have := h l hl
  have e : nl.length = 1 := by decide +kernel
  omega
theorem wordsT_len {ns : List Int} (h : ns.all (inR 0 9) = true) : (wordsT ns).length ≤ ns.length * 2 := by
  rw [TL.len_tl]
  unfold wordsT
  rw [tl_glue]
  refine Nat.le_trans (flat_len (k := 2) fun p hp => ?_) (by simp)
  obtain ⟨x, hx, rfl⟩ := List.mem_map.mp hp
  obtain ⟨n, hn, rfl⟩ := List.mem_map.mp hx
  rw [← TL.len_tl, str_len, (num_len (List.all_eq_true.mp h n hn)).1]
  decide +kernel
theorem inR_up {lo hi hi' v : Int} (h : inR lo hi v = true) (hh : hi ≤ hi') : inR lo hi' v = true := by
  obtain ⟨h1, h2⟩ := Bool.and_eq_true_iff.mp h
  exact Bool.and_eq_true_iff.mpr ⟨h1, decide_eq_true (by have := of_decide_eq_true h2; omega)⟩
theorem all_up {lo hi hi' : Int} {ns : List Int} (h : ns.all (inR lo hi) = true) (hh : hi ≤ hi') : ns.all (inR lo hi') = true := List.all_eq_true.mpr fun v hv => inR_up (List.all_eq_true.mp h v hv) hh
theorem num1 {i : Nat} (h : i < 10) : (numT ((i : Nat) : Int)).length = 1 := by
  rw [num_dig h]
  rfl
/-! ### the lines -/
def qLine (q : Q2) (i : Nat) : Str := ("state " : Str) ++ numT ((i : Nat) : Int) ++ (" answer " : Str) ++ numT (q.2.getD i 0) ++ (" to" : Str) ++ wordsT (q.1.getD i [])
def qLines (q : Q2) : List Str := (List.range q.1.length).map (qLine q)
def pLine (p : Int × List (List Int)) (i : Nat) : Str := ("letter " : Str) ++ numT ((i : Nat) : Int) ++ (" to" : Str) ++ wordsT (p.2.getD i [])
def pHead (p : Int × List (List Int)) : Str := ("messengers " : Str) ++ numT p.1
def pLines (p : Int × List (List Int)) : List Str := pHead p :: (List.range p.2.length).map (pLine p)
def bLine (b : List (List Int)) (i : Nat) : Str := ("messenger " : Str) ++ numT ((i : Nat) : Int) ++ (" brings" : Str) ++ wordsT (b.getD i [])
def bLines (b : List (List Int)) : List Str := (List.range b.length).map (bLine b)
theorem getD_mem {α : Type} {xs : List α} {i : Nat} {d : α} (h : i < xs.length) : xs.getD i d ∈ xs := by
  rw [List.getD_eq_getElem?_getD, List.getElem?_eq_getElem h]
  exact List.getElem_mem _
theorem getD_of {α : Type} {xs : List α} {i : Nat} {d x : α} (h : xs[i]? = some x) : xs.getD i d = x := by
  rw [List.getD_eq_getElem?_getD, h]
  rfl
/-! sizes of fine things -/
theorem QOk.row {q : Q2} (h : QOk q) {i : Nat} (hi : i < q.1.length) : (q.1.getD i []).all (inR 0 9) = true ∧ (q.1.getD i []).length ≤ 5 := by
  obtain ⟨l, l1, l5, hl⟩ := h.w
  have h8 := h.s8
  obtain ⟨h1, h2⟩ := hl _ (getD_mem (d := []) hi)
  exact ⟨all_up h2 (by omega), by omega⟩
theorem QOk.mark {q : Q2} (h : QOk q) {i : Nat} (hi : i < q.1.length) : inR 0 9 (q.2.getD i 0) = true := inR_up (List.all_eq_true.mp h.m _ (getD_mem (by rw [h.ml]; exact hi))) (by decide)
theorem lot_len {m : Int} {ns : List Int} (h : isLot m ns = true) (hm : m ≤ 7) : ns.all (inR 0 9) = true ∧ ns.length ≤ 10 := by
  obtain ⟨h1, h2⟩ := Bool.and_eq_true_iff.mp h
  have h3 := all_up h1 (show m - 1 ≤ 9 by omega)
  refine ⟨h3, ?_⟩
  have nd : ns.Nodup := List.Pairwise.imp (fun h => by omega) (asc_pw h2)
  exact nodup_le nd fun k hk => in_ten (List.all_eq_true.mp h3 k hk)
theorem POk.lot {p : Int × List (List Int)} (h : POk p) {i : Nat} (hi : i < p.2.length) : (p.2.getD i []).all (inR 0 9) = true ∧ (p.2.getD i []).length ≤ 10 :=
  lot_len (List.all_eq_true.mp h.l _ (getD_mem hi)) (of_decide_eq_true (Bool.and_eq_true_iff.mp h.m).2)
theorem BOk.row {p : Int × List (List Int)} {b : List (List Int)} (hp : POk p) (h : BOk p b) {i : Nat} (hi : i < b.length) : (b.getD i []).all (inR 0 9) = true ∧ (b.getD i []).length ≤ 40 := by
  have h1 := h.r i _ (List.getElem?_eq_getElem hi)
  have e : b.getD i [] = b[i] := getD_of (List.getElem?_eq_getElem hi)
  rw [e]
  unfold rowOk isText at h1
  have h2 := (Bool.and_eq_true_iff.mp h1).1
  have h3 := hp.t5
  exact ⟨all_up (Bool.and_eq_true_iff.mp h2).2 (by omega), of_decide_eq_true (Bool.and_eq_true_iff.mp h2).1⟩
theorem BOk.len {p : Int × List (List Int)} {b : List (List Int)} (hp : POk p) (h : BOk p b) : b.length ≤ 7 := by
  have h1 := of_decide_eq_true (Bool.and_eq_true_iff.mp hp.m).2
  have h2 := h.n
  omega
theorem tl_lens : ("state " : Str).length = 6 ∧ (" answer " : Str).length = 8 ∧ (" to" : Str).length = 3 ∧ ("letter " : Str).length = 7 ∧ ("messengers " : Str).length = 11 ∧ ("messenger " : Str).length = 10 ∧ (" brings" : Str).length = 7 ∧ ("\n" : Str).length = 1 := by decide +kernel
theorem qLine_len {q : Q2} (h : QOk q) {i : Nat} (hi : i < q.1.length) : (qLine q i).length ≤ 90 := by
  obtain ⟨a1, a2, a3, a4, a5, a6, a7, a8⟩ := tl_lens
  have h8 := h.s8
  obtain ⟨h1, h2⟩ := h.row hi
  have := wordsT_len h1
  unfold qLine
  simp only [str_len, a1, a2, a3, num1 (show i < 10 by omega), (num_len (h.mark hi)).1]
  omega
theorem pLine_len {p : Int × List (List Int)} (h : POk p) {i : Nat} (hi : i < p.2.length) : (pLine p i).length ≤ 90 := by
  obtain ⟨a1, a2, a3, a4, a5, a6, a7, a8⟩ := tl_lens
  have h8 := h.t5
  obtain ⟨h1, h2⟩ := h.lot hi
  have := wordsT_len h1
  unfold pLine
  simp only [str_len, a4, a3, num1 (show i < 10 by omega)]
  omega
theorem pHead_dig {p : Int × List (List Int)} (h : POk p) : inR 0 9 p.1 = true := by
  obtain ⟨h1, h2⟩ := Bool.and_eq_true_iff.mp h.m
  exact Bool.and_eq_true_iff.mpr ⟨decide_eq_true (by have := of_decide_eq_true h1; omega), decide_eq_true (by have := of_decide_eq_true h2; omega)⟩
theorem pHead_len {p : Int × List (List Int)} (h : POk p) : (pHead p).length ≤ 90 := by
  obtain ⟨a1, a2, a3, a4, a5, a6, a7, a8⟩ := tl_lens
  unfold pHead
  rw [str_len, a5, (num_len (pHead_dig h)).1]
  decide
theorem bLine_len {p : Int × List (List Int)} {b : List (List Int)} (hp : POk p) (h : BOk p b) {i : Nat} (hi : i < b.length) : (bLine b i).length ≤ 100 := by
  obtain ⟨a1, a2, a3, a4, a5, a6, a7, a8⟩ := tl_lens
  have h8 := h.len hp
  obtain ⟨h1, h2⟩ := h.row hp hi
  have := wordsT_len h1
  unfold bLine
  simp only [str_len, a6, a7, num1 (show i < 10 by omega)]
  omega
theorem range_take {f : Nat → Str} (i : Nat) : (List.range (i + 1)).map f = (List.range i).map f ++ [f i] := by
  rw [List.range_succ, List.map_append]
  rfl
section
variable {P : Program} {w : World} {K : Fg} {mg : Str → Option Value} {base : Heap} {C : Addr}
def rQText : List PyData → PyData → Prop := fun ds r => ∃ q, QOk q ∧ ds = [qD q] ∧ r = .str (textOf (qLines q))
abbrev squestion_text : Stmt := topS 26
theorem scquestion_text : FnScope ["question", "found", "state", "step"] ["question"] (defScope squestion_text) := ⟨rfl, rfl, rfl, by decide +kernel, rfl, by decide +kernel, by decide +kernel⟩
theorem ok_question_text (T : Tx K mg C) (B : Tbs K mg base) : CallOk P w K mg base CX0 4 "question_text" ["question"] (SpR K rQText) := by
  have cneed_question := ok_need_question (P := P) (w := w) (base := base) T B
  have cwords_of := ok_words_of (P := P) (w := w) (base := base) T
  refine (T.fn 11 _ _ rfl).okR (k := 3) (N := ["question", "found", "state", "step"]) scquestion_text (fun _ _ _ _ _ _ us hl => match us, hl with | [_], _ => rfl) (fun ds r h => ?_) fun A outer s H0 E hr => ⟨_, (pss_cons (ps_expr (pe_c cneed_question (hr.mono (by decide)) pass0 (pa_cons (pv 0) pa_nil)))
  (pss_cons (ps_set (i := 1) scquestion_text.nd rfl (.inl rfl) pe_str)
  (pss_cons (ps_for PassesOwn.never rfl (pi_enumT (by rfl) T.enum (pa_cons (pe_ix (r := rIxT K) ix_tup (pv 0) pe_int (fun _ _ => rfl)) pa_nil)) (pg_tup rfl (pgs_cons (pg_name (i := 2) scquestion_text.nd rfl (.inl rfl)) (pgs_cons (pg_name (i := 3) scquestion_text.nd rfl (.inl rfl)) pgs_nil))) (pss_one (ps_aug (i := 1) scquestion_text.nd rfl (.inl rfl) (pe_op op_add_str (pe_op op_add_str (pe_op op_add_str (pe_op op_add_str (pe_op op_add_str (pe_op op_add_str pe_str (pe_callTy call_str_int (by rfl) T.str boot_str (pa_cons (pv 2) pa_nil))) pe_str) (pe_callTy call_str_int (by rfl) T.str boot_str (pa_cons (pe_ix (r := rIxT K) ix_tup (pe_ix (r := rIxT K) ix_tup (pv 0) pe_int (fun _ _ => rfl)) (pv 2) (fun _ _ => rfl)) pa_nil))) pe_str) (pe_c cwords_of (hr.mono (by decide)) pass0 (pa_cons (pv 3) pa_nil))) pe_str) ip_addS)))
  (pss_one (ps_ret (pv 1)))))), fun H ds r vs h a t D kr kn => ?_⟩
  · obtain ⟨q, _, rfl, _⟩ := h
    rfl
  · obtain ⟨q, hq, rfl, rfl⟩ := h
    obtain ⟨x, rfl, hx⟩ := a.one
    obtain ⟨a1, a2, a3, a4, a5, a6, a7, a8⟩ := tl_lens
    have h8 := hq.s8
    refine q_drop (K := K) (ev_call (R := rNeedQ) (d := .none) t (ea1 (ev_var rfl hx)) ⟨q, hq, rfl, rfl⟩) fun H1 g1 => ?_
    refine q_asg (K := K) (d := .str "") ev_str fun v H2 g2 hv => ?_
    cases hv.strE
    have g12 := g1.trans g2
    refine s_for (K := K) (D := { D with nx := _ }) (srk_enumT (ds := q.1.map iD) (ev_ixT (ev_var rfl (hx.gx g12)) ev_int rfl)) fun H3 g3 => ⟨fun i σ' H' => ∃ o2 o3, σ' = [some x, some (.str (textOf ((List.range i).map (qLine q)))), o2, o3] ∧ Gx K H3 H', ⟨none, none, by rw [show (List.range 0).map (qLine q) = [] from rfl, textOf_nil]; rfl, .refl⟩, fun i σ' H' hi ⟨_, _, _, g⟩ => g.kt, fun i z σ' H' H'' hi ⟨o2, o3, h2, g⟩ g4 it => ?_, fun σ' H' ⟨o2, o3, h2, g⟩ => ?_⟩
    · subst h2
      obtain ⟨T', v, u, d, rfl, eT, h3, hd, h4⟩ := it
      obtain ⟨n, hn, rfl⟩ := map_get hd
      have hi : i < q.1.length := by simpa using hi
      refine ⟨T', [v, u], rfl, SqT.of eT, rfl, v, [u], rfl, u, [], rfl, rfl, ?_⟩
      have gg := g12.trans (g3.trans (g.trans g4))
      have egd : q.1.getD i [] = n := getD_of hn
      obtain ⟨r1, r2⟩ := hq.row hi
      have rm := hq.mark hi
      have ll := qLine_len hq hi
      have hwl := wordsT_len r1
      have n1 := num1 (show i < 10 by omega)
      have n2 := num_len rm
      rw [egd] at r1 r2 hwl
      have em : (q.2.map PyData.int)[i]? = some (.int (q.2.getD i 0)) := by
        rw [List.getElem?_map, List.getD_eq_getElem?_getD, List.getElem?_eq_getElem (by rw [hq.ml]; exact hi)]
        rfl
      have hsz : (textOf ((List.range i).map (qLine q))).length ≤ i * 91 := by
        refine Nat.le_trans (textOf_len (k := 90) fun l hl => ?_) (by simp)
        obtain ⟨j, hj, rfl⟩ := List.mem_map.mp hl
        exact qLine_len hq (by have := List.mem_range.mp hj; omega)
      cases h3
      have n1' : (Str.ofString (toString ((i : Nat) : Int))).length = 1 := n1
      have n2' : (Str.ofString (toString (q.2.getD i 0))).length = 1 := n2.1
      refine s_augS (K := K) rfl (b := qLine q i ++ nl) (ev_is (ev_addS (ev_addS (ev_addS (ev_addS (ev_addS (ev_addS ev_str (ev_strI (ev_var (v := .int (i : Nat)) rfl (.int _)) (num_small (n := i) (by omega))) ?_) ev_str ?_) (ev_strI (ev_ixT (ev_ixT (ev_var rfl (hx.gx gg)) ev_int rfl) (ev_var (v := .int (i : Nat)) rfl (.int _)) (atI_nat em)) n2.2) ?_) ev_str ?_) (ev_call (R := rWords) (gg.gt t) (ea1 (ev_var rfl (.inl h4))) ⟨n, r1, by omega, rfl, rfl⟩) ?_) ev_str ?_) ?_) ?_ fun H5 g5 => ?_
      all_goals try first | omega | (simp only [str_len]; omega)
      · show PyData.str (_ ++ nl) = PyData.str (qLine q i ++ nl)
        unfold qLine
        rw [egd]
        rfl
      · rw [str_len]
        have : nl.length = 1 := a8
        omega
      · refine ⟨some (.int (i : Nat)), some u, ?_, g.trans (g4.trans g5)⟩
        rw [range_take, textOf_snoc]
        rfl
    · subst h2
      dsimp only
      refine s_ret (ev_var rfl (.str _)) fun v H4 g4 hv => kr v H4 (g12.trans (g3.trans (g.trans g4))) ?_
      rw [List.length_map] at hv
      exact hv
def rPText : List PyData → PyData → Prop := fun ds r => ∃ p, POk p ∧ ds = [pD p] ∧ r = .str (textOf (pLines p))
abbrev splan_text : Stmt := topS 29
theorem scplan_text : FnScope ["plan", "found", "letter", "lot"] ["plan"] (defScope splan_text) := ⟨rfl, rfl, rfl, by decide +kernel, rfl, by decide +kernel, by decide +kernel⟩
theorem ok_plan_text (T : Tx K mg C) (B : Tbs K mg base) : CallOk P w K mg base CX0 6 "plan_text" ["plan"] (SpR K rPText) := by
  have cneed_plan := ok_need_plan (P := P) (w := w) (base := base) T B
  have cwords_of := ok_words_of (P := P) (w := w) (base := base) T
  refine (T.fn 14 _ _ rfl).okR (k := 5) (N := ["plan", "found", "letter", "lot"]) scplan_text (fun _ _ _ _ _ _ us hl => match us, hl with | [_], _ => rfl) (fun ds r h => ?_) fun A outer s H0 E hr => ⟨_, (pss_cons (ps_expr (pe_c cneed_plan (hr.mono (by decide)) pass0 (pa_cons (pv 0) pa_nil)))
  (pss_cons (ps_set (i := 1) scplan_text.nd rfl (.inl rfl) (pe_op op_add_str (pe_op op_add_str pe_str (pe_callTy call_str_int (by rfl) T.str boot_str (pa_cons (pe_ix (r := rIxT K) ix_tup (pv 0) pe_int (fun _ _ => rfl)) pa_nil))) pe_str))
  (pss_cons (ps_for PassesOwn.never rfl (pi_enumT (by rfl) T.enum (pa_cons (pe_ix (r := rIxT K) ix_tup (pv 0) pe_int (fun _ _ => rfl)) pa_nil)) (pg_tup rfl (pgs_cons (pg_name (i := 2) scplan_text.nd rfl (.inl rfl)) (pgs_cons (pg_name (i := 3) scplan_text.nd rfl (.inl rfl)) pgs_nil))) (pss_one (ps_aug (i := 1) scplan_text.nd rfl (.inl rfl) (pe_op op_add_str (pe_op op_add_str (pe_op op_add_str (pe_op op_add_str pe_str (pe_callTy call_str_int (by rfl) T.str boot_str (pa_cons (pv 2) pa_nil))) pe_str) (pe_c cwords_of (hr.mono (by decide)) pass0 (pa_cons (pv 3) pa_nil))) pe_str) ip_addS)))
  (pss_one (ps_ret (pv 1)))))), fun H ds r vs h a t D kr kn => ?_⟩
  · obtain ⟨q, _, rfl, _⟩ := h
    rfl
  · obtain ⟨p, hp, rfl, rfl⟩ := h
    obtain ⟨x, rfl, hx⟩ := a.one
    obtain ⟨a1, a2, a3, a4, a5, a6, a7, a8⟩ := tl_lens
    have h8 := hp.t5
    have nh := num_len (pHead_dig hp)
    have nh' : (Str.ofString (toString p.1)).length = 1 := nh.1
    have hhl := pHead_len hp
    have a8' : nl.length = 1 := a8
    refine q_drop (K := K) (ev_call (R := rNeedP) (d := .none) t (ea1 (ev_var rfl hx)) ⟨p, hp, rfl, rfl⟩) fun H1 g1 => ?_
    refine q_asg (K := K) (d := .str (pHead p ++ nl)) (ev_addS (ev_addS ev_str (ev_strI (ev_ixT (d := .int p.1) (ev_var rfl (hx.gx g1)) ev_int rfl) nh.2) (by omega)) ev_str (by omega)) fun v H2 g2 hv => ?_
    cases hv.strE
    have g12 := g1.trans g2
    refine s_for (K := K) (D := { D with nx := _ }) (srk_enumT (ds := p.2.map iD) (ev_ixT (ev_var rfl (hx.gx g12)) ev_int rfl)) fun H3 g3 => ⟨fun i σ' H' => ∃ o2 o3, σ' = [some x, some (.str (textOf (pHead p :: (List.range i).map (pLine p)))), o2, o3] ∧ Gx K H3 H', ⟨none, none, by rw [show pHead p :: (List.range 0).map (pLine p) = [pHead p] from rfl, textOf_one]; rfl, .refl⟩, fun i σ' H' hi ⟨_, _, _, g⟩ => g.kt, fun i z σ' H' H'' hi ⟨o2, o3, h2, g⟩ g4 it => ?_, fun σ' H' ⟨o2, o3, h2, g⟩ => ?_⟩
    · subst h2
      obtain ⟨T', v, u, d, rfl, eT, h3, hd, h4⟩ := it
      obtain ⟨n, hn, rfl⟩ := map_get hd
      have hi : i < p.2.length := by simpa using hi
      refine ⟨T', [v, u], rfl, SqT.of eT, rfl, v, [u], rfl, u, [], rfl, rfl, ?_⟩
      have gg := g12.trans (g3.trans (g.trans g4))
      have egd : p.2.getD i [] = n := getD_of hn
      obtain ⟨r1, r2⟩ := hp.lot hi
      have ll := pLine_len hp hi
      have hwl := wordsT_len r1
      have n1 := num1 (show i < 10 by omega)
      rw [egd] at r1 r2 hwl
      have hsz : (textOf (pHead p :: (List.range i).map (pLine p))).length ≤ (i + 1) * 91 := by
        refine Nat.le_trans (textOf_len (k := 90) fun l hl => ?_) (by simp)
        rcases List.mem_cons.mp hl with rfl | hl
        · exact hhl
        · obtain ⟨j, hj, rfl⟩ := List.mem_map.mp hl
          exact pLine_len hp (by have := List.mem_range.mp hj; omega)
      cases h3
      have n1' : (Str.ofString (toString ((i : Nat) : Int))).length = 1 := n1
      refine s_augS (K := K) rfl (b := pLine p i ++ nl) (ev_is (ev_addS (ev_addS (ev_addS (ev_addS ev_str (ev_strI (ev_var (v := .int (i : Nat)) rfl (.int _)) (num_small (n := i) (by omega))) ?_) ev_str ?_) (ev_call (R := rWords) (gg.gt t) (ea1 (ev_var rfl (.inl h4))) ⟨n, r1, by omega, rfl, rfl⟩) ?_) ev_str ?_) ?_) ?_ fun H5 g5 => ?_
      all_goals try first | omega | (simp only [str_len]; omega)
      · show PyData.str (_ ++ nl) = PyData.str (pLine p i ++ nl)
        unfold pLine
        rw [egd]
        rfl
      · refine ⟨some (.int (i : Nat)), some u, ?_, g.trans (g4.trans g5)⟩
        rw [range_take, ← List.cons_append, textOf_snoc]
        rfl
    · subst h2
      dsimp only
      refine s_ret (ev_var rfl (.str _)) fun v H4 g4 hv => kr v H4 (g12.trans (g3.trans (g.trans g4))) ?_
      rw [List.length_map] at hv
      exact hv
def rBText : List PyData → PyData → Prop := fun ds r => ∃ p b, POk p ∧ BOk p b ∧ ds = [pD p, tD b] ∧ r = .str (textOf (bLines b))
abbrev sbrought_text : Stmt := topS 31
theorem scbrought_text : FnScope ["plan", "post", "one", "row"] ["plan", "post"] (defScope sbrought_text) := ⟨rfl, rfl, rfl, by decide +kernel, rfl, by decide +kernel, by decide +kernel⟩
theorem ok_brought_text (T : Tx K mg C) (B : Tbs K mg base) : CallOk P w K mg base CX0 6 "brought_text" ["plan", "post"] (SpR K rBText) := by
  have cneed_plan := ok_need_plan (P := P) (w := w) (base := base) T B
  have cneed_post := ok_need_post (P := P) (w := w) (base := base) T B
  have cwords_of := ok_words_of (P := P) (w := w) (base := base) T
  refine (T.fn 16 _ _ rfl).okR (k := 5) (N := ["plan", "post", "one", "row"]) scbrought_text (fun _ _ _ _ _ _ us hl => match us, hl with | [_, _], _ => rfl) (fun ds r h => ?_) fun A outer s H0 E hr => ⟨_, (pss_cons (ps_expr (pe_c cneed_plan (hr.mono (by decide)) pass0 (pa_cons (pv 0) pa_nil)))
  (pss_cons (ps_expr (pe_c cneed_post (hr.mono (by decide)) pass0 (pa_cons (pv 0) (pa_cons (pv 1) pa_nil))))
  (pss_one (ps_ret (pe_join pe_str (pe_lc (g := gTup K 2 (gCons (gName 2) (gCons (gName 3) gNil))) (own := [("one", 2), ("row", 3)]) rfl scbrought_text.nd (pi_enumT (by rfl) T.enum (pa_cons (pv 1) pa_nil)) (blkOk_by (N := ["plan", "post", "one", "row"]) (sc := defScope sbrought_text) (by decide +kernel)) (fun _ _ _ _ _ => (pg_tup rfl (pgs_cons (pg_name (i := 2) scbrought_text.nd rfl (.inl rfl)) (pgs_cons (pg_name (i := 3) scbrought_text.nd rfl (.inl rfl)) pgs_nil)))) (fun _ _ _ _ _ => pts_nil) (fun _ _ _ _ _ => (pe_op op_add_str (pe_op op_add_str (pe_op op_add_str (pe_op op_add_str pe_str (pe_callTy call_str_int (by rfl) T.str boot_str (pa_cons (pv 2) pa_nil))) pe_str) (pe_c cwords_of (hr.mono (by decide)) pass0 (pa_cons (pv 3) pa_nil))) pe_str)))))))), fun H ds r vs h a t D kr kn => ?_⟩
  · obtain ⟨p, b, _, _, rfl, _⟩ := h
    rfl
  · obtain ⟨p, b, hp, hb, rfl, rfl⟩ := h
    obtain ⟨x, y, rfl, hx, hy⟩ := a.two
    obtain ⟨a1, a2, a3, a4, a5, a6, a7, a8⟩ := tl_lens
    have h7 := hb.len hp
    refine q_drop (K := K) (ev_call (R := rNeedP) (d := .none) t (ea1 (ev_var rfl hx)) ⟨p, hp, rfl, rfl⟩) fun H1 g1 => ?_
    refine q_drop (K := K) (ev_call (R := rNeedB) (d := .none) (g1.gt t) (ea2 (ev_var rfl (hx.gx g1)) (ev_var rfl (hy.gx g1))) ⟨p, b, hb, rfl, rfl⟩) fun H2 g2 => ?_
    have g12 := g1.trans g2
    refine s_ret (ev_join (ws := (bLines b).map fun l => l ++ nl) ev_str (ev_is (En.ev (en_lc (keep := fun _ => true) (val := fun i => PyData.str (bLine b i ++ nl)) (src_enumT (ds := b.map iD) (ev_var rfl (hy.gx g12))) (turn_pair (fun _ _ => rfl) (fun _ _ _ _ _ _ _ _ _ _ => et_yes) fun i v u d H' hi g hv hd hu _ => ?_) (fun i hi _ => rfl) (by rw [List.length_map]; omega))) ?_) ?_) fun v H4 g4 hv => kr v H4 (g12.trans g4) hv
    · obtain ⟨n, hn, rfl⟩ := map_get hd
      have hi : i < b.length := by simpa using hi
      cases hv
      have egd : b.getD i [] = n := getD_of hn
      obtain ⟨r1, r2⟩ := hb.row hp hi
      have hwl := wordsT_len r1
      have n1 := num1 (show i < 10 by omega)
      have n1' : (Str.ofString (toString ((i : Nat) : Int))).length = 1 := n1
      rw [egd] at r1 r2 hwl
      have tt := (g12.trans g).gt t
      refine ev_is (ev_addS (ev_addS (ev_addS (ev_addS ev_str (ev_strI (ev_var (v := .int (i : Nat)) rfl (.int _)) (num_small (n := i) (by omega))) ?_) ev_str ?_) (ev_call (R := rWords) tt (ea1 (ev_var rfl (.inl hu))) ⟨n, r1, by omega, rfl, rfl⟩) ?_) ev_str ?_) ?_
      all_goals try first | omega | (simp only [str_len]; omega)
      · show PyData.str (_ ++ nl) = PyData.str (bLine b i ++ nl)
        unfold bLine
        rw [egd]
        rfl
    · unfold selD bLines
      rw [List.filter_eq_self.mpr (fun _ _ => rfl), List.length_map, List.map_map, List.map_map]
      rfl
    · have e : (((bLines b).map fun l => l ++ nl).map (·.length)).sum ≤ (bLines b).length * 101 := by
        rw [List.map_map]
        refine sum_le fun l hl => ?_
        obtain ⟨j, hj, rfl⟩ := List.mem_map.mp hl
        have := bLine_len hp hb (List.mem_range.mp hj)
        show (bLine b j ++ nl).length ≤ 101
        rw [str_len]
        have : nl.length = 1 := a8
        omega
      have e2 : (bLines b).length = b.length := by simp [bLines]
      have e3 : ("" : Str).length = 0 := rfl
      rw [e3]
      omega
end
end LP

/-! LpW15 -/
set_option maxHeartbeats 4000000
/-! Walks: _law_alike of equal data. -/
namespace LP
open PySem PySem.Spec PyProof.Rows L2 RZ
/-- plain data of a depth below k -/
def Alk : Nat → PyData → Prop
  | 0, _ => False
  | k + 1, d => (∃ i, d = .int i) ∨ (∃ s, d = .str s ∧ asciiT s = true) ∨ ∃ ds, d = .tuple ds ∧ ds.length ≤ 1000 ∧ ∀ x ∈ ds, Alk k x
theorem shaped_int (i : Int) : SeqAt.shaped (.int i) = true := by
  unfold SeqAt.shaped
  simp [PyData.canLay0, PyData.depth]
theorem shaped_str {s : Str} (h : asciiT s = true) : SeqAt.shaped (.str s) = true := by
  unfold SeqAt.shaped
  simp [PyData.canLay0, PyData.depth, strOk_ascii h]
theorem ints_sel (n : Nat) (keep : Nat → Bool) : selD n keep (fun i => PyData.int (i : Nat)) = (((List.range n).filter keep).map fun i => ((i : Nat) : Int)).map PyData.int := by
  unfold selD
  rw [List.map_map]
  rfl
section
variable {P : Program} {w : World} {K : Fg} {mg : Str → Option Value} {base : Heap} {C : Addr}
def rAlk (k : Nat) : List PyData → PyData → Prop := fun ds r => ∃ d, Alk k d ∧ ds = [d, d] ∧ r = .bool true
abbrev slaw_alike : Stmt := topS 36
theorem sclaw_alike : FnScope ["_law_found", "_law_due", "_law_k"] ["_law_found", "_law_due"] (defScope slaw_alike) := ⟨rfl, rfl, rfl, by decide +kernel, rfl, by decide +kernel, by decide +kernel⟩
theorem ok_law_alike (T : Tx K mg C) : ∀ k : Nat, CallOk P w K mg base CX0 k "_law_alike" ["_law_found", "_law_due"] (SpR K (rAlk k))
  | 0 => by
    obtain ⟨gm, fd, F⟩ := T.fn 20 _ _ rfl
    have no : ∀ ds r, ¬ rAlk 0 ds r := fun ds r ⟨d, h, _⟩ => h
    exact ⟨gm, F.kp, fd, ⟨fun vs H Q E ⟨ds, r, _, h, _⟩ => (no _ _ h).elim, fun A outer s H args us vs Q E _ _ _ _ ⟨ds, r, _, h, _⟩ => (no _ _ h).elim⟩, F.bindsN fun _ _ _ _ _ _ us hl => match us, hl with | [_, _], _ => rfl⟩
  | k + 1 => by
    have c_law_alike := ok_law_alike T k
    refine (T.fn 20 _ _ rfl).okR (k := k) (N := ["_law_found", "_law_due", "_law_k"]) sclaw_alike (fun _ _ _ _ _ _ us hl => match us, hl with | [_, _], _ => rfl) (fun ds r h => ?_) fun A outer s H0 E hr => ⟨_, (pss_cons (ps_if (pt_val (pe_callB (r := rIsiT K) call_isiT (by rfl) T.isi boot_isinstance (pa_cons (pv 1) (pa_cons (pe_tup (pa_cons (pe_bltn (v := .ty "tuple") (by rfl) T.tuple boot_tuple rfl) (pa_cons (pe_bltn (v := .ty "list") (by rfl) T.list boot_list rfl) pa_nil))) pa_nil)))) (pss_cons (ps_if (L2.PW.pt (pw_or (pt_not (pt_val (pe_callB (r := rIsiT K) call_isiT (by rfl) T.isi boot_isinstance (pa_cons (pv 0) (pa_cons (pe_tup (pa_cons (pe_bltn (v := .ty "tuple") (by rfl) T.tuple boot_tuple rfl) (pa_cons (pe_bltn (v := .ty "list") (by rfl) T.list boot_list rfl) pa_nil))) pa_nil))))) (pw_or1 (pt_cmpR op_ne (pe_callB (r := rIsi K) call_isi (by rfl) T.isi boot_isinstance (pa_cons (pv 0) (pa_cons (pe_bltn (v := .ty "list") (by rfl) T.list boot_list rfl) pa_nil))) (pe_callB (r := rIsi K) call_isi (by rfl) T.isi boot_isinstance (pa_cons (pv 1) (pa_cons (pe_bltn (v := .ty "list") (by rfl) T.list boot_list rfl) pa_nil))) (nomark _))))) (pss_one (ps_ret pe_bl)) pss_nil)
  (pss_cons (ps_if (pt_cmpR op_ne (pe_callB (r := rLenSq K) call_len_seq (by rfl) T.len boot_len (pa_cons (pv 0) pa_nil)) (pe_callB (r := rLenSq K) call_len_seq (by rfl) T.len boot_len (pa_cons (pv 1) pa_nil)) (nomark _)) (pss_one (ps_ret pe_bl)) pss_nil)
  (pss_one (ps_ret (pe_cmpR (r := rEqD K) (op_eqD hr.units) (pe_lc (own := [("_law_k", 2)]) rfl sclaw_alike.nd (pi_range1 (by rfl) T.range (pa_cons (pe_callB (r := rLenSq K) call_len_seq (by rfl) T.len boot_len (pa_cons (pv 1) pa_nil)) pa_nil)) (blkOk_by (N := ["_law_found", "_law_due", "_law_k"]) (sc := defScope slaw_alike) (by decide +kernel)) (fun _ _ _ _ _ => (pg_name (i := 2) sclaw_alike.nd rfl (.inl rfl))) (fun _ _ _ _ _ => (pts_one (pt_not (pt_val (pe_c c_law_alike (hr.mono (Nat.le_refl _)) pass0 (pa_cons (pe_ix (r := rIxT K) ix_tup (pv 0) (pv 2) (fun _ _ => rfl)) (pa_cons (pe_ix (r := rIxT K) ix_tup (pv 1) (pv 2) (fun _ _ => rfl)) pa_nil))))))) (fun _ _ _ _ _ => (pv 2))) (pe_lst pa_nil) (nomark _)))))) pss_nil)
  (pss_cons (ps_if (L2.PW.pt (pw_or (pt_cmpR op_isN (pv 1) pe_non (nomark _)) (pw_or1 (pt_val (pe_callB (r := rIsi K) call_isi (by rfl) T.isi boot_isinstance (pa_cons (pv 1) (pa_cons (pe_bltn (v := .ty "str") (by rfl) T.str boot_str rfl) pa_nil))))))) (pss_one (ps_ret (pe_and (pe_cmpR (r := rEqD K) (op_eqD hr.units) (pv 0) (pv 1) (nomark _)) (pe_one (pe_cmpR op_eq (pe_callB (r := rIsi K) call_isi (by rfl) T.isi boot_isinstance (pa_cons (pv 0) (pa_cons (pe_bltn (v := .ty "str") (by rfl) T.str boot_str rfl) pa_nil))) (pe_callB (r := rIsi K) call_isi (by rfl) T.isi boot_isinstance (pa_cons (pv 1) (pa_cons (pe_bltn (v := .ty "str") (by rfl) T.str boot_str rfl) pa_nil))) (nomark _)))))) pss_nil)
  (pss_one (ps_ret (pe_and (pe_callB (r := rIsi K) call_isi (by rfl) T.isi boot_isinstance (pa_cons (pv 0) (pa_cons (pe_bltn (v := .ty "int") (by rfl) T.int boot_int rfl) pa_nil))) (pe_and (pe_cmpR op_eq (pe_callB (r := rIsi K) call_isi (by rfl) T.isi boot_isinstance (pa_cons (pv 0) (pa_cons (pe_bltn (v := .ty "bool") (by rfl) T.bool boot_bool rfl) pa_nil))) (pe_callB (r := rIsi K) call_isi (by rfl) T.isi boot_isinstance (pa_cons (pv 1) (pa_cons (pe_bltn (v := .ty "bool") (by rfl) T.bool boot_bool rfl) pa_nil))) (nomark _)) (pe_one (pe_cmpR (r := rEqD K) (op_eqD hr.units) (pv 0) (pv 1) (nomark _))))))))), fun H ds r vs h a t D kr kn => ?_⟩
    · obtain ⟨d, _, rfl, _⟩ := h
      rfl
    · obtain ⟨d, hd, rfl, rfl⟩ := h
      obtain ⟨x, y, rfl, hx, hy⟩ := a.two
      rcases hd with ⟨i, rfl⟩ | ⟨s, rfl, hs⟩ | ⟨ds, rfl, hl, hds⟩
      · refine q_when (K := K) (b := false) (et_B (ev_isi2 (b := false) (c := false) (ev_var rfl hy) rfl rfl)) (fun hb => nomatch hb) fun _ H1 g1 => ?_
        refine q_when (K := K) (b := false) (et_is (et_or (b := false) (et_test (ev_isN (ev_var rfl (hy.gx g1)))) fun _ => et_B (ev_isi (ev_var rfl (hy.gx g1)) rfl)) rfl) (fun hb => nomatch hb) fun _ H2 g2 => ?_
        have g12 := g1.trans g2
        refine s_ret (ev_is (ev_andV (ev_isi (ev_var rfl (hx.gx g12)) rfl) fun _ => ev_andV (ev_eqB (ev_isi (ev_var rfl (hx.gx g12)) rfl) (ev_isi (ev_var rfl (hy.gx g12)) rfl)) fun _ => ev_eqD (ev_var rfl (hx.gx g12)) (ev_var rfl (hy.gx g12)) (shaped_int i) (shaped_int i)) ?_) fun v H3 g3 hv => kr v H3 (g12.trans g3) hv
        simp [PyData.eqv]
      · refine q_when (K := K) (b := false) (et_B (ev_isi2 (b := false) (c := false) (ev_var rfl hy) rfl rfl)) (fun hb => nomatch hb) fun _ H1 g1 => ?_
        refine q_when (K := K) (b := true) (et_is (et_or (b := true) (et_test (ev_isN (ev_var rfl (hy.gx g1)))) fun _ => et_B (ev_isi (ev_var rfl (hy.gx g1)) rfl)) rfl) (fun _ H2 g2 => ?_) fun hb => nomatch hb
        have g12 := g1.trans g2
        refine s_ret (ev_is (ev_andV (ev_eqD (ev_var rfl (hx.gx g12)) (ev_var rfl (hy.gx g12)) (shaped_str hs) (shaped_str hs)) fun _ => ev_eqB (ev_isi (ev_var rfl (hx.gx g12)) rfl) (ev_isi (ev_var rfl (hy.gx g12)) rfl)) ?_) fun v H3 g3 hv => kr v H3 (g12.trans g3) hv
        simp [PyData.eqv]
      · refine q_when (K := K) (b := true) (et_B (ev_isi2 (b := true) (c := false) (ev_var rfl hy) rfl rfl)) (fun _ H1 g1 => ?_) fun hb => nomatch hb
        refine q_when (K := K) (b := false) (et_is (et_or (b := false) (et_not (et_B (ev_isi2 (b := true) (c := false) (ev_var rfl (hx.gx g1)) rfl rfl))) fun _ => et_test (ev_neB (ev_isi (b := false) (ev_var rfl (hx.gx g1)) rfl) (ev_isi (b := false) (ev_var rfl (hy.gx g1)) rfl))) rfl) (fun hb => nomatch hb) fun _ H2 g2 => ?_
        have g12 := g1.trans g2
        refine q_when (K := K) (b := false) (et_is (et_test (ev_neI (ev_lenL (ev_var rfl (hx.gx g12)) (.inr rfl)) (ev_lenL (ev_var rfl (hy.gx g12)) (.inr rfl)))) (by simp)) (fun hb => nomatch hb) fun _ H3 g3 => ?_
        have g13 := g12.trans g3
        have hsh : SeqAt.shaped (.list (selD ds.length (fun _ => false) fun i => PyData.int (i : Nat))) = true := by
          rw [ints_sel]
          exact shaped_ints _
        refine s_ret (ev_is (ev_eqD (d := .list (selD ds.length (fun _ => false) fun i => PyData.int (i : Nat))) (e := .list []) (En.ev (en_lc (src_range1 (ev_lenL (ev_var rfl (hy.gx g13)) (.inr rfl)) (by omega)) (turn_name (fun _ => rfl) (fun i z H' hi g it => ?_) fun i z H' hi g it hb => nomatch hb) (fun i hi hb => nomatch hb) (by omega))) (En.ev (en_lst ea_nil rfl (by decide))) hsh shaped_nil) ?_) fun v H4 g4 hv => kr v H4 ((g1.trans (g2.trans g3)).trans g4) hv
        · subst it
          have e : ds[i]? = some ds[i] := List.getElem?_eq_getElem hi
          have gg := g13.trans g
          exact et_is (et_not (et_B (ev_call (R := rAlk k) (d := .bool true) (gg.gt t) (ea2 (ev_ixT (d := ds[i]) (ev_var rfl (hx.gx gg)) (ev_var (v := .int (i : Nat)) rfl (.int _)) (atI_nat e)) (ev_ixT (d := ds[i]) (ev_var rfl (hy.gx gg)) (ev_var (v := .int (i : Nat)) rfl (.int _)) (atI_nat e))) ⟨ds[i], hds _ (List.getElem_mem hi), rfl, rfl⟩))) rfl
        · rw [eqv_nil]
          unfold selD
          simp
end
end LP

/-! LpM -/
set_option maxHeartbeats 4000000
/-! The level of data where a row of draws changes. -/
namespace LP
open PySem PySem.Spec PyProof.Rows L2 RZ
/-- the row at l: the script at a, three numbers -/
def Rw (l a : Addr) (H : Hp) : Prop := ∃ i s r : Int, H l = some (.lst [.ref a, .int i, .int s, .int r]) ∧ 0 ≤ i ∧ 0 ≤ s ∧ s < 2147483647
def Scr (K : Fg) (a : Addr) (B : Hp) : Prop := ∃ ns : List Int, SqL K B a (ns.map V.int) ∧ ns.length ≤ 1000
section
variable {K : Fg} {l a p : Addr} {H H1 H2 H3 B : Hp} {o : HO} {xs : List V} {v : V} {d : PyData}
theorem Rw.lst (h : Rw l a H) : ∃ xs, H l = some (.lst xs) := by
  obtain ⟨i, s, r, h, _⟩ := h
  exact ⟨_, h⟩
theorem Rw.to (h : Rw l a H1) (e : H2 l = H1 l) : Rw l a H2 := by
  obtain ⟨i, s, r, h, c⟩ := h
  exact ⟨i, s, r, e.trans h, c⟩
theorem Rw.gx (h : Rw l a H1) (g : Gx K H1 H2) : Rw l a H2 := by
  obtain ⟨i, s, r, h, c⟩ := h
  exact ⟨i, s, r, g.lst h, c⟩
theorem Rw.upd (h : Rw l a H) (hp : p ≠ l) : Rw l a (upd H p o) := h.to (upd_ne (Ne.symm hp))
theorem Scr.gx (h : Scr K a B) (g : Gx K B H) : Scr K a H := by
  obtain ⟨ns, h, c⟩ := h
  exact ⟨ns, g.seqL h, c⟩
theorem del_some {b : Addr} {u : HO} (h : del H l b = some u) : b ≠ l ∧ H b = some u := by
  by_cases e : b = l
  · rw [e, del_same] at h
    cases h
  · rw [del_ne e] at h
    exact ⟨e, h⟩
theorem gx_in : Gx K (del H l) H := .of fun b u h => (del_some h).2
theorem gx_out (g : Gx K B H) (n : B l = none) (m : H l = some (.lst xs)) : Gx K B (del H l) := ⟨fun t x hx => by
  obtain ⟨ps, h1, h2⟩ := g.gt t x hx
  exact ⟨ps, by rw [del_ne (ne_of h1 m (by intro z; cases z))]; exact h1, h2⟩, fun b u h nt => by
  rw [del_ne (ne_of_none h n)]
  exact g.keep b u h nt, fun b ps h => by
  rw [del_ne (ne_of_none h n)]
  exact g.tbl b ps h⟩
theorem gx_dd (g : Gx K H1 H2) (m : H1 l = some (.lst xs)) : Gx K (del H1 l) (del H2 l) := gx_out (gx_in.trans g) del_same (g.lst m)
theorem del_upd (h : p ≠ l) : del (upd H p o) l = upd (del H l) p o := by
  funext b
  by_cases e : b = l
  · subst e
    rw [del_same, upd_ne (Ne.symm h), del_same]
  · rw [del_ne e]
    by_cases e2 : b = p
    · subst e2
      rw [upd_same, upd_same]
    · rw [upd_ne e2, upd_ne e2, del_ne e]
theorem del_upd_same : del (upd H l o) l = del H l := by
  funext b
  by_cases e : b = l
  · subst e
    rw [del_same, del_same]
  · rw [del_ne e, del_ne e, upd_ne e]
theorem kt_del (m : H l = some (.lst xs)) : Kt H (del H l) := fun b ys h => by
  rw [del_ne (ne_of h m (by intro z; cases z))]
  exact h
theorem kt_dd (g : Gx K (del H1 l) (del H2 l)) (m : H1 l = some (.lst xs)) : Kt H1 H2 := fun b ys h => (del_some (g.kt b ys (kt_del m b ys h))).2
theorem Dv.dl (h : Dv H v d) (p : plainD d = true) (m : H l = some (.lst xs)) : Dv (del H l) v d := .inl ((h.tv p).kt (kt_del m))
theorem Dv.ud (h : Dv (del H l) v d) : Dv H v d := h.gx (K := []) gx_in
theorem DvAll.ud {vs : List V} {ds : List PyData} (h : DvAll (del H l) vs ds) : DvAll H vs ds := h.gx (K := []) gx_in
end
def EvM (K : Fg) (l a : Addr) (te : TE) (σ : L2.St) (B : Hp) (G : PyData → Prop) : Prop := ∀ H1, Gx K B (del H1 l) → Rw l a H1 → ∀ Q : VK, (∀ d v H2, G d → Gx K (del H1 l) (del H2 l) → Rw l a H2 → Dv (del H2 l) v d → Q v H2) → te σ H1 Q
def EaM (K : Fg) (l a : Addr) (ta : TA) (σ : L2.St) (B : Hp) (G : List PyData → Prop) : Prop := ∀ H1, Gx K B (del H1 l) → Rw l a H1 → ∀ Q : List V → Hp → Prop, (∀ ds vs H2, G ds → Gx K (del H1 l) (del H2 l) → Rw l a H2 → DvAll (del H2 l) vs ds → Q vs H2) → ta σ H1 Q
def EtM (K : Fg) (l a : Addr) (tt : TT) (σ : L2.St) (B : Hp) (GB : Bool → Prop) : Prop := ∀ H1, Gx K B (del H1 l) → Rw l a H1 → ∀ Q : Bool → Hp → Prop, (∀ b H2, GB b → Gx K (del H1 l) (del H2 l) → Rw l a H2 → Q b H2) → tt σ H1 Q
section
variable {K : Fg} {l a : Addr} {H B B' : Hp} {σ : L2.St} {te ta tb' tc : TE} {G G1 G2 : PyData → Prop} {d e : PyData} {D : Ends} {tt : TT}
theorem EvM.gx (g : Gx K B B') (h : EvM K l a te σ B G) : EvM K l a te σ B' G := fun H1 a rw Q q => h H1 (g.trans a) rw Q q
theorem EvM.imp (h : EvM K l a te σ B G1) (i : ∀ d, G1 d → G2 d) : EvM K l a te σ B G2 := fun H1 g rw Q q => h H1 g rw Q fun d v H2 hd => q d v H2 (i d hd)
theorem EaM.gx {ta : TA} {G : List PyData → Prop} (g : Gx K B B') (h : EaM K l a ta σ B G) : EaM K l a ta σ B' G := fun H1 a rw Q q => h H1 (g.trans a) rw Q q
theorem em_of (h : Ev K te σ B d) (p : plainD d = true) : EvM K l a te σ B (· = d) := fun H1 g rw Q q => by
  obtain ⟨xs, m⟩ := rw.lst
  exact h H1 (g.trans gx_in) Q fun v H2 g2 hv => q d v H2 rfl (gx_dd g2 m) (rw.gx g2) (hv.dl p (g2.lst m))
theorem em_var {i : Nat} {v : V} (h : σ[i]? = some (some v)) (x : Dv B v d) : EvM K l a (tVar i) σ B (· = d) := fun H1 g rw Q q => ⟨v, h, q d v H1 rfl .refl rw (x.gx g)⟩
theorem em_lst {ds : List PyData} (h : En K te σ B ds) : EvM K l a te σ B (· = .list ds) := fun H1 g rw Q q => by
  obtain ⟨xs, m⟩ := rw.lst
  refine h H1 (g.trans gx_in) Q fun b ys H2 g2 nb eb tb => ?_
  have hne : b ≠ l := fun z => by
    rw [z, m] at nb
    cases nb
  exact q _ _ H2 rfl (gx_dd g2 m) (rw.gx g2) (.ofL (by rw [del_ne hne]; exact eb) (tb.kt (kt_del (g2.lst m))))
theorem eam_nil : EaM K l a tNil σ B (· = []) := fun H1 _ rw _ q => q [] [] H1 rfl .refl rw .nil
theorem eam_cons {tr : TA} {GS : List PyData → Prop} (h : EvM K l a ta σ B G) (hr : EaM K l a tr σ B GS) : EaM K l a (tCons ta tr) σ B (fun ds => ∃ d r, ds = d :: r ∧ G d ∧ GS r) := fun H1 g rw Q q =>
  h H1 g rw _ fun d v H2 hd g2 rw2 hv => hr H2 (g.trans g2) rw2 _ fun ds vs H3 hds g3 rw3 hvs => q _ _ H3 ⟨d, ds, rfl, hd, hds⟩ (g2.trans g3) rw3 (.cons (hv.gx g3) hvs)
theorem eam1 (h : EvM K l a ta σ B G) : EaM K l a (tCons ta tNil) σ B (fun ds => ∃ d, ds = [d] ∧ G d) := fun H1 g rw Q q => eam_cons h eam_nil H1 g rw Q fun ds vs H2 ⟨d, r, e, hd, er⟩ => q ds vs H2 ⟨d, by rw [e, er], hd⟩
theorem eam2 (h : EvM K l a ta σ B G1) (h2 : EvM K l a tb' σ B G2) : EaM K l a (tCons ta (tCons tb' tNil)) σ B (fun ds => ∃ d e, ds = [d, e] ∧ G1 d ∧ G2 e) := fun H1 g rw Q q => eam_cons h (eam1 h2) H1 g rw Q fun ds vs H2 ⟨d, r, e, hd, d2, er, h2⟩ => q ds vs H2 ⟨d, d2, by rw [e, er], hd, h2⟩
/-- a two-place operation -/
theorem em_op {r : R2} {f : PyData → PyData → PyData} (ha : EvM K l a ta σ B G1) (hb : EvM K l a tb' σ B G2) (hr : ∀ d e, G1 d → G2 e → plainD (f d e) = true ∧ ∀ H x y, Dv H x d → Dv H y e → ∀ Q : VK, (∀ v, Dv H v (f d e) → Q v H) → r x y H Q) :
    EvM K l a (tOp r ta tb') σ B (fun z => ∃ d e, G1 d ∧ G2 e ∧ z = f d e) := fun H1 g rw Q q =>
  ha H1 g rw _ fun d x H2 hd g2 rw2 hx => hb H2 (g.trans g2) rw2 _ fun e y H3 he g3 rw3 hy => by
    obtain ⟨hp, hr⟩ := hr d e hd he
    obtain ⟨xs, m⟩ := rw3.lst
    exact hr H3 x y (hx.gx g3).ud hy.ud Q fun v hv => q _ v H3 ⟨d, e, hd, he, rfl⟩ (g2.trans g3) rw3 (hv.dl hp m)
/-- numbers -/
def Ints (I : Int → Prop) : PyData → Prop := fun d => ∃ i, I i ∧ d = .int i
theorem em_add {I J : Int → Prop} (ha : EvM K l a ta σ B (Ints I)) (hb : EvM K l a tb' σ B (Ints J)) : EvM K l a (tOp (rI0 fun i j => .int (i + j)) ta tb') σ B (Ints fun z => ∃ i j, I i ∧ J j ∧ z = i + j) :=
  fun H1 g rw Q q => ha H1 g rw _ fun d x H2 ⟨i, hi, ed⟩ g2 rw2 hx => hb H2 (g.trans g2) rw2 _ fun e y H3 ⟨j, hj, ee⟩ g3 rw3 hy => by
    subst ed ee
    exact ⟨i, j, hx.intE, hy.intE, q _ _ H3 ⟨i + j, ⟨i, j, hi, hj, rfl⟩, rfl⟩ (g2.trans g3) rw3 (.int _)⟩
theorem em_gt {I J : Int → Prop} (ha : EvM K l a ta σ B (Ints I)) (hb : EvM K l a tb' σ B (Ints J)) : EtM K l a (tTest (tOp (rI0 fun i j => .bl (decide (j < i))) ta tb')) σ B (fun _ => True) :=
  fun H1 g rw Q q => ha H1 g rw _ fun d x H2 ⟨i, hi, ed⟩ g2 rw2 hx => hb H2 (g.trans g2) rw2 _ fun e y H3 ⟨j, hj, ee⟩ g3 rw3 hy => by
    subst ed ee
    exact ⟨i, j, hx.intE, hy.intE, _, rfl, q _ H3 True.intro (g2.trans g3) rw3⟩
theorem em_int {i : Int} : EvM K l a (tC (.int i)) σ B (Ints (· = i)) := (em_of ev_int rfl).imp fun d h => ⟨i, rfl, h⟩
theorem em_yes : EtM K l a tYes σ B (· = true) := fun H1 _ rw _ q => q true H1 rfl .refl rw
/-- tuple(..) of a new list -/
theorem em_tupleL {L : List PyData → Prop} (ha : EvM K l a ta σ B (fun d => ∃ ds, d = .list ds ∧ L ds)) : EvM K l a (tCB (rTupOf K) (tCons ta tNil)) σ B (fun d => ∃ ds, d = .tuple ds ∧ L ds) := fun H1 g rw Q q =>
  ha H1 g rw _ fun d v H2 hd g2 rw2 hv => by
    obtain ⟨ds, rfl, hL⟩ := hd
    obtain ⟨b, xs, rfl, e1, e2⟩ := hv.ud.list
    obtain ⟨ys, m⟩ := rw2.lst
    refine ⟨b, xs, rfl, .inl ⟨SqL.of e1, fun p np => ?_⟩⟩
    have hne : p ≠ l := fun z => by
      rw [z, m] at np
      cases np
    have np' : del H2 l p = none := by
      rw [del_ne hne]
      exact np
    refine q _ _ _ ⟨ds, rfl, hL⟩ (g2.trans (by rw [del_upd hne]; exact .new np')) (rw2.upd hne) ?_
    rw [del_upd hne]
    exact .ofT upd_same ((e2.kt (kt_del m)).kt (.new np'))
/-- a tuple display -/
theorem em_tup {ta : TA} {GS : List PyData → Prop} (h : EaM K l a ta σ B GS) (hp : ∀ ds, GS ds → ds.all plainD = true ∧ ds.length ≤ 1000) : EvM K l a (tTup ta) σ B (fun d => ∃ ds, d = .tuple ds ∧ GS ds) := fun H1 g rw Q q =>
  h H1 g rw _ fun ds vs H2 hds g2 rw2 hvs => by
    obtain ⟨ys, m⟩ := rw2.lst
    obtain ⟨h1, h2⟩ := hp ds hds
    refine ⟨sz (by rw [hvs.length]; omega), fun p np => ?_⟩
    have hne : p ≠ l := fun z => by
      rw [z, m] at np
      cases np
    have np' : del H2 l p = none := by
      rw [del_ne hne]
      exact np
    refine q _ _ _ ⟨ds, rfl, hds⟩ (g2.trans (by rw [del_upd hne]; exact .new np')) (rw2.upd hne) ?_
    rw [del_upd hne]
    exact .ofT upd_same ((hvs.tv h1).kt (.new np'))
theorem em_lstd {ta : TA} {GS : List PyData → Prop} (h : EaM K l a ta σ B GS) (hp : ∀ ds, GS ds → ds.all plainD = true ∧ ds.length ≤ 1000) : EvM K l a (tLst ta) σ B (fun d => ∃ ds, d = .list ds ∧ GS ds) := fun H1 g rw Q q =>
  h H1 g rw _ fun ds vs H2 hds g2 rw2 hvs => by
    obtain ⟨ys, m⟩ := rw2.lst
    obtain ⟨h1, h2⟩ := hp ds hds
    refine ⟨sz (by rw [hvs.length]; omega), fun p np => ?_⟩
    have hne : p ≠ l := fun z => by
      rw [z, m] at np
      cases np
    have np' : del H2 l p = none := by
      rw [del_ne hne]
      exact np
    refine q _ _ _ ⟨ds, rfl, hds⟩ (g2.trans (by rw [del_upd hne]; exact .new np')) (rw2.upd hne) ?_
    rw [del_upd hne]
    exact .ofL upd_same ((hvs.tv h1).kt (.new np'))
/-- lists put together -/
theorem em_cat {L1 L2 : List PyData → Prop} (ha : EvM K l a ta σ B (fun d => ∃ ds, d = .list ds ∧ L1 ds)) (hb : EvM K l a tb' σ B (fun d => ∃ ds, d = .list ds ∧ L2 ds)) (hz : ∀ x y, L1 x → L2 y → x.length + y.length ≤ 1000) :
    EvM K l a (tOp rCat ta tb') σ B (fun d => ∃ ds, d = .list ds ∧ ∃ x y, L1 x ∧ L2 y ∧ ds = x ++ y) := fun H1 g rw Q q =>
  ha H1 g rw _ fun d v H2 hd g2 rw2 hv => hb H2 (g.trans g2) rw2 _ fun e u H3 he g3 rw3 hu => by
    obtain ⟨x, rfl, hx⟩ := hd
    obtain ⟨y, rfl, hy⟩ := he
    obtain ⟨b, xs, rfl, e1, e2⟩ := (hv.gx g3).ud.list
    obtain ⟨c, ys, rfl, e3, e4⟩ := hu.ud.list
    obtain ⟨zs, m⟩ := rw3.lst
    have z := hz x y hx hy
    refine ⟨b, c, xs, ys, rfl, rfl, e1, e3, sz (by rw [e2.length, e4.length]; omega), fun p np => ?_⟩
    have hne : p ≠ l := fun z => by
      rw [z, m] at np
      cases np
    have np' : del H3 l p = none := by
      rw [del_ne hne]
      exact np
    refine q _ _ _ ⟨x ++ y, rfl, x, y, hx, hy, rfl⟩ ((g2.trans g3).trans (by rw [del_upd hne]; exact .new np')) (rw3.upd hne) ?_
    rw [del_upd hne]
    exact .ofL upd_same ((((e2.kt (kt_del m)).app (e4.kt (kt_del m)))).kt (.new np'))
/-- b if t else c -/
theorem em_if {b : Bool} (h : EvT K tt σ B b) (h1 : b = true → EvM K l a ta σ B G) (h2 : b = false → EvM K l a tb' σ B G) : EvM K l a (tIf tt ta tb') σ B G := fun H1 g rw Q q => by
  obtain ⟨xs, m⟩ := rw.lst
  refine h H1 (g.trans gx_in) _ fun H2 g2 => ?_
  have gd := gx_dd g2 m
  cases b with
  | true =>
    rw [if_pos rfl]
    exact h1 rfl H2 (g.trans gd) (rw.gx g2) Q fun d v H3 hd g3 => q d v H3 hd (gd.trans g3)
  | false =>
    rw [if_neg Bool.false_ne_true]
    exact h2 rfl H2 (g.trans gd) (rw.gx g2) Q fun d v H3 hd g3 => q d v H3 hd (gd.trans g3)

/-! ### calls of defs that draw -/
def SpM (K : Fg) (Pre : List PyData → Prop) (R : List PyData → PyData → Prop) : Sp := fun vs H Q _ => ∃ l a us ds, vs = .ref l :: us ∧ Rw l a H ∧ Scr K a (del H l) ∧ GT K (del H l) ∧ DvAll (del H l) us ds ∧ Pre ds ∧
  ∀ r v H', R ds r → Gx K (del H l) (del H' l) → Rw l a H' → Dv (del H' l) v r → Q v H'
theorem em_call {Pre : List PyData → Prop} {R : List PyData → PyData → Prop} {E : XK} {ta : TA} {GS : List PyData → Prop} {j : Nat} (hj : σ[j]? = some (some (.ref l))) (sc : Scr K a B) (t : GT K B) (h : EaM K l a ta σ B GS) (hp : ∀ ds, GS ds → Pre ds) :
    EvM K l a (tCall (SpM K Pre R) [] E (tCons (tVar j) ta)) σ B (fun r => ∃ ds, GS ds ∧ R ds r) := fun H1 g rw Q q => by
  refine ⟨.ref l, hj, h H1 g rw _ fun ds vs H2 hds g2 rw2 hvs => ?_⟩
  show SpM K Pre R ((.ref l :: vs) ++ []) H2 Q E
  rw [List.append_nil]
  exact ⟨l, a, vs, ds, rfl, rw2, sc.gx (g.trans g2), (g.trans g2).gt t, hvs, hp ds hds, fun r v H' hr g3 rw3 hv => q r v H' ⟨ds, hds, hr⟩ (g2.trans g3) rw3 hv⟩

/-! ### comprehensions over a range -/
theorem em_lcR {G : Nat → PyData → Prop} {tn : TE} {tt : TT} {vs : List Nat} {j : Nat} {N : Nat → Prop} {Inv : Nat → Nat → List PyData → Prop} {GB : Bool → Prop} (hw : ∀ x, wipe ((wipe σ vs).set j (some x)) vs = wipe σ vs) (hn : EvM K l a tn σ B (fun d => ∃ n : Nat, d = .int n ∧ n ≤ 1000 ∧ N n)) (h0 : ∀ n, N n → Inv n 0 [])
    (htt : ∀ n i, N n → i < n → EtM K l a tt ((wipe σ vs).set j (some (.int (i : Nat)))) B GB) (hel : ∀ n i, N n → i < n → EvM K l a te ((wipe σ vs).set j (some (.int (i : Nat)))) B (G i)) (hpl : ∀ i d, G i d → plainD d = true)
    (hs0 : ∀ n i ds, N n → i < n → Inv n i ds → GB false → Inv n (i + 1) ds) (hs1 : ∀ n i ds d, N n → i < n → Inv n i ds → G i d → Inv n (i + 1) (ds ++ [d])) (hlen : ∀ n i ds, N n → i ≤ n → Inv n i ds → ds.length ≤ 1000) :
    EvM K l a (tLc (iRng1 (tCons tn tNil)) (gName j) tt te vs) σ B (fun d => ∃ ds, d = .list ds ∧ ∃ n, N n ∧ Inv n n ds) := fun H1 g1 rw1 Q q => by
  refine hn H1 g1 rw1 _ fun dn v H2 hdn g2 rw2 hv => ?_
  obtain ⟨n, rfl, hn1, hN⟩ := hdn
  cases hv.intE
  refine ⟨n, rfl, by omega, by omega, fun Dl nD => ?_⟩
  obtain ⟨xs, m⟩ := rw2.lst
  have hne : Dl ≠ l := fun z => by
    rw [z, m] at nD
    cases nD
  have nD' : del H2 l Dl = none := by
    rw [del_ne hne]
    exact nD
  have en : ((n : Int)).toNat = n := by omega
  rw [en]
  refine lc_it (walk_range (lo := 0) (n := n)) (fun i H' => i ≤ n ∧ Gx K (del H2 l) (del H' l) ∧ Rw l a H' ∧ ∃ ys ds, H' Dl = some (.lst ys) ∧ TvAll H' ys ds ∧ Inv n i ds) ⟨Nat.zero_le _, by rw [del_upd hne]; exact .new nD', rw2.upd hne, [], [], upd_same, .nil, h0 n hN⟩ (fun _ _ _ _ => True.intro) (fun i x H' H'' hi p y => ?_) (fun H' p => ?_)
  · obtain ⟨_, g3, rw3, ys, ds, e1, e2, e3⟩ := p
    obtain ⟨rfl, hx⟩ := y
    have hx : x = .int (i : Nat) := by
      rw [hx]
      show V.int (0 + (i : Nat)) = _
      rw [Int.zero_add]
    subst hx
    obtain ⟨ws, m3⟩ := rw3.lst
    have gB := g1.trans (g2.trans g3)
    refine ⟨hw _, htt n i hN hi H'' gB rw3 _ fun b H4 hgb g4 rw4 => ?_⟩
    obtain ⟨ws4, m4⟩ := rw4.lst
    have kD : ∀ {Ha Hb : Hp} {zs : List V}, Gx K (del Ha l) (del Hb l) → Ha Dl = some (.lst zs) → Hb Dl = some (.lst zs) := fun gab e => (del_some (gab.lst (p := Dl) (by rw [del_ne hne]; exact e))).2
    have len1 := hlen n i ds hN (by omega) e3
    cases hb : b with
    | true =>
      rw [if_pos rfl]
      refine hel n i hN hi H4 (gB.trans g4) rw4 _ fun d v H5 hd g5 rw5 hv => ?_
      obtain ⟨ws5, m5⟩ := rw5.lst
      have e5 : H5 Dl = some (.lst ys) := kD (g4.trans g5) e1
      have k5 : Kt H'' H5 := kt_dd (g4.trans g5) m3
      refine ⟨ys, e5, szl (by rw [e2.length]; omega), hi, ?_, rw5.upd hne, ys ++ [v], ds ++ [d], upd_same, ?_, hs1 n i ds d hN hi e3 hd⟩
      · rw [del_upd hne]
        exact (g3.trans (g4.trans g5)).mut nD' (by rw [del_ne hne]; exact e5)
      · exact ((e2.kt k5).kt (.mut e5)).app (.cons (((hv.ud).tv (hpl i d hd)).kt (.mut e5)) .nil)
    | false =>
      rw [if_neg Bool.false_ne_true]
      exact ⟨hi, g3.trans g4, rw4, ys, ds, kD g4 e1, e2.kt (kt_dd g4 m3), hs0 n i ds hN hi e3 (hb ▸ hgb)⟩
  · obtain ⟨_, g3, rw3, ys, ds, e1, e2, e3⟩ := p
    obtain ⟨ws, m3⟩ := rw3.lst
    exact q _ _ H' ⟨ds, rfl, n, hN, e3⟩ (g2.trans g3) rw3 (.ofL (by rw [del_ne hne]; exact e1) (e2.kt (kt_del m3)))
/-- a comprehension over a new list -/
theorem em_lcL {G : Nat → PyData → Prop} {ts : TE} {vs : List Nat} {j : Nat} {ds : List PyData} {Inv : Nat → List PyData → Prop} (hw : ∀ x, wipe ((wipe σ vs).set j (some x)) vs = wipe σ vs) (hs : En K ts σ B ds) (h0 : Inv 0 [])
    (hel : ∀ i d x B', ds[i]? = some d → Gx K B B' → Dv B' x d → EvM K l a te ((wipe σ vs).set j (some x)) B' (G i)) (hpl : ∀ i d, G i d → plainD d = true)
    (hs1 : ∀ i es d, i < ds.length → Inv i es → G i d → Inv (i + 1) (es ++ [d])) (hlen : ∀ i es, i ≤ ds.length → Inv i es → es.length ≤ 1000) :
    EvM K l a (tLc (iList K ts) (gName j) tYes te vs) σ B (fun d => ∃ es, d = .list es ∧ Inv ds.length es) := fun H1 g1 rw1 Q q => by
  obtain ⟨xs1, m1⟩ := rw1.lst
  refine hs H1 (g1.trans gx_in) _ fun b us H2 g2 nb eb tb => ?_
  have gd2 := gx_dd g2 m1
  have rw2 := rw1.gx g2
  have hbl : b ≠ l := fun z => by
    rw [z, m1] at nb
    cases nb
  refine ⟨b, rfl, ⟨us, SqL.of eb⟩, fun Dl nD => ?_⟩
  obtain ⟨xs, m⟩ := rw2.lst
  have hne : Dl ≠ l := fun z => by
    rw [z, m] at nD
    cases nD
  have nD' : del H2 l Dl = none := by
    rw [del_ne hne]
    exact nD
  have eb' : del H2 l b = some (.lst us) := by
    rw [del_ne hbl]
    exact eb
  have tbd : TvAll (del H2 l) us ds := tb.kt (kt_del m)
  refine lc_it (walk_list (xs := us)) (fun i H' => i ≤ ds.length ∧ Gx K (del H2 l) (del H' l) ∧ Rw l a H' ∧ ∃ ys es, H' Dl = some (.lst ys) ∧ TvAll H' ys es ∧ Inv i es) ⟨Nat.zero_le _, by rw [del_upd hne]; exact .new nD', rw2.upd hne, [], [], upd_same, .nil, h0⟩ (fun i H' _ p => SqL.of (del_some (p.2.1.lst eb')).2) (fun i x H' H'' hi p y => ?_) (fun H' p => ?_)
  · obtain ⟨_, g3, rw3, ys, es, e1, e2, e3⟩ := p
    obtain ⟨rfl, hx⟩ := y
    have hi' : i < ds.length := by rw [← tb.length]; exact hi
    obtain ⟨ws, m3⟩ := rw3.lst
    have gB := g1.trans (gd2.trans g3)
    obtain ⟨d, hd, hxd⟩ := (tbd.kt g3.kt).getV hx
    refine ⟨hw _, em_yes (K := K) (B := del H'' l) H'' .refl rw3 _ fun b H4 hb g4 rw4 => ?_⟩
    subst hb
    rw [if_pos rfl]
    refine hel i d x (del H'' l) hd gB (.inl hxd) H4 g4 rw4 _ fun d' v H5 hd' g45 rw5 hv => ?_
    have g5 := g4.trans g45
    obtain ⟨ws5, m5⟩ := rw5.lst
    have kD : ∀ {Ha Hb : Hp} {zs : List V}, Gx K (del Ha l) (del Hb l) → Ha Dl = some (.lst zs) → Hb Dl = some (.lst zs) := fun gab e => (del_some (gab.lst (p := Dl) (by rw [del_ne hne]; exact e))).2
    have len1 := hlen i es (by omega) e3
    have e5 : H5 Dl = some (.lst ys) := kD g5 e1
    have k5 : Kt H'' H5 := kt_dd g5 m3
    refine ⟨ys, e5, szl (by rw [e2.length]; omega), hi', ?_, rw5.upd hne, ys ++ [v], es ++ [d'], upd_same, ?_, hs1 i es d' hi' e3 hd'⟩
    · rw [del_upd hne]
      exact (g3.trans g5).mut nD' (by rw [del_ne hne]; exact e5)
    · exact ((e2.kt k5).kt (.mut e5)).app (.cons (((hv.ud).tv (hpl i d' hd')).kt (.mut e5)) .nil)
  · obtain ⟨_, g3, rw3, ys, es, e1, e2, e3⟩ := p
    obtain ⟨ws, m3⟩ := rw3.lst
    rw [tb.length] at e3
    exact q _ _ H' ⟨es, rfl, e3⟩ (gd2.trans g3) rw3 (.ofL (by rw [del_ne hne]; exact e1) (e2.kt (kt_del m3)))
end
end LP

/-! LpW16 -/
set_option maxHeartbeats 4000000
/-! Walks: draws. -/
namespace LP
open PySem PySem.Spec PyProof.Rows L2 RZ
section
variable {P : Program} {w : World} {K : Fg} {mg : Str → Option Value} {base : Heap} {CX : CXT} {k : Nat} {x : Str} {st : Stmt} {ps N : List Str} {sp : Sp} {C : Addr}
theorem FnDef.okM {Pre : List PyData → Prop} {R : List PyData → PyData → Prop} (F : FnDef K mg x st) (S : FnScope N ps (defScope st)) (hb : ∀ (kV doc pm : Value) (an : Option Addr) (cdv ct : Value) (us : List Value), us.length = ps.length → bindArgs (PySem.W.fnOf x x (defArgs st) (defBody st) (defScope st) .none kV doc pm an cdv ct) ⟨us, []⟩ = pure (ps.zip us))
    (len : ∀ ds, Pre ds → ds.length + 1 = ps.length)
    (hbody : ∀ (A : Around) (outer : List Env) (s : Shared) (H0 : Hp) (E : XK), Room k (A.deeper (envOfC x (defScope st) s.heap.objs.size (He.ga K x) (.ref (He.cT K (x, none)).1))) →
      ∃ t, PSs (bodyCx CX P w K mg base N x st A outer s H0 E).nox (defBody st) t ∧ ∀ H l a us ds, Pre ds → Rw l a H → Scr K a (del H l) → GT K (del H l) → DvAll (del H l) us ds → ∀ D : Ends, (∀ r v H', R ds r → Gx K (del H l) (del H' l) → Rw l a H' → Dv (del H' l) v r → D.rt v H') → t D (start N (.ref l :: us)) H) : CallOk P w K mg base CX (k + 1) x ps (SpM K Pre R) :=
  F.ok S hb (fun vs H Q E ⟨l, a, us, ds, e, _, _, _, h5, h6, _⟩ => by rw [e, List.length_cons, h5.length]; exact len _ h6) fun A outer s H vs Q E hr hsp => by
    obtain ⟨t, h1, h2⟩ := hbody A outer s H E hr
    obtain ⟨l, a, us, ds, rfl, a1, a2, a3, a4, a5, a6⟩ := hsp
    exact ⟨t, h1.nox, h2 H l a us ds a5 a1 a2 a3 a4 _ fun r v H' hr' g rw hv => a6 r v H' hr' g rw hv⟩
end
section
variable {K : Fg} {l a : Addr} {H B : Hp} {σ : L2.St} {te ta tb' : TE} {G G1 G2 : PyData → Prop} {D : Ends} {tz : TS}
theorem mq_asg {i : Nat} (rw : Rw l a H) (h : EvM K l a te σ (del H l) G) (k : ∀ d v H1, G d → Gx K (del H l) (del H1 l) → Rw l a H1 → Dv (del H1 l) v d → tz D (σ.set i (some v)) H1) : tSeq (tAsg te (gName i)) tz D σ H := h H .refl rw _ k
theorem m_asg {i : Nat} (rw : Rw l a H) (h : EvM K l a te σ (del H l) G) (k : ∀ d v H1, G d → Gx K (del H l) (del H1 l) → Rw l a H1 → Dv (del H1 l) v d → D.nx (σ.set i (some v)) H1) : tAsg te (gName i) D σ H := h H .refl rw _ k
theorem m_ret (rw : Rw l a H) (h : EvM K l a te σ (del H l) G) (k : ∀ d v H1, G d → Gx K (del H l) (del H1 l) → Rw l a H1 → Dv (del H1 l) v d → D.rt v H1) : tRet te D σ H := h H .refl rw _ k
theorem m_par {i j : Nat} (rw : Rw l a H) (h : EvM K l a ta σ (del H l) G1) (h2 : EvM K l a te σ (del H l) G2) (k : ∀ d e v u H1, G1 d → G2 e → Gx K (del H l) (del H1 l) → Rw l a H1 → Dv (del H1 l) v d → Dv (del H1 l) u e → D.nx ((σ.set i (some v)).set j (some u)) H1) : tPar i j (tCons ta (tCons te tNil)) D σ H :=
  eam2 h h2 H .refl rw _ fun ds vs H1 hds g rw hvs => by
    obtain ⟨d, e, rfl, hd, he⟩ := hds
    obtain ⟨v, u, rfl, h1, h2⟩ := hvs.two
    exact ⟨v, u, rfl, k d e v u H1 hd he g rw h1 h2⟩
theorem mq_par {i j : Nat} (rw : Rw l a H) (h : EvM K l a ta σ (del H l) G1) (h2 : EvM K l a te σ (del H l) G2) (k : ∀ d e v u H1, G1 d → G2 e → Gx K (del H l) (del H1 l) → Rw l a H1 → Dv (del H1 l) v d → Dv (del H1 l) u e → tz D ((σ.set i (some v)).set j (some u)) H1) : tSeq (tPar i j (tCons ta (tCons te tNil))) tz D σ H := m_par (D := { D with nx := tz D }) rw h h2 k
theorem m_when {tt : TT} {tu : TS} {b : Bool} (rw : Rw l a H) (h : EvT K tt σ (del H l) b) (h1 : b = true → ∀ H1, Gx K (del H l) (del H1 l) → Rw l a H1 → tu { D with nx := tz D } σ H1) (h2 : b = false → ∀ H1, Gx K (del H l) (del H1 l) → Rw l a H1 → tz D σ H1) : tSeq (tIfS tt tu tNext) tz D σ H := by
  obtain ⟨xs, m⟩ := rw.lst
  exact q_when (K := K) (h.gx gx_in) (fun hb H1 g => h1 hb H1 (gx_dd g m) (rw.gx g)) fun hb H1 g => h2 hb H1 (gx_dd g m) (rw.gx g)
/-- a list p (not the row) grows by what is drawn -/
theorem m_app {i : Nat} {p : Addr} {xs : List V} {ds : List PyData} (rw : Rw l a H) (hp : p ≠ l) (e : H p = some (.lst xs)) (ht : TvAll H xs ds) (hv : σ[i]? = some (some (.ref p))) (h : EvM K l a te σ (del H l) G) (hpl : ∀ d, G d → plainD d = true) (hz : ds.length ≤ 1000)
    (k : ∀ d v H1, G d → Gx K (del H l) (del H1 l) → Rw l a (upd H1 p (.lst (xs ++ [v]))) → H1 p = some (.lst xs) → TvAll (upd H1 p (.lst (xs ++ [v]))) (xs ++ [v]) (ds ++ [d]) → D.nx σ (upd H1 p (.lst (xs ++ [v])))) : tDrop (tBM K "list" rAppend (tVar i) (tCons te tNil)) D σ H := by
  obtain ⟨ys, m⟩ := rw.lst
  refine ⟨.ref p, hv, .inl ⟨rfl, xs, SqL.of e⟩, eam1 h H .refl rw _ fun es vs H1 hes g rw1 hvs => ?_⟩
  obtain ⟨d, rfl, hd⟩ := hes
  obtain ⟨v, rfl, hv⟩ := hvs.one
  have e1 : H1 p = some (.lst xs) := (del_some (g.lst (p := p) (by rw [del_ne hp]; exact e))).2
  have k1 := kt_dd g m
  exact ⟨p, xs, v, rfl, rfl, e1, szl (by rw [ht.length]; omega), k d v H1 hd g (rw1.upd hp) e1 (((ht.kt k1).kt (.mut e1)).app (.cons ((hv.ud.tv (hpl d hd)).kt (.mut e1)) .nil))⟩
/-! the row's cells -/
theorem ev_row {i s r : Int} (hv : σ[0]? = some (some (.ref l))) (h : H l = some (.lst [.ref a, .int i, .int s, .int r])) {k : Int} {z : Int} (hk : atI [V.ref a, .int i, .int s, .int r] k = some (.int z)) : Ev K (tOp (rIxL K) (tVar 0) (tC (.int k))) σ H (.int z) := fun H1 g Q q =>
  ⟨.ref l, hv, l, _, k, .int z, rfl, rfl, SqL.of (g.lst h), hk, q _ H1 .refl (.int _)⟩
theorem ev_rowLen {i s r : Int} {ns : List Int} (hv : σ[0]? = some (some (.ref l))) (h : H l = some (.lst [.ref a, .int i, .int s, .int r])) (hs : SqL K H a (ns.map V.int)) : Ev K (tCB (rLenSq K) (tCons (tOp (rIxL K) (tVar 0) (tC (.int 0))) tNil)) σ H (.int (ns.length : Nat)) := fun H1 g Q q =>
  ⟨.ref l, hv, l, _, 0, .ref a, rfl, rfl, SqL.of (g.lst h), rfl, a, ns.map V.int, rfl, .inl (g.seqL hs), by rw [List.length_map]; exact q _ H1 .refl (.int _)⟩
theorem ev_rowCell {i s r : Int} {ns : List Int} {j z : Int} (hv : σ[0]? = some (some (.ref l))) (h : H l = some (.lst [.ref a, .int i, .int s, .int r])) (hs : SqL K H a (ns.map V.int)) (hj : Ev K te σ H (.int j)) (hz : atI (ns.map V.int) j = some (.int z)) :
    Ev K (tOp (rIxL K) (tOp (rIxL K) (tVar 0) (tC (.int 0))) te) σ H (.int z) := fun H1 g Q q =>
  ⟨.ref l, hv, l, _, 0, .ref a, rfl, rfl, SqL.of (g.lst h), rfl, hj H1 g _ fun v H2 g2 hv2 => ⟨a, ns.map V.int, j, .int z, rfl, hv2.intE, (g.trans g2).seqL hs |> fun z => z, hz, q _ H2 g2 (.int _)⟩⟩
/-- row[k] = number -/
theorem q_rowset {xs : List V} {k : Int} {j : Nat} {z : Int} (hv : σ[0]? = some (some (.ref l))) (h : H l = some (.lst xs)) (hk : ixN xs.length k = some j) (he : Ev K te σ H (.int z)) (c : ∀ H1, Gx K H H1 → H1 l = some (.lst xs) → tz D σ (upd H1 l (.lst (xs.set j (.int z))))) : tSeq (tAsg te (gSub (tVar 0) (tC (.int k)) rSetL)) tz D σ H :=
  he H .refl _ fun v H1 g hv1 => ⟨.ref l, hv, l, xs, k, j, rfl, rfl, g.lst h, hk, by rw [hv1.intE]; exact c H1 g (g.lst h)⟩
theorem s_rowset {xs : List V} {k : Int} {j : Nat} {z : Int} (hv : σ[0]? = some (some (.ref l))) (h : H l = some (.lst xs)) (hk : ixN xs.length k = some j) (he : Ev K te σ H (.int z)) (c : ∀ H1, Gx K H H1 → H1 l = some (.lst xs) → D.nx σ (upd H1 l (.lst (xs.set j (.int z))))) : tAsg te (gSub (tVar 0) (tC (.int k)) rSetL) D σ H :=
  he H .refl _ fun v H1 g hv1 => ⟨.ref l, hv, l, xs, k, j, rfl, rfl, g.lst h, hk, by rw [hv1.intE]; exact c H1 g (g.lst h)⟩
theorem ev_mod {i j : Int} (ha : Ev K ta σ H (.int i)) (hb : Ev K tb' σ H (.int j)) (hj : j ≠ 0) : Ev K (tOp (rI (fun _ j => j ≠ 0) fun i j => .int (i.fmod j)) ta tb') σ H (.int (i.fmod j)) := ev_I ha hb hj fun _ => .int _
theorem ev_fdiv {i j : Int} (ha : Ev K ta σ H (.int i)) (hb : Ev K tb' σ H (.int j)) (hj : CDivN i j) : Ev K (tOp (rI CDivN fun i j => .int (i.fdiv j)) ta tb') σ H (.int (i.fdiv j)) := ev_I ha hb hj fun _ => .int _
theorem ev_mul {i j : Int} (ha : Ev K ta σ H (.int i)) (hb : Ev K tb' σ H (.int j)) (hj : CMul i j) : Ev K (tOp (rI CMul fun i j => .int (i * j)) ta tb') σ H (.int (i * j)) := ev_I ha hb hj fun _ => .int _
theorem ev_pow {i j : Int} (ha : Ev K ta σ H (.int i)) (hb : Ev K tb' σ H (.int j)) (hj : CPow i j) : Ev K (tOp (rI CPow fun i j => .int (i ^ j.toNat)) ta tb') σ H (.int (i ^ j.toNat)) := ev_I ha hb hj fun _ => .int _
end
section
variable {P : Program} {w : World} {K : Fg} {mg : Str → Option Value} {base : Heap} {C : Addr}
def preTaken : List PyData → Prop := fun ds => ∃ m : Int, ds = [.int m] ∧ 0 < m ∧ m < 1000000
def rTaken : List PyData → PyData → Prop := fun ds r => ∃ m v : Int, ds = [.int m] ∧ 0 ≤ v ∧ v < m ∧ r = .int v
abbrev slaw_taken : Stmt := topS 34
theorem sclaw_taken : FnScope ["_law_row", "_law_many", "_law_found", "_law_cell"] ["_law_row", "_law_many"] (defScope slaw_taken) := ⟨rfl, rfl, rfl, by decide +kernel, rfl, by decide +kernel, by decide +kernel⟩
theorem ok_law_taken (T : Tx K mg C) : CallOk P w K mg base CX0 1 "_law_taken" ["_law_row", "_law_many"] (SpM K preTaken rTaken) := by
  refine (T.fn 18 _ _ rfl).okM (k := 0) (N := ["_law_row", "_law_many", "_law_found", "_law_cell"]) sclaw_taken (fun _ _ _ _ _ _ us hl => match us, hl with | [_, _], _ => rfl) (fun ds h => ?_) fun A outer s H0 E hr => ⟨_, (pss_cons (ps_if (pt_cmpR op_gt (pe_ix (r := rIxL K) ix_list (pv 0) pe_int (fun _ _ => rfl)) pe_int (nomark _)) (pss_cons (ps_set (i := 2) sclaw_taken.nd rfl (.inl rfl) (pe_op op_modN (pe_callTy call_int1 (by rfl) T.int boot_int (pa_cons (pe_ix (r := rIxL K) ix_list (pv 0) pe_int (fun _ _ => rfl)) pa_nil)) (pv 1)))
  (pss_cons (ps_asg (pe_op op_fdivN (pe_ix (r := rIxL K) ix_list (pv 0) pe_int (fun _ _ => rfl)) (pv 1)) (pg_sub (pv 0) pe_int set_list))
  (pss_one (ps_ret (pv 2))))) pss_nil)
  (pss_cons (ps_asg (pe_op op_add (pe_ix (r := rIxL K) ix_list (pv 0) pe_int (fun _ _ => rfl)) pe_int) (pg_sub (pv 0) pe_int set_list))
  (pss_cons (ps_if (pt_cmpR op_gt (pe_ix (r := rIxL K) ix_list (pv 0) pe_int (fun _ _ => rfl)) (pe_callB (r := rLenSq K) call_len_seq (by rfl) T.len boot_len (pa_cons (pe_ix (r := rIxL K) ix_list (pv 0) pe_int (fun _ _ => rfl)) pa_nil)) (nomark _)) (pss_cons (ps_asg (pe_op op_modN (pe_callTy call_int1 (by rfl) T.int boot_int (pa_cons (pe_op op_add (pe_op op_mul (pe_ix (r := rIxL K) ix_list (pv 0) pe_int (fun _ _ => rfl)) pe_int) pe_int) pa_nil)) pe_int) (pg_sub (pv 0) pe_int set_list))
  (pss_one (ps_ret (pe_op op_modN (pe_callTy call_int1 (by rfl) T.int boot_int (pa_cons (pe_op op_fdivN (pe_ix (r := rIxL K) ix_list (pv 0) pe_int (fun _ _ => rfl)) pe_int) pa_nil)) (pv 1))))) pss_nil)
  (pss_cons (ps_set (i := 3) sclaw_taken.nd rfl (.inl rfl) (pe_ix (r := rIxL K) ix_list (pe_ix (r := rIxL K) ix_list (pv 0) pe_int (fun _ _ => rfl)) (pe_op op_sub (pe_ix (r := rIxL K) ix_list (pv 0) pe_int (fun _ _ => rfl)) pe_int) (fun _ _ => rfl)))
  (pss_cons (ps_asg (pe_op op_modN (pe_callTy call_int1 (by rfl) T.int boot_int (pa_cons (pe_op op_add (pe_op op_add (pe_op op_mul (pe_ix (r := rIxL K) ix_list (pv 0) pe_int (fun _ _ => rfl)) pe_int) (pv 3)) pe_int) pa_nil)) pe_int) (pg_sub (pv 0) pe_int set_list))
  (pss_cons (ps_if (pt_cmpR op_ge (pv 3) (pe_op op_pow pe_int pe_int) (nomark _)) (pss_one (ps_asg (pe_op op_fdivN (pv 3) (pv 1)) (pg_sub (pv 0) pe_int set_list))) pss_nil)
  (pss_one (ps_ret (pe_op op_modN (pe_callTy call_int1 (by rfl) T.int boot_int (pa_cons (pv 3) pa_nil)) (pv 1)))))))))), fun H l a us ds h rw sc t hu D kr => ?_⟩
  · obtain ⟨m, rfl, _⟩ := h
    rfl
  · obtain ⟨m, rfl, m0, m1⟩ := h
    obtain ⟨y, rfl, hy⟩ := hu.one
    cases hy.intE
    obtain ⟨i, s, r, hl, i0, s0, s1⟩ := rw
    obtain ⟨ns, hs, hns⟩ := sc
    have gB : Gx K (del H l) H := gx_in
    have nB : del H l l = none := del_same
    have fin : ∀ (x v : Int) (H' : Hp) (i s r : Int), Gx K (del H l) H' → H' l = some (.lst [.ref a, .int i, .int s, .int r]) → 0 ≤ i → 0 ≤ s → s < 2147483647 → v = x.fmod m → D.rt (.int v) H' := fun x v H' i s r g e c1 c2 c3 ev =>
      kr _ _ H' ⟨m, v, rfl, by rw [ev]; exact Int.fmod_nonneg_of_pos x m0, by rw [ev]; exact Int.fmod_lt_of_pos x m0, rfl⟩ (gx_out g nB e) ⟨i, s, r, e, c1, c2, c3⟩ (.int v)
    have div : ∀ x : Int, CDivN x m := fun x => ⟨by omega, by omega⟩
    have m0' : m ≠ 0 := by omega
    have hm : ∀ {Hx : Hp}, Dv Hx (.int m) (.int m) := .int m
    refine q_when (K := K) (b := decide (0 < r)) (et_test (ev_gt (ev_row rfl hl rfl) ev_int)) (fun _ H1 g1 => ?_) fun _ H1 g1 => ?_
    · refine q_asg (K := K) (d := .int (r.fmod m)) (ev_mod (ev_intI (ev_row rfl (g1.lst hl) rfl)) (ev_var rfl hm) m0') fun v H2 g2 hv => ?_
      cases hv.intE
      have g12 := g1.trans g2
      refine q_rowset (K := K) (j := 3) rfl (g12.lst hl) rfl (ev_fdiv (ev_row rfl (g12.lst hl) rfl) (ev_var rfl hm) (div r)) fun H3 g3 e3 => ?_
      refine s_ret (K := K) (ev_var rfl (.int (r.fmod m))) fun v H4 g4 hv => ?_
      cases hv.intE
      exact fin r _ H4 i s (r.fdiv m) ((((gB.trans g12).trans g3).mut nB e3).trans g4) (g4.lst upd_same) i0 s0 s1 rfl
    · refine q_rowset (K := K) (j := 1) rfl (g1.lst hl) rfl (ev_add (ev_row rfl (g1.lst hl) rfl) ev_int) fun H2 g2 e2 => ?_
      have g3 : Gx K (del H l) (upd H2 l (.lst [.ref a, .int (i + 1), .int s, .int r])) := (((gB.trans g1).trans g2).mut nB e2)
      have e3 : (upd H2 l (.lst [.ref a, .int (i + 1), .int s, .int r])) l = some (.lst [.ref a, .int (i + 1), .int s, .int r]) := upd_same
      have pm : (2147483647 : Int) ≠ 0 := by decide
      have modR : ∀ x : Int, 0 ≤ x.fmod 2147483647 ∧ x.fmod 2147483647 < 2147483647 := fun x => ⟨Int.fmod_nonneg_of_pos x (by decide), Int.fmod_lt_of_pos x (by decide)⟩
      have mulS : CMul s 48271 := .inr ⟨by decide, by decide⟩
      refine q_when (K := K) (H := upd H2 l (.lst [.ref a, .int (i + 1), .int s, .int r])) (b := decide ((ns.length : Int) < i + 1)) (et_test (ev_gt (ev_row rfl e3 rfl) (ev_rowLen rfl e3 (g3.seqL hs)))) (fun _ H4 g4 => ?_) fun hb H4 g4 => ?_
      · have e4 := g4.lst e3
        refine q_rowset (K := K) (j := 2) rfl e4 rfl (ev_mod (ev_intI (ev_add (ev_mul (ev_row rfl e4 rfl) ev_int mulS) ev_int)) ev_int pm) fun H5 g5 e5 => ?_
        refine s_ret (K := K) (H := upd H5 l (.lst [.ref a, .int (i + 1), .int ((s * 48271 + 11).fmod 2147483647), .int r])) (ev_mod (ev_intI (ev_fdiv (ev_row rfl upd_same rfl) ev_int ⟨by decide, by decide⟩)) (ev_var rfl hm) m0') fun v H6 g6 hv => ?_
        cases hv.intE
        exact fin _ _ H6 (i + 1) _ r ((((g3.trans g4).trans g5).mut nB e5).trans g6) (g6.lst upd_same) (by omega) (modR _).1 (modR _).2 rfl
      · have hi : i.toNat < ns.length := by
          have := of_decide_eq_false hb
          omega
        have e4 := g4.lst e3
        have hcell : atI (ns.map V.int) (i + 1 - 1) = some (.int (ns[i.toNat])) := by
          rw [show i + 1 - 1 = i by omega]
          unfold atI ixN
          rw [if_pos i0, List.length_map, if_pos (by omega)]
          show (ns.map V.int)[i.toNat]? = _
          rw [List.getElem?_map, List.getElem?_eq_getElem hi]
          rfl
        refine q_asg (K := K) (d := .int (ns[i.toNat])) (ev_rowCell rfl e4 ((g3.trans g4).seqL hs) (ev_sub (ev_row rfl e4 rfl) ev_int) hcell) fun v H5 g5 hv => ?_
        cases hv.intE
        have e5 := g5.lst e4
        refine q_rowset (K := K) (j := 2) rfl e5 rfl (ev_mod (ev_intI (ev_add (ev_add (ev_mul (ev_row rfl e5 rfl) ev_int mulS) (ev_var rfl (.int (ns[i.toNat])))) ev_int)) ev_int pm) fun H6 g6 e6 => ?_
        have g7 : Gx K (del H l) (upd H6 l (.lst [.ref a, .int (i + 1), .int ((s * 48271 + ns[i.toNat] + 11).fmod 2147483647), .int r])) := ((((g3.trans g4).trans g5).trans g6).mut nB e6)
        refine q_when (K := K) (H := upd H6 l (.lst [.ref a, .int (i + 1), .int ((s * 48271 + ns[i.toNat] + 11).fmod 2147483647), .int r])) (et_test (ev_ge (ev_var rfl (.int (ns[i.toNat]))) (ev_pow ev_int ev_int ⟨by decide, by decide, by decide⟩))) (fun _ H7 g8 => ?_) fun _ H7 g8 => ?_
        · have e7 := g8.lst (p := l) upd_same
          refine s_rowset (K := K) (j := 3) rfl e7 rfl (ev_fdiv (ev_var rfl (.int (ns[i.toNat]))) (ev_var rfl hm) (div _)) fun H8 g9 e8 => ?_
          refine s_ret (K := K) (ev_mod (ev_intI (ev_var rfl (.int (ns[i.toNat])))) (ev_var rfl hm) m0') fun v H9 g10 hv => ?_
          cases hv.intE
          exact fin _ _ H9 (i + 1) _ _ ((((g7.trans g8).trans g9).mut nB e8).trans g10) (g10.lst upd_same) (by omega) (modR _).1 (modR _).2 rfl
        · refine s_ret (K := K) (ev_mod (ev_intI (ev_var rfl (.int (ns[i.toNat])))) (ev_var rfl hm) m0') fun v H9 g10 hv => ?_
          cases hv.intE
          exact fin _ _ H9 (i + 1) _ r ((g7.trans g8).trans g10) (g10.lst (g8.lst upd_same)) (by omega) (modR _).1 (modR _).2 rfl
end
end LP

/-! LpW17 -/
set_option maxHeartbeats 4000000
/-! Walks: draws of questions, plans. -/
namespace LP
open PySem PySem.Spec PyProof.Rows L2 RZ
section
variable {K : Fg} {l a : Addr} {H B : Hp} {σ : L2.St} {te ta tb' : TE} {G G1 G2 : PyData → Prop} {D : Ends} {tz : TS} {E : XK}
theorem em_taken {j : Nat} {M : Int → Prop} (hj : σ[j]? = some (some (.ref l))) (sc : Scr K a B) (t : GT K B) (h : EvM K l a te σ B (Ints M)) (hm : ∀ m, M m → 0 < m ∧ m < 1000000) :
    EvM K l a (tCall (SpM K preTaken rTaken) [] E (tCons (tVar j) (tCons te tNil))) σ B (Ints fun v => ∃ m, M m ∧ 0 ≤ v ∧ v < m) :=
  (em_call hj sc t (eam1 h) fun ds ⟨d, e, m, hM, ed⟩ => ⟨m, by rw [e, ed], (hm m hM).1, (hm m hM).2⟩).imp fun r ⟨ds, ⟨d, e, m, hM, ed⟩, m', v, e', h0, h1, er⟩ => ⟨v, ⟨m', by
    rw [e, ed] at e'
    cases e'
    exact hM, h0, h1⟩, er⟩
theorem em_ixL {ts : List PyData} {I : Int → Prop} (ha : EvM K l a ta σ B (· = .list ts)) (hb : EvM K l a tb' σ B (Ints I)) (hI : ∀ i, I i → 0 ≤ i ∧ i < ts.length) (hp : ∀ d ∈ ts, plainD d = true) : EvM K l a (tOp (rIxL K) ta tb') σ B (fun d => d ∈ ts) := fun H1 g rw Q q =>
  ha H1 g rw _ fun d x H2 hd g2 rw2 hx => hb H2 (g.trans g2) rw2 _ fun e y H3 he g3 rw3 hy => by
    subst hd
    obtain ⟨i, hi, rfl⟩ := he
    obtain ⟨i0, i1⟩ := hI i hi
    have hlt : i.toNat < ts.length := by omega
    obtain ⟨b, xs, rfl, e1, e2⟩ := (hx.gx g3).ud.list
    obtain ⟨ys, m⟩ := rw3.lst
    obtain ⟨v, h1, h2⟩ := e2.at (i := i) (d := ts[i.toNat]) (atI_natD i0 (List.getElem?_eq_getElem hlt))
    exact ⟨b, xs, i, v, rfl, hy.intE, SqL.of e1, h1, q _ v H3 (List.getElem_mem hlt) (g2.trans g3) rw3 (.inl (h2.kt (kt_del m)))⟩
theorem intsD {G : Int → Prop} {d : PyData} (h : Ints G d) : plainD d = true := by
  obtain ⟨i, _, rfl⟩ := h
  rfl
theorem mq_asgN {i : Nat} {ds : List PyData} (rw : Rw l a H) (h : En K te σ (del H l) ds) (k : ∀ p xs H1, Gx K (del H l) (del H1 l) → Rw l a H1 → p ≠ l → del H l p = none → H1 p = some (.lst xs) → TvAll H1 xs ds → tz D (σ.set i (some (.ref p))) H1) : tSeq (tAsg te (gName i)) tz D σ H := by
  obtain ⟨zs, m⟩ := rw.lst
  refine h H gx_in _ fun b ys H2 g2 nb eb tb => ?_
  have hne : b ≠ l := fun z => by
    rw [z, m] at nb
    cases nb
  exact k b ys H2 (gx_dd g2 m) (rw.gx g2) hne (by rw [del_ne hne]; exact nb) eb tb
theorem mq_parN {i j : Nat} (rw : Rw l a H) (h : EvM K l a ta σ (del H l) G) (k : ∀ d v p H1, G d → Gx K (del H l) (del H1 l) → Rw l a H1 → Dv (del H1 l) v d → p ≠ l → del H l p = none → H1 p = some (.lst []) → tz D ((σ.set i (some v)).set j (some (.ref p))) H1) : tSeq (tPar i j (tCons ta (tCons (tLst tNil) tNil))) tz D σ H :=
  h H .refl rw _ fun d v H1 hd g rw1 hv => ⟨Nat.zero_le _, fun p np => by
    obtain ⟨zs, m⟩ := rw1.lst
    have hne : p ≠ l := fun z => by
      rw [z, m] at np
      cases np
    have np' : del H1 l p = none := by
      rw [del_ne hne]
      exact np
    have e : Gx K (del H1 l) (del (upd H1 p (.lst [])) l) := by
      rw [del_upd hne]
      exact .new np'
    exact ⟨v, .ref p, rfl, k d v p _ hd (g.trans e) (rw1.upd hne) (hv.gx e) hne (g.free np') upd_same⟩⟩
/-- items of such a comprehension: numbers -/
def LInts (I : Nat → List Int → Prop) : Nat → Nat → List PyData → Prop := fun _ i ds => ∃ xs : List Int, ds = xs.map .int ∧ I i xs
end
section
variable {P : Program} {w : World} {K : Fg} {mg : Str → Option Value} {base : Heap} {C : Addr}
/-! ### _law_pick -/
def prePick : List PyData → Prop := fun ds => ∃ ts, ds = [.list ts] ∧ 0 < ts.length ∧ ts.length ≤ 1000 ∧ ts.all plainD = true
def rPick : List PyData → PyData → Prop := fun ds r => ∃ ts, ds = [.list ts] ∧ r ∈ ts
abbrev slaw_pick : Stmt := topS 35
theorem sclaw_pick : FnScope ["_law_row", "_law_things"] ["_law_row", "_law_things"] (defScope slaw_pick) := ⟨rfl, rfl, rfl, by decide +kernel, rfl, by decide +kernel, by decide +kernel⟩
theorem ok_law_pick (T : Tx K mg C) : CallOk P w K mg base CX0 2 "_law_pick" ["_law_row", "_law_things"] (SpM K prePick rPick) := by
  have c_law_taken := ok_law_taken (P := P) (w := w) (base := base) T
  refine (T.fn 19 _ _ rfl).okM (k := 1) (N := ["_law_row", "_law_things"]) sclaw_pick (fun _ _ _ _ _ _ us hl => match us, hl with | [_, _], _ => rfl) (fun ds h => ?_) fun A outer s H0 E hr => ⟨_, (pss_one (ps_ret (pe_ix (r := rIxL K) ix_list (pv 1) (pe_c c_law_taken (hr.mono (by decide)) pass0 (pa_cons (pv 0) (pa_cons (pe_callB (r := rLenSq K) call_len_seq (by rfl) T.len boot_len (pa_cons (pv 1) pa_nil)) pa_nil))) (fun _ _ => rfl)))), fun H l a us ds h rw sc t hu D kr => ?_⟩
  · obtain ⟨m, rfl, _⟩ := h
    rfl
  · obtain ⟨ts, rfl, l0, l1, hp⟩ := h
    obtain ⟨y, rfl, hy⟩ := hu.one
    have hlen : EvM K l a (tCB (rLenSq K) (tCons (tVar 1) tNil)) (start ["_law_row", "_law_things"] [.ref l, y]) (del H l) (Ints (· = (ts.length : Int))) := (em_of (ev_lenL (ev_var rfl hy) (.inl rfl)) rfl).imp fun d e => ⟨_, rfl, e⟩
    refine m_ret rw (em_ixL (em_var rfl hy) (em_taken (j := 0) rfl sc t hlen fun m e => ⟨by omega, by omega⟩) (fun i ⟨m, e, i0, i1⟩ => ⟨i0, by omega⟩) fun d hd => List.all_eq_true.mp hp d hd) fun d v H1 hd g rw1 hv => kr d v H1 ⟨ts, rfl, hd⟩ g rw1 hv
/-! ### _law_question -/
def preQ : List PyData → Prop := fun ds => ∃ n L : Nat, ds = [.int n, .int L] ∧ 1 ≤ n ∧ n ≤ 8 ∧ 1 ≤ L ∧ L ≤ 5
def rQ : List PyData → PyData → Prop := fun ds r => ∃ q, QOk q ∧ r = qD q
theorem lints_step {i : Nat} {I : Nat → List Int → Prop} {n : Nat} {ds : List PyData} {d : PyData} {G : Int → Prop} (h : LInts I n i ds) (hd : Ints G d) (hs : ∀ xs v, I i xs → G v → I (i + 1) (xs ++ [v])) : LInts I n (i + 1) (ds ++ [d]) := by
  obtain ⟨xs, rfl, hx⟩ := h
  obtain ⟨v, hv, rfl⟩ := hd
  exact ⟨xs ++ [v], by rw [List.map_append]; rfl, hs xs v hx hv⟩
theorem kt_in {l : Addr} {H1 H2 : Hp} {xs : List V} (g : Gx K (del H1 l) (del H2 l)) (m : H1 l = some (.lst xs)) : Kt H1 H2 := kt_dd g m
abbrev slaw_question : Stmt := topS 37
theorem sclaw_question : FnScope ["_law_row", "_law_states", "_law_letters", "_law_steps", "_law_state", "_law_letter"] ["_law_row", "_law_states", "_law_letters"] (defScope slaw_question) := ⟨rfl, rfl, rfl, by decide +kernel, rfl, by decide +kernel, by decide +kernel⟩
theorem ok_law_question (T : Tx K mg C) : CallOk P w K mg base CX0 2 "_law_question" ["_law_row", "_law_states", "_law_letters"] (SpM K preQ rQ) := by
  have c_law_taken := ok_law_taken (P := P) (w := w) (base := base) T
  refine (T.fn 21 _ _ rfl).okM (k := 1) (N := ["_law_row", "_law_states", "_law_letters", "_law_steps", "_law_state", "_law_letter"]) sclaw_question (fun _ _ _ _ _ _ us hl => match us, hl with | [_, _, _], _ => rfl) (fun ds h => ?_) fun A outer s H0 E hr => ⟨_, (pss_cons (ps_set (i := 3) sclaw_question.nd rfl (.inl rfl) (pe_lst pa_nil))
  (pss_cons (ps_for PassesOwn.never rfl (pi_range1 (by rfl) T.range (pa_cons (pv 1) pa_nil)) (pg_name (i := 4) sclaw_question.nd rfl (.inl rfl)) (pss_one (ps_expr (pe_bm PySem.F.plainAttrs_list PySem.F.slot_list_append PySem.F.type_list_append mt_append (pv 3) (pa_cons (pe_callTy (r := rTupOf K) call_tuple_of (by rfl) T.tuple boot_tuple (pa_cons (pe_lc (own := [("_law_letter", 5)]) rfl sclaw_question.nd (pi_range1 (by rfl) T.range (pa_cons (pv 2) pa_nil)) (blkOk_by (N := ["_law_row", "_law_states", "_law_letters", "_law_steps", "_law_state", "_law_letter"]) (sc := defScope slaw_question) (by decide +kernel)) (fun _ _ _ _ _ => (pg_name (i := 5) sclaw_question.nd rfl (.inl rfl))) (fun _ _ _ _ _ => pts_nil) (fun _ _ _ _ _ => (pe_c c_law_taken (hr.mono (by decide)) pass0 (pa_cons (pv 0) (pa_cons (pv 1) pa_nil))))) pa_nil)) pa_nil)))))
  (pss_one (ps_ret (pe_tup (pa_cons (pe_callTy (r := rTupOf K) call_tuple_of (by rfl) T.tuple boot_tuple (pa_cons (pv 3) pa_nil)) (pa_cons (pe_callTy (r := rTupOf K) call_tuple_of (by rfl) T.tuple boot_tuple (pa_cons (pe_lc (own := [("_law_state", 4)]) rfl sclaw_question.nd (pi_range1 (by rfl) T.range (pa_cons (pv 1) pa_nil)) (blkOk_by (N := ["_law_row", "_law_states", "_law_letters", "_law_steps", "_law_state", "_law_letter"]) (sc := defScope slaw_question) (by decide +kernel)) (fun _ _ _ _ _ => (pg_name (i := 4) sclaw_question.nd rfl (.inl rfl))) (fun _ _ _ _ _ => pts_nil) (fun _ _ _ _ _ => (pe_c c_law_taken (hr.mono (by decide)) pass0 (pa_cons (pv 0) (pa_cons (pe_op op_add pe_int (pe_c c_law_taken (hr.mono (by decide)) pass0 (pa_cons (pv 0) (pa_cons pe_int pa_nil)))) pa_nil))))) pa_nil)) pa_nil))))))), fun H l a us ds h rw sc t hu D kr => ?_⟩
  · obtain ⟨n, L, rfl, _⟩ := h
    rfl
  · obtain ⟨n, L, rfl, n1, n8, L1, L5⟩ := h
    obtain ⟨y, z, rfl, hy, hz⟩ := hu.two
    cases hy.intE
    cases hz.intE
    have hN : ∀ {B' : Hp}, Dv B' (.int (n : Nat)) (.int (n : Nat)) := .int _
    have hL : ∀ {B' : Hp}, Dv B' (.int (L : Nat)) (.int (L : Nat)) := .int _
    refine mq_asgN (K := K) (ds := []) rw (en_lst ea_nil rfl (by decide)) fun p xs0 H1 g1 rw1 hpl nP ep tp => ?_
    cases tp
    have g1l : ∀ {H2 : Hp}, Gx K H1 H2 → Gx K (del H l) (del H2 l) := fun g2 => by
      obtain ⟨zs, m⟩ := rw1.lst
      exact g1.trans (gx_dd g2 m)
    refine s_for (K := K) (D := { D with nx := _ }) (srk_range1 (j := n) (ev_var rfl hN) (by omega)) fun H2 g2 => ⟨fun i σ' H' => ∃ st vs o4, σ' = [some (.ref l), some (.int (n : Nat)), some (.int (L : Nat)), some (.ref p), o4, none] ∧ Rw l a H' ∧ Gx K (del H l) (del H' l) ∧ Kt H2 H' ∧ H' p = some (.lst vs) ∧ TvAll H' vs (st.map iD) ∧ st.length = i ∧ ∀ x ∈ st, x.length = L ∧ x.all (inR 0 ((n : Int) - 1)) = true,
      ⟨[], [], none, rfl, rw1.gx g2, g1l g2, .refl, g2.lst ep, .nil, rfl, fun x hx => (List.not_mem_nil hx).elim⟩, fun i σ' H' hi ⟨_, _, _, _, _, _, k, _⟩ => k, fun i u σ' H' H'' hi ⟨st, vs, o4, h2, rw2, g, kk, h3, h4, h5, h6⟩ g7 hu => ?_, fun σ' H' ⟨st, vs, o4, h2, rw2, g, kk, h3, h4, h5, h6⟩ => ?_⟩
    · subst h2 hu
      obtain ⟨zs, m2⟩ := rw2.lst
      have gd : Gx K (del H l) (del H'' l) := g.trans (gx_dd g7 m2)
      have rw3 := rw2.gx g7
      obtain ⟨zs3, m3⟩ := rw3.lst
      refine m_app rw3 hpl (g7.lst h3) (h4.kt g7.kt) rfl (em_tupleL (em_lcR (N := (· = L)) (Inv := LInts fun i xs => xs.length = i ∧ xs.all (inR 0 ((n : Int) - 1)) = true) (GB := (· = true)) (G := fun _ => Ints fun v => ∃ m : Int, m = n ∧ 0 ≤ v ∧ v < m) (fun x => rfl) ((em_var (v := .int (L : Nat)) rfl hL).imp fun d e => ⟨L, e, by omega, rfl⟩) (fun _ _ => ⟨[], rfl, rfl, rfl⟩) (fun _ _ _ _ => em_yes)
          (fun _ i' _ _ => em_taken (j := 0) rfl (sc.gx gd) (gd.gt t) ((em_var (v := .int (n : Nat)) rfl hN).imp fun d e => ⟨_, rfl, e⟩) fun m e => ⟨by omega, by omega⟩) (fun _ d h => intsD h) (fun _ _ _ _ _ _ h => nomatch h) (fun _ i' ds d _ _ hi hd => lints_step hi hd fun xs v ⟨h1, h2⟩ ⟨m, em, v0, v1⟩ => ⟨by simp [h1], by
            rw [List.all_append, h2]
            simp only [List.all_cons, List.all_nil, Bool.and_true, Bool.true_and, inR, Bool.and_eq_true, decide_eq_true_eq]
            omega⟩) (fun n' i' ds e hi ⟨xs, ex, h1, _⟩ => by
            rw [ex, List.length_map]
            omega))) (fun d ⟨ds, e, _⟩ => by rw [e]; rfl) (by rw [List.length_map]; omega) fun d v H5 hd g8 rw8 e8 t8 => ?_
      obtain ⟨ds, rfl, n', rfl, xs, rfl, x1, x2⟩ := hd
      refine ⟨st ++ [xs], vs ++ [v], some (.int (i : Nat)), rfl, rw8, ?_, kk.trans (g7.kt.trans ((kt_dd g8 m3).trans (.mut e8))), upd_same, by rw [List.map_append]; exact t8, by simp [h5], fun x hx => ?_⟩
      · rw [del_upd hpl]
        exact (gd.trans g8).mut nP (by rw [del_ne hpl]; exact e8)
      · rcases List.mem_append.mp hx with hx | hx
        · exact h6 x hx
        · rw [List.mem_singleton.mp hx]
          exact ⟨x1, x2⟩
    · subst h2
      dsimp only
      obtain ⟨zs, m2⟩ := rw2.lst
      have hst : Dv (del H' l) (.ref p) (.list (st.map iD)) := .ofL (by rw [del_ne hpl]; exact h3) (h4.kt (kt_del m2))
      refine m_ret rw2 (em_tup (eam2 (em_tupleL ((em_var (v := .ref p) rfl hst).imp fun d e => ⟨st.map iD, e, rfl⟩)) (em_tupleL (em_lcR (N := (· = n)) (Inv := LInts fun i xs => xs.length = i ∧ xs.all (inR 0 3) = true) (GB := (· = true)) (G := fun _ => Ints fun v => 0 ≤ v ∧ v ≤ 3) (fun x => rfl) ((em_var (v := .int (n : Nat)) rfl hN).imp fun d e => ⟨n, e, by omega, rfl⟩) (fun _ _ => ⟨[], rfl, rfl, rfl⟩) (fun _ _ _ _ => em_yes)
          (fun _ i' _ _ => (em_taken (j := 0) rfl (sc.gx g) (g.gt t) (em_add em_int (em_taken (j := 0) rfl (sc.gx g) (g.gt t) em_int fun m e => ⟨by omega, by omega⟩)) fun m ⟨i, j, ei, ⟨q, eq, j0, j1⟩, e⟩ => ⟨by omega, by omega⟩).imp fun d ⟨v, ⟨m, ⟨i, j, ei, ⟨q, eq, j0, j1⟩, e⟩, v0, v1⟩, ed⟩ => ⟨v, ⟨v0, by omega⟩, ed⟩) (fun _ d h => intsD h) (fun _ _ _ _ _ _ h => nomatch h) (fun _ i' ds d _ _ hi hd => lints_step hi hd fun xs v ⟨h1, h2⟩ ⟨v0, v1⟩ => ⟨by simp [h1], by
            rw [List.all_append, h2]
            simp only [List.all_cons, List.all_nil, Bool.and_true, Bool.true_and, inR, Bool.and_eq_true, decide_eq_true_eq]
            omega⟩) (fun n' i' ds e hi ⟨xs, ex, h1, _⟩ => by
            rw [ex, List.length_map]
            omega)))) fun ds ⟨d, e, ed, ⟨d1, e1, _⟩, ⟨d2, e2, _⟩⟩ => by
          rw [ed, e1, e2]
          exact ⟨rfl, by show 2 ≤ 1000; decide⟩) fun d v H5 hd g8 rw8 hv => ?_
      obtain ⟨ds, rfl, d1, d2, rfl, ⟨ds1, rfl, rfl⟩, ⟨ds2, rfl, n', rfl, xs, rfl, x1, x2⟩⟩ := hd
      exact kr _ v H5 ⟨(st, xs), ⟨by show 1 ≤ st.length; omega, by show st.length ≤ 8; omega, ⟨L, L1, L5, fun x hx => by
        obtain ⟨z1, z2⟩ := h6 x hx
        refine ⟨z1, ?_⟩
        show x.all (inR 0 ((st.length : Int) - 1)) = true
        rw [h5]
        exact z2⟩, by show xs.length = st.length; omega, x2⟩, rfl⟩ (g.trans g8) rw8 hv
/-! ### _law_plan -/
def preP : List PyData → Prop := fun ds => ∃ L : Nat, ds = [.int L, .int 7] ∧ 1 ≤ L ∧ L ≤ 5
def rP : List PyData → PyData → Prop := fun ds r => ∃ p, POk p ∧ r = pD p
theorem asc_snoc {xs : List Int} {v : Int} (h : xs.Pairwise (· < ·)) (hv : ∀ x ∈ xs, x < v) : (xs ++ [v]).Pairwise (· < ·) := by
  rw [List.pairwise_append]
  exact ⟨h, by simp, fun x hx y hy => by rw [List.mem_singleton.mp hy]; exact hv x hx⟩
abbrev slaw_plan : Stmt := topS 38
theorem sclaw_plan : FnScope ["_law_row", "_law_letters", "_law_most", "_law_many", "_law_told_here", "_law_letter", "_law_one"] ["_law_row", "_law_letters", "_law_most"] (defScope slaw_plan) := ⟨rfl, rfl, rfl, by decide +kernel, rfl, by decide +kernel, by decide +kernel⟩
theorem ok_law_plan (T : Tx K mg C) : CallOk P w K mg base CX0 2 "_law_plan" ["_law_row", "_law_letters", "_law_most"] (SpM K preP rP) := by
  have c_law_taken := ok_law_taken (P := P) (w := w) (base := base) T
  refine (T.fn 22 _ _ rfl).okM (k := 1) (N := ["_law_row", "_law_letters", "_law_most", "_law_many", "_law_told_here", "_law_letter", "_law_one"]) sclaw_plan (fun _ _ _ _ _ _ us hl => match us, hl with | [_, _, _], _ => rfl) (fun ds h => ?_) fun A outer s H0 E hr => ⟨_, (pss_cons (ps_par (i := 3) (j := 4) rfl sclaw_plan.nd rfl rfl (by decide) rfl rfl (pa_cons (pe_op op_add pe_int (pe_c c_law_taken (hr.mono (by decide)) pass0 (pa_cons (pv 0) (pa_cons (pv 2) pa_nil)))) (pa_cons (pe_lst pa_nil) pa_nil)) rfl)
  (pss_cons (ps_for PassesOwn.never rfl (pi_range1 (by rfl) T.range (pa_cons (pv 1) pa_nil)) (pg_name (i := 5) sclaw_plan.nd rfl (.inl rfl)) (pss_one (ps_expr (pe_bm PySem.F.plainAttrs_list PySem.F.slot_list_append PySem.F.type_list_append mt_append (pv 4) (pa_cons (pe_callTy (r := rTupOf K) call_tuple_of (by rfl) T.tuple boot_tuple (pa_cons (pe_lc (own := [("_law_one", 6)]) rfl sclaw_plan.nd (pi_range1 (by rfl) T.range (pa_cons (pv 3) pa_nil)) (blkOk_by (N := ["_law_row", "_law_letters", "_law_most", "_law_many", "_law_told_here", "_law_letter", "_law_one"]) (sc := defScope slaw_plan) (by decide +kernel)) (fun _ _ _ _ _ => (pg_name (i := 6) sclaw_plan.nd rfl (.inl rfl))) (fun _ _ _ _ _ => (pts_one (pt_cmpR op_gt (pe_c c_law_taken (hr.mono (by decide)) pass0 (pa_cons (pv 0) (pa_cons pe_int pa_nil))) pe_int (nomark _)))) (fun _ _ _ _ _ => (pv 6))) pa_nil)) pa_nil)))))
  (pss_one (ps_ret (pe_tup (pa_cons (pv 3) (pa_cons (pe_callTy (r := rTupOf K) call_tuple_of (by rfl) T.tuple boot_tuple (pa_cons (pv 4) pa_nil)) pa_nil))))))), fun H l a us ds h rw sc t hu D kr => ?_⟩
  · obtain ⟨L, rfl, _⟩ := h
    rfl
  · obtain ⟨L, rfl, L1, L5⟩ := h
    obtain ⟨y, z, rfl, hy, hz⟩ := hu.two
    cases hy.intE
    cases hz.intE
    have hL : ∀ {B' : Hp}, Dv B' (.int (L : Nat)) (.int (L : Nat)) := .int _
    refine mq_parN (K := K) rw (em_add em_int (em_taken (j := 0) rfl sc t ((em_var (v := .int 7) rfl (.int 7)).imp fun d e => ⟨_, rfl, e⟩) fun m e => ⟨by omega, by omega⟩)) fun d v p H1 hd g1 rw1 hv hpl nP ep => ?_
    obtain ⟨m, ⟨i1, j1, ei, ⟨m7, e7, j0, j2⟩, em⟩, rfl⟩ := hd
    cases hv.intE
    have m1 : 1 ≤ m := by omega
    have m7 : m ≤ 7 := by omega
    have hM : ∀ {B' : Hp}, Dv B' (.int m) (.int m) := .int _
    have g1l : ∀ {H2 : Hp}, Gx K H1 H2 → Gx K (del H l) (del H2 l) := fun g2 => by
      obtain ⟨zs, m⟩ := rw1.lst
      exact g1.trans (gx_dd g2 m)
    refine s_for (K := K) (D := { D with nx := _ }) (srk_range1 (j := L) (ev_var rfl hL) (by omega)) fun H2 g2 => ⟨fun i σ' H' => ∃ st vs o5, σ' = [some (.ref l), some (.int (L : Nat)), some (.int 7), some (.int m), some (.ref p), o5, none] ∧ Rw l a H' ∧ Gx K (del H l) (del H' l) ∧ Kt H2 H' ∧ H' p = some (.lst vs) ∧ TvAll H' vs (st.map iD) ∧ st.length = i ∧ ∀ x ∈ st, isLot m x = true,
      ⟨[], [], none, rfl, rw1.gx g2, g1l g2, .refl, g2.lst ep, .nil, rfl, fun x hx => (List.not_mem_nil hx).elim⟩, fun i σ' H' hi ⟨_, _, _, _, _, _, k, _⟩ => k, fun i u σ' H' H'' hi ⟨st, vs, o4, h2, rw2, g, kk, h3, h4, h5, h6⟩ g7 hu => ?_, fun σ' H' ⟨st, vs, o4, h2, rw2, g, kk, h3, h4, h5, h6⟩ => ?_⟩
    · subst h2 hu
      obtain ⟨zs, m2⟩ := rw2.lst
      have gd : Gx K (del H l) (del H'' l) := g.trans (gx_dd g7 m2)
      have rw3 := rw2.gx g7
      obtain ⟨zs3, m3⟩ := rw3.lst
      refine m_app rw3 hpl (g7.lst h3) (h4.kt g7.kt) rfl (em_tupleL (em_lcR (N := (fun n : Nat => (n : Int) = m)) (Inv := LInts fun i xs => xs.Pairwise (· < ·) ∧ xs.length ≤ i ∧ ∀ x ∈ xs, 0 ≤ x ∧ x < (i : Nat)) (GB := fun _ => True) (G := fun i => Ints fun v => v = (i : Nat)) (fun x => rfl) ((em_var (v := .int m) rfl hM).imp fun d e => ⟨m.toNat, by rw [e]; congr 1; omega, by omega, by omega⟩) (fun _ _ => ⟨[], rfl, .nil, by simp, fun x hx => (List.not_mem_nil hx).elim⟩)
          (fun _ i' _ _ => em_gt (em_taken (j := 0) rfl (sc.gx gd) (gd.gt t) em_int fun m e => ⟨by omega, by omega⟩) em_int)
          (fun _ i' _ _ => (em_var (v := .int (i' : Nat)) rfl (.int _)).imp fun d e => ⟨_, rfl, e⟩) (fun _ d h => intsD h) (fun n i' ds hN hi ⟨xs, ex, h1, h2, h3⟩ _ => ⟨xs, ex, h1, by omega, fun x hx => ⟨(h3 x hx).1, by have := (h3 x hx).2; omega⟩⟩)
          (fun n i' ds d _ _ hi hd => lints_step (I := fun i xs => xs.Pairwise (· < ·) ∧ xs.length ≤ i ∧ ∀ x ∈ xs, 0 ≤ x ∧ x < (i : Nat)) hi hd fun xs v ⟨h1, h2, h3⟩ hv => ⟨asc_snoc h1 fun x hx => by rw [hv]; exact (h3 x hx).2, by simp; omega, fun x hx => by
            rcases List.mem_append.mp hx with hx | hx
            · exact ⟨(h3 x hx).1, by have := (h3 x hx).2; omega⟩
            · rw [List.mem_singleton.mp hx, hv]
              omega⟩) (fun n' i' ds e hi ⟨xs, ex, h1, h2, _⟩ => by
            rw [ex, List.length_map]
            omega))) (fun d ⟨ds, e, _⟩ => by rw [e]; rfl) (by rw [List.length_map]; omega) fun d v H5 hd g8 rw8 e8 t8 => ?_
      obtain ⟨ds, rfl, n', en', xs, rfl, x1, x2, x3⟩ := hd
      refine ⟨st ++ [xs], vs ++ [v], some (.int (i : Nat)), rfl, rw8, ?_, kk.trans (g7.kt.trans ((kt_dd g8 m3).trans (.mut e8))), upd_same, by rw [List.map_append]; exact t8, by simp [h5], fun x hx => ?_⟩
      · rw [del_upd hpl]
        exact (gd.trans g8).mut nP (by rw [del_ne hpl]; exact e8)
      · rcases List.mem_append.mp hx with hx | hx
        · exact h6 x hx
        · rw [List.mem_singleton.mp hx]
          unfold isLot
          rw [pw_asc x1, Bool.and_true]
          refine List.all_eq_true.mpr fun y hy => ?_
          have := x3 y hy
          exact Bool.and_eq_true_iff.mpr ⟨decide_eq_true this.1, decide_eq_true (by omega)⟩
    · subst h2
      dsimp only
      obtain ⟨zs, m2⟩ := rw2.lst
      have hst : Dv (del H' l) (.ref p) (.list (st.map iD)) := .ofL (by rw [del_ne hpl]; exact h3) (h4.kt (kt_del m2))
      refine m_ret rw2 (em_tup (eam2 (em_var (v := .int m) rfl hM) (em_tupleL ((em_var (v := .ref p) rfl hst).imp fun d e => ⟨st.map iD, e, rfl⟩))) fun ds ⟨d, e, ed, d1, ⟨d2, e2, _⟩⟩ => by
          rw [ed, d1, e2]
          exact ⟨rfl, by show 2 ≤ 1000; decide⟩) fun d v H5 hd g8 rw8 hv => ?_
      obtain ⟨ds, rfl, d1, d2, rfl, rfl, ⟨ds1, rfl, rfl⟩⟩ := hd
      exact kr _ v H5 ⟨(m, st), ⟨Bool.and_eq_true_iff.mpr ⟨decide_eq_true m1, decide_eq_true m7⟩, by show 1 ≤ st.length; omega, by show st.length ≤ 5; omega, List.all_eq_true.mpr h6⟩, rfl⟩ (g.trans g8) rw8 hv
/-! ### _law_both -/
def preBoth : List PyData → Prop := fun ds => ds = [.int 7]
def rBoth : List PyData → PyData → Prop := fun ds r => ∃ q p, QOk q ∧ POk p ∧ r = .tuple [qD q, pD p]
abbrev slaw_both : Stmt := topS 39
theorem sclaw_both : FnScope ["_law_row", "_law_most", "_law_letters", "_law_question_here"] ["_law_row", "_law_most"] (defScope slaw_both) := ⟨rfl, rfl, rfl, by decide +kernel, rfl, by decide +kernel, by decide +kernel⟩
theorem ok_law_both (T : Tx K mg C) : CallOk P w K mg base CX0 3 "_law_both" ["_law_row", "_law_most"] (SpM K preBoth rBoth) := by
  have c_law_taken := ok_law_taken (P := P) (w := w) (base := base) T
  have c_law_question := ok_law_question (P := P) (w := w) (base := base) T
  have c_law_plan := ok_law_plan (P := P) (w := w) (base := base) T
  refine (T.fn 23 _ _ rfl).okM (k := 2) (N := ["_law_row", "_law_most", "_law_letters", "_law_question_here"]) sclaw_both (fun _ _ _ _ _ _ us hl => match us, hl with | [_, _], _ => rfl) (fun ds h => ?_) fun A outer s H0 E hr => ⟨_, (pss_cons (ps_set (i := 2) sclaw_both.nd rfl (.inl rfl) (pe_op op_add pe_int (pe_c c_law_taken (hr.mono (by decide)) pass0 (pa_cons (pv 0) (pa_cons pe_int pa_nil)))))
  (pss_cons (ps_set (i := 3) sclaw_both.nd rfl (.inl rfl) (pe_c c_law_question (hr.mono (by decide)) pass0 (pa_cons (pv 0) (pa_cons (pe_op op_add pe_int (pe_c c_law_taken (hr.mono (by decide)) pass0 (pa_cons (pv 0) (pa_cons pe_int pa_nil)))) (pa_cons (pv 2) pa_nil)))))
  (pss_one (ps_ret (pe_tup (pa_cons (pv 3) (pa_cons (pe_c c_law_plan (hr.mono (by decide)) pass0 (pa_cons (pv 0) (pa_cons (pv 2) (pa_cons (pv 1) pa_nil)))) pa_nil))))))), fun H l a us ds h rw sc t hu D kr => ?_⟩
  · rw [h]
    rfl
  · have h : ds = [.int 7] := h
    subst h
    obtain ⟨y, rfl, hy⟩ := hu.one
    cases hy.intE
    refine mq_asg (K := K) rw (em_add em_int (em_taken (j := 0) rfl sc t em_int fun m e => ⟨by omega, by omega⟩)) fun d v H1 hd g1 rw1 hv => ?_
    obtain ⟨L, ⟨i1, j1, ei, ⟨m3, e3, j0, j2⟩, eL⟩, rfl⟩ := hd
    cases hv.intE
    obtain ⟨L', eL'⟩ : ∃ L' : Nat, L = L' := ⟨L.toNat, by omega⟩
    subst eL'
    have hL : ∀ {B' : Hp}, Dv B' (.int (L' : Nat)) (.int (L' : Nat)) := .int _
    refine mq_asg (K := K) rw1 (em_call (j := 0) rfl (sc.gx g1) (g1.gt t) (eam2 (em_add em_int (em_taken (j := 0) rfl (sc.gx g1) (g1.gt t) em_int fun m e => ⟨by omega, by omega⟩)) (em_var (v := .int (L' : Nat)) rfl hL)) fun ds ⟨d, e, ed, ⟨z, ⟨i, j, ei, ⟨q, eq, k0, k1⟩, ez⟩, edz⟩, ee⟩ => ⟨z.toNat, L', by rw [ed, edz, ee, show ((z.toNat : Nat) : Int) = z by omega], by omega, by omega, by omega, by omega⟩) fun d v H2 hd g2 rw2 hv => ?_
    obtain ⟨ds, _, q, hq, rfl⟩ := hd
    have g12 := g1.trans g2
    refine m_ret rw2 (em_tup (eam2 (em_var rfl hv) (em_call (j := 0) rfl (sc.gx g12) (g12.gt t) (eam2 (em_var (v := .int (L' : Nat)) rfl hL) (em_var (v := .int 7) rfl (.int 7))) fun ds ⟨d, e, ed, d1, d2⟩ => ⟨L', by rw [ed, d1, d2], by omega, by omega⟩)) fun ds ⟨d, e, ed, d1, ⟨ds', _, p, _, ep⟩⟩ => by
        rw [ed, d1, ep]
        exact ⟨rfl, by show 2 ≤ 1000; decide⟩) fun d v H5 hd g8 rw8 hv => ?_
    obtain ⟨ds, rfl, d1, d2, rfl, rfl, ⟨ds', _, p, hp, rfl⟩⟩ := hd
    exact kr _ v H5 ⟨q, p, hq, hp, rfl⟩ (g12.trans g8) rw8 hv
end
end LP

/-! LpW18 -/
set_option maxHeartbeats 4000000
/-! Walks: draws of what is brought, bent texts. -/
namespace LP
open PySem PySem.Spec PyProof.Rows L2 RZ
open TL (tl spl joinL)
theorem map_inj {α : Type} {f : α → PyData} (hf : ∀ x y, f x = f y → x = y) : ∀ {xs ys : List α}, xs.map f = ys.map f → xs = ys
  | [], [], _ => rfl
  | [], _ :: _, h => by simp at h
  | _ :: _, [], h => by simp at h
  | x :: xs, y :: ys, h => by
    rw [List.map_cons, List.map_cons] at h
    injection h with h1 h2
    rw [hf _ _ h1, map_inj hf h2]
theorem iD_inj (x y : List Int) (h : iD x = iD y) : x = y := map_inj (f := PyData.int) (fun a b e => by injection e) (by injection h)
theorem pD_inj {p q : Int × List (List Int)} (h : pD p = pD q) : p = q := by
  injection h with h
  injection h with h1 h2
  injection h2 with h2 _
  injection h2 with h2
  injection h1 with h1
  exact Prod.ext h1 (map_inj iD_inj h2)
section
variable {P : Program} {w : World} {K : Fg} {mg : Str → Option Value} {base : Heap} {C : Addr}
/-! ### _law_brought -/
def preBr : List PyData → Prop := fun ds => ∃ p, POk p ∧ ds = [pD p]
def rBr : List PyData → PyData → Prop := fun ds r => ∀ p, ds = [pD p] → ∃ b, BOk p b ∧ r = tD b
def ownOf (p : Int × List (List Int)) (i : Nat) : List PyData := selD p.2.length (fun j => decide ((i : Int) ∈ p.2.getD j [])) fun j => .int (j : Nat)
theorem own_mem {p : Int × List (List Int)} {i : Nat} {d : PyData} (h : d ∈ ownOf p i) : ∃ j : Nat, d = .int (j : Nat) ∧ j < p.2.length ∧ (i : Int) ∈ p.2.getD j [] := by
  unfold ownOf selD at h
  obtain ⟨j, hj, rfl⟩ := List.mem_map.mp h
  obtain ⟨h1, h2⟩ := List.mem_filter.mp hj
  exact ⟨j, rfl, List.mem_range.mp h1, of_decide_eq_true h2⟩
abbrev slaw_brought : Stmt := topS 48
theorem sclaw_brought : FnScope ["_law_row", "_law_plan_here", "_law_found", "_law_one", "_law_own", "_law_letter", "_law_turn"] ["_law_row", "_law_plan_here"] (defScope slaw_brought) := ⟨rfl, rfl, rfl, by decide +kernel, rfl, by decide +kernel, by decide +kernel⟩
theorem ok_law_brought (T : Tx K mg C) : CallOk P w K mg base CX0 3 "_law_brought" ["_law_row", "_law_plan_here"] (SpM K preBr rBr) := by
  have c_law_taken := ok_law_taken (P := P) (w := w) (base := base) T
  have c_law_pick := ok_law_pick (P := P) (w := w) (base := base) T
  refine (T.fn 32 _ _ rfl).okM (k := 2) (N := ["_law_row", "_law_plan_here", "_law_found", "_law_one", "_law_own", "_law_letter", "_law_turn"]) sclaw_brought (fun _ _ _ _ _ _ us hl => match us, hl with | [_, _], _ => rfl) (fun ds h => ?_) fun A outer s H0 E hr => ⟨_, (pss_cons (ps_set (i := 2) sclaw_brought.nd rfl (.inl rfl) (pe_lst pa_nil))
  (pss_cons (ps_for PassesOwn.never rfl (pi_range1 (by rfl) T.range (pa_cons (pe_ix (r := rIxT K) ix_tup (pv 1) pe_int (fun _ _ => rfl)) pa_nil)) (pg_name (i := 3) sclaw_brought.nd rfl (.inr rfl)) (pss_cons (ps_set (i := 4) sclaw_brought.nd rfl (.inr rfl) (pe_lc (own := [("_law_letter", 5)]) rfl sclaw_brought.nd (pi_range1 (by rfl) T.range (pa_cons (pe_callB (r := rLenSq K) call_len_seq (by rfl) T.len boot_len (pa_cons (pe_ix (r := rIxT K) ix_tup (pv 1) pe_int (fun _ _ => rfl)) pa_nil)) pa_nil)) (blkOk_by (N := ["_law_row", "_law_plan_here", "_law_found", "_law_one", "_law_own", "_law_letter", "_law_turn"]) (sc := defScope slaw_brought) (by decide +kernel)) (fun _ _ _ _ _ => (pg_name (i := 5) sclaw_brought.nd rfl (.inl rfl))) (fun _ _ _ _ _ => (pts_one (pt_cmpR (r := rIn K false) op_in_seq (pv 3) (pe_ix (r := rIxT K) ix_tup (pe_ix (r := rIxT K) ix_tup (pv 1) pe_int (fun _ _ => rfl)) (pv 5) (fun _ _ => rfl)) (by with_unfolding_all rfl)))) (fun _ _ _ _ _ => (pv 5))))
  (pss_one (ps_expr (pe_bm PySem.F.plainAttrs_list PySem.F.slot_list_append PySem.F.type_list_append mt_append (pv 2) (pa_cons (pe_ifExp (pt_cmpR (r := rNeD K) (op_neD hr.units) (pv 4) (pe_lst pa_nil) (nomark _)) (pe_callTy (r := rTupOf K) call_tuple_of (by rfl) T.tuple boot_tuple (pa_cons (pe_lc (own := [("_law_turn", 6)]) rfl sclaw_brought.nd (pi_range1 (by rfl) T.range (pa_cons (pe_c c_law_taken (hr.mono (by decide)) pass0 (pa_cons (pv 0) (pa_cons pe_int pa_nil))) pa_nil)) (blkOk_by (N := ["_law_row", "_law_plan_here", "_law_found", "_law_one", "_law_own", "_law_letter", "_law_turn"]) (sc := defScope slaw_brought) (by decide +kernel)) (fun _ _ _ _ _ => (pg_name (i := 6) sclaw_brought.nd rfl (.inl rfl))) (fun _ _ _ _ _ => pts_nil) (fun _ _ _ _ _ => (pe_c c_law_pick (hr.mono (by decide)) pass0 (pa_cons (pv 0) (pa_cons (pv 4) pa_nil))))) pa_nil)) (pe_tup pa_nil)) pa_nil))))))
  (pss_one (ps_ret (pe_callTy (r := rTupOf K) call_tuple_of (by rfl) T.tuple boot_tuple (pa_cons (pv 2) pa_nil)))))), fun H l a us ds h rw sc t hu D kr => ?_⟩
  · obtain ⟨p, _, rfl⟩ := h
    rfl
  · obtain ⟨p, hp, rfl⟩ := h
    obtain ⟨y, rfl, hy⟩ := hu.one
    have t5 := hp.t5
    have pm1 := of_decide_eq_true (Bool.and_eq_true_iff.mp hp.m).1
    have pm7 := of_decide_eq_true (Bool.and_eq_true_iff.mp hp.m).2
    refine mq_asgN (K := K) (ds := []) rw (en_lst ea_nil rfl (by decide)) fun fp xs0 H1 g1 rw1 hpl nP ep tp => ?_
    cases tp
    have g1l : ∀ {H2 : Hp}, Gx K H1 H2 → Gx K (del H l) (del H2 l) := fun g2 => by
      obtain ⟨zs, m⟩ := rw1.lst
      exact g1.trans (gx_dd g2 m)
    have hy1 : Dv H1 y (pD p) := (hy.gx g1).ud
    refine s_for (K := K) (D := { D with nx := _ }) (srk_range1 (j := p.1.toNat) (ev_is (ev_ixT (d := .int p.1) (ev_var rfl hy1) ev_int rfl) (congrArg PyData.int (by omega))) (by omega)) fun H2 g2 => ⟨fun i σ' H' => ∃ b vs o3 o4, σ' = [some (.ref l), some y, some (.ref fp), o3, o4, none, none] ∧ Rw l a H' ∧ Gx K (del H l) (del H' l) ∧ Kt H2 H' ∧ H' fp = some (.lst vs) ∧ TvAll H' vs (b.map iD) ∧ b.length = i ∧ ∀ (j : Nat) (x : List Int), b[j]? = some x → rowOk p.2 j x = true,
      ⟨[], [], none, none, rfl, rw1.gx g2, g1l g2, .refl, g2.lst ep, .nil, rfl, fun j x hx => by simp at hx⟩, fun i σ' H' hi ⟨_, _, _, _, _, _, _, k, _⟩ => k, fun i u σ' H' H'' hi ⟨b, vs, o3, o4, h2, rw2, g, kk, h3, h4, h5, h6⟩ g7 hu => ?_, fun σ' H' ⟨b, vs, o3, o4, h2, rw2, g, kk, h3, h4, h5, h6⟩ => ?_⟩
    · subst h2 hu
      obtain ⟨zs, m2⟩ := rw2.lst
      have gd : Gx K (del H l) (del H'' l) := g.trans (gx_dd g7 m2)
      have rw3 := rw2.gx g7
      obtain ⟨zs3, m3⟩ := rw3.lst
      have hyd : Dv (del H'' l) y (pD p) := hy.gx gd
      refine mq_asgN (K := K) (ds := ownOf p i) rw3 (en_lc (n := p.2.length) (keep := fun j => decide ((i : Int) ∈ p.2.getD j [])) (val := fun j => .int (j : Nat)) (src_range1 (ev_is (ev_lenL (ds := p.2.map iD) (ev_ixT (ev_var rfl hyd) ev_int rfl) (.inr rfl)) (by rw [List.length_map])) (by omega)) (turn_name (fun _ => rfl) (fun j z H3 hj g3 it => ?_) fun j z H3 hj g3 it _ => ?_) (fun _ _ _ => rfl) (by omega)) fun op os H4 g4 rw4 hol nO eo to => ?_
      · subst it
        have e4 : (p.2.map iD)[j]? = some (iD (p.2.getD j [])) := by
          rw [List.getElem?_map, List.getD_eq_getElem?_getD, List.getElem?_eq_getElem hj]
          rfl
        refine et_is (et_test (ev_in (neg := false) (ev_var (v := .int (i : Nat)) rfl (.int _)) (ev_ixT (ev_ixT (ev_var rfl (hyd.gx g3)) ev_int rfl) (ev_var (v := .int (j : Nat)) rfl (.int _)) (atI_nat e4)) (.inr rfl) rfl (ints_flat _))) ?_
        rw [any_int]
        rfl
      · subst it
        exact ev_var (v := .int (j : Nat)) rfl (.int _)
      · obtain ⟨zs4, m4⟩ := rw4.lst
        have gd4 := gd.trans g4
        have k4 := kt_dd g4 m3
        have h3' : H4 fp = some (.lst vs) := (del_some (g4.lst (p := fp) (by rw [del_ne hpl]; exact g7.lst h3))).2
        have h4' : TvAll H4 vs (b.map iD) := (h4.kt g7.kt).kt k4
        have hown : Dv (del H4 l) (.ref op) (.list (ownOf p i)) := .ofL (by rw [del_ne hol]; exact eo) (to.kt (kt_del m4))
        have osh : SeqAt.shaped (.list (ownOf p i)) = true := by
          unfold ownOf
          rw [ints_sel]
          exact shaped_ints _
        have olen : (ownOf p i).length ≤ 5 := Nat.le_trans (selD_len _ _ _) t5
        have hL : Dv (del H4 l) (.ref op) (.list (ownOf p i)) := hown
        refine m_app (G := fun d => ∃ xs : List Int, d = iD xs ∧ xs.length ≤ 40 ∧ ∀ x ∈ xs, ∃ j : Nat, x = (j : Nat) ∧ j < p.2.length ∧ (i : Int) ∈ p.2.getD j []) rw4 hpl h3' h4' rfl (em_if (b := !(ownOf p i).isEmpty) (et_is (et_test (ev_neD (ev_var rfl hL) (En.ev (en_lst ea_nil rfl (by decide))) osh shaped_nil)) (by rw [eqv_nil])) (fun hb => ?_) fun hb => ?_) (fun d ⟨xs, e, _⟩ => by rw [e]; rfl) (by rw [List.length_map]; omega) fun d v H5 hd g8 rw8 e8 t8 => ?_
        · have ol0 : 0 < (ownOf p i).length := by
            cases q : ownOf p i with
            | nil =>
              rw [q] at hb
              cases hb
            | cons a b => simp
          refine (em_tupleL (em_lcR (N := fun n => n ≤ 3) (Inv := LInts fun i' xs => xs.length ≤ i' ∧ ∀ x ∈ xs, ∃ j : Nat, x = (j : Nat) ∧ j < p.2.length ∧ (i : Int) ∈ p.2.getD j []) (GB := (· = true)) (G := fun _ => Ints fun x => ∃ j : Nat, x = (j : Nat) ∧ j < p.2.length ∧ (i : Int) ∈ p.2.getD j []) (fun x => rfl) ((em_taken (j := 0) rfl (sc.gx gd4) (gd4.gt t) em_int fun m e => ⟨by omega, by omega⟩).imp fun d ⟨v, ⟨m, e, v0, v1⟩, ed⟩ => ⟨v.toNat, by rw [ed]; congr 1; omega, by omega, by omega⟩) (fun _ _ => ⟨[], rfl, by simp, fun x hx => (List.not_mem_nil hx).elim⟩) (fun _ _ _ _ => em_yes)
            (fun _ i' _ _ => (em_call (R := rPick) (Pre := prePick) (j := 0) rfl (sc.gx gd4) (gd4.gt t) (eam1 (em_var rfl hL)) fun ds ⟨d, e, ed⟩ => ⟨ownOf p i, by rw [e, ed], ol0, by omega, List.all_eq_true.mpr fun d hd => by obtain ⟨j, rfl, _⟩ := own_mem hd; rfl⟩).imp fun r ⟨ds, ⟨d, e, ed⟩, ts, e2, hr⟩ => by
              rw [e, ed] at e2
              injection e2 with e2 _
              injection e2 with e2
              rw [← e2] at hr
              obtain ⟨j, rfl, j1, j2⟩ := own_mem hr
              exact ⟨(j : Nat), ⟨j, rfl, j1, j2⟩, rfl⟩) (fun _ d h => intsD h) (fun _ _ _ _ _ _ h => nomatch h)
            (fun _ i' ds d _ _ hi hd => lints_step (I := fun i' xs => xs.length ≤ i' ∧ ∀ x ∈ xs, ∃ j : Nat, x = (j : Nat) ∧ j < p.2.length ∧ (i : Int) ∈ p.2.getD j []) hi hd fun xs v ⟨h1, h2⟩ hv => ⟨by simp; omega, fun x hx => by
              rcases List.mem_append.mp hx with hx | hx
              · exact h2 x hx
              · rw [List.mem_singleton.mp hx]
                exact hv⟩) (fun n' i' ds e hi ⟨xs, ex, h1, _⟩ => by
              rw [ex, List.length_map]
              omega))).imp fun d ⟨ds, e, n', n3, xs, exs, x1, x2⟩ => ⟨xs, by rw [e, exs], by omega, x2⟩
        · exact (em_of (ev_tup ea_nil rfl (by decide)) rfl).imp fun d e => ⟨[], e, by simp, fun x hx => (List.not_mem_nil hx).elim⟩
        · obtain ⟨xs, rfl, x1, x2⟩ := hd
          refine ⟨b ++ [xs], vs ++ [v], some (.int (i : Nat)), some (.ref op), rfl, rw8, ?_, kk.trans (g7.kt.trans (k4.trans ((kt_dd g8 m4).trans (.mut e8)))), upd_same, by rw [List.map_append]; exact t8, by simp [h5], fun j x hx => ?_⟩
          · rw [del_upd hpl]
            exact (gd4.trans g8).mut nP (by rw [del_ne hpl]; exact e8)
          · by_cases hj : j < b.length
            · rw [List.getElem?_append_left hj] at hx
              exact h6 j x hx
            · rw [List.getElem?_append_right (by omega)] at hx
              have ej : j = i := by
                have := (List.getElem?_eq_some_iff.mp hx).1
                simp at this
                omega
              subst ej
              rw [h5, Nat.sub_self] at hx
              have ex : xs = x := by simpa using hx
              subst ex
              unfold rowOk isText
              rw [decide_eq_true x1, Bool.true_and]
              refine tru_and (List.all_eq_true.mpr fun y hy => ?_) (List.all_eq_true.mpr fun y hy => ?_)
              · obtain ⟨j, rfl, j1, _⟩ := x2 y hy
                exact Bool.and_eq_true_iff.mpr ⟨decide_eq_true (by omega), decide_eq_true (by omega)⟩
              · obtain ⟨j', rfl, j1, j2⟩ := x2 y hy
                exact decide_eq_true j2
    · subst h2
      dsimp only
      obtain ⟨zs, m2⟩ := rw2.lst
      have hst : Dv (del H' l) (.ref fp) (.list (b.map iD)) := .ofL (by rw [del_ne hpl]; exact h3) (h4.kt (kt_del m2))
      refine m_ret rw2 (em_tupleL ((em_var (v := .ref fp) rfl hst).imp fun d e => ⟨b.map iD, e, rfl⟩)) fun d v H5 hd g8 rw8 hv => ?_
      obtain ⟨ds, rfl, rfl⟩ := hd
      refine kr _ v H5 (fun p' e => ?_) (g.trans g8) rw8 hv
      injection e with e _
      have e := pD_inj e
      subst e
      exact ⟨b, ⟨by omega, h6⟩, rfl⟩
end
end LP

/-! LpW19 -/
set_option maxHeartbeats 4000000
/-! Walks: bent texts. -/
namespace LP
open PySem PySem.Spec PyProof.Rows L2 RZ
open TL (tl spl joinL)
def LB (ls : List Str) (n c : Nat) : Prop := ls.length ≤ n ∧ ∀ s ∈ ls, s.length ≤ c ∧ asciiT s = true
def SL (n c : Nat) (d : PyData) : Prop := ∃ ls, d = strsD ls ∧ LB ls n c
theorem LB.up {ls : List Str} {n c n' c' : Nat} (h : LB ls n c) (hn : n ≤ n') (hc : c ≤ c') : LB ls n' c' := ⟨Nat.le_trans h.1 hn, fun s hs => ⟨Nat.le_trans (h.2 s hs).1 hc, (h.2 s hs).2⟩⟩
theorem SL.up {d : PyData} {n c n' c' : Nat} (h : SL n c d) (hn : n ≤ n') (hc : c ≤ c') : SL n' c' d := by
  obtain ⟨ls, e, h⟩ := h
  exact ⟨ls, e, h.up hn hc⟩
theorem LB.take {ls : List Str} {n c : Nat} (h : LB ls n c) (k : Nat) : LB (ls.take k) n c := ⟨Nat.le_trans (by simp; omega) h.1, fun s hs => h.2 s (List.mem_of_mem_take hs)⟩
theorem LB.drop {ls : List Str} {n c : Nat} (h : LB ls n c) (k : Nat) : LB (ls.drop k) n c := ⟨Nat.le_trans (by simp) h.1, fun s hs => h.2 s (List.mem_of_mem_drop hs)⟩
theorem ascii_app {a b : Str} (h1 : asciiT a = true) (h2 : asciiT b = true) : asciiT (a ++ b) = true := by
  unfold asciiT
  rw [TL.tl_append, List.all_append]
  exact tru_and h1 h2
theorem textOf_ascii {ls : List Str} {n c : Nat} (h : LB ls n c) : asciiT (textOf ls) = true := by
  unfold asciiT textOf
  rw [tl_glue]
  refine List.all_eq_true.mpr fun z hz => ?_
  obtain ⟨p, hp, hz⟩ := List.mem_flatten.mp hz
  obtain ⟨x, hx, rfl⟩ := List.mem_map.mp hp
  obtain ⟨s, hs, rfl⟩ := List.mem_map.mp hx
  exact List.all_eq_true.mp (ascii_app (h.2 s hs).2 (show asciiT nl = true by decide +kernel)) z hz
section
variable {K : Fg} {l a : Addr} {H B : Hp} {σ : L2.St} {te ta tb' tk : TE} {G G1 G2 : PyData → Prop} {D : Ends} {tz : TS} {E : XK}
theorem en_takeV {ws : List Str} {k : Nat} (h : Ev K te σ H (strsD ws)) (hk : Ev K tk σ H (.int (k : Nat))) : En K (L2.tSl (rSlL K) te tNoPart (tPart tk)) σ H ((ws.take k).map .str) := by
  have e := en_sl h eo_none (eo_some hk)
  rw [cutD_to, ← List.map_take] at e
  exact e
theorem en_dropV {ws : List Str} {k : Nat} (h : Ev K te σ H (strsD ws)) (hk : Ev K tk σ H (.int (k : Nat))) : En K (L2.tSl (rSlL K) te (tPart tk) tNoPart) σ H ((ws.drop k).map .str) := by
  have e := en_sl h (eo_some hk) eo_none
  rw [cutD_from, ← List.map_drop] at e
  exact e
theorem en_midV {tj : TE} {ws : List Str} {j k : Nat} (h : Ev K te σ H (strsD ws)) (hj : Ev K tj σ H (.int (j : Nat))) (hk : Ev K tk σ H (.int (k : Nat))) : En K (L2.tSl (rSlL K) te (tPart tj) (tPart tk)) σ H (((ws.take k).drop j).map .str) := by
  have e := en_sl h (eo_some hj) (eo_some hk)
  rw [cutD_both, ← List.map_take, ← List.map_drop] at e
  exact e
theorem em_SL {ls : List Str} {n c : Nat} (h : En K te σ B (ls.map .str)) (hb : LB ls n c) : EvM K l a te σ B (SL n c) := (em_lst h).imp fun d e => ⟨ls, e, hb⟩
theorem em_catS {n m c : Nat} (ha : EvM K l a ta σ B (SL n c)) (hb : EvM K l a tb' σ B (SL m c)) (hz : n + m ≤ 1000) : EvM K l a (tOp rCat ta tb') σ B (SL (n + m) c) :=
  (em_cat (L1 := fun ds => ∃ ls : List Str, ds = ls.map .str ∧ LB ls n c) (L2 := fun ds => ∃ ls : List Str, ds = ls.map .str ∧ LB ls m c) (ha.imp fun d ⟨ls, e, h⟩ => ⟨_, e, ls, rfl, h⟩) (hb.imp fun d ⟨ls, e, h⟩ => ⟨_, e, ls, rfl, h⟩) fun x y ⟨ls, e, h⟩ ⟨us, e2, h2⟩ => by
    rw [e, e2, List.length_map, List.length_map]
    have := h.1
    have := h2.1
    omega).imp fun d ⟨ds, e, x, y, ⟨ls, ex, h⟩, ⟨us, ey, h2⟩, exy⟩ => ⟨ls ++ us, by
      rw [e, exy, ex, ey, ← List.map_append]
      rfl, by
      rw [List.length_append]
      have := h.1
      have := h2.1
      omega, fun s hs => by
      rcases List.mem_append.mp hs with hs | hs
      · exact h.2 s hs
      · exact h2.2 s hs⟩
/-- a text of some size -/
def ST (c : Nat) (d : PyData) : Prop := ∃ s, d = .str s ∧ s.length ≤ c ∧ asciiT s = true
theorem em_addS {n m : Nat} (ha : EvM K l a ta σ B (ST n)) (hb : EvM K l a tb' σ B (ST m)) (hz : n + m ≤ 1000) : EvM K l a (tOp (fun x y H Q => ∃ i j, x = .str i ∧ y = .str j ∧ i.length + j.length ≤ sizeLine ∧ Q (.str (i ++ j)) H) ta tb') σ B (ST (n + m)) := fun H1 g rw Q q =>
  ha H1 g rw _ fun d x H2 ⟨s, ed, s1, s2⟩ g2 rw2 hx => hb H2 (g.trans g2) rw2 _ fun e y H3 ⟨u, ee, u1, u2⟩ g3 rw3 hy => by
    subst ed ee
    exact ⟨s, u, hx.strE, hy.strE, sz (by omega), q _ _ H3 ⟨s ++ u, rfl, by rw [str_len]; omega, ascii_app s2 u2⟩ (g2.trans g3) rw3 (.str _)⟩
theorem em_pickS {j : Nat} {ls : List Str} {n c : Nat} (hj : σ[j]? = some (some (.ref l))) (sc : Scr K a B) (t : GT K B) (h : EvM K l a te σ B (· = strsD ls)) (h0 : 0 < ls.length) (hn : n ≤ 1000) (hb : LB ls n c) : EvM K l a (tCall (SpM K prePick rPick) [] E (tCons (tVar j) (tCons te tNil))) σ B (ST c) :=
  (em_call (Pre := prePick) (R := rPick) hj sc t (eam1 h) fun ds ⟨d, e, ed⟩ => ⟨ls.map .str, by rw [e, ed]; rfl, by rw [List.length_map]; exact h0, by
    rw [List.length_map]
    have := hb.1
    omega, by
    rw [List.all_map]
    exact List.all_eq_true.mpr fun _ _ => rfl⟩).imp fun r ⟨ds, ⟨d, e, ed⟩, ts, e2, hr⟩ => by
    rw [e, ed] at e2
    injection e2 with e2 _
    injection e2 with e2
    rw [← e2] at hr
    obtain ⟨s, hs, rfl⟩ := List.mem_map.mp hr
    exact ⟨s, rfl, hb.2 s hs⟩
theorem m_whenSet {tt : TT} {i : Nat} {b : Bool} {d0 : PyData} {v0 : V} (rw : Rw l a H) (h : EvT K tt σ (del H l) b) (he : b = true → EvM K l a te σ (del H l) G) (hσ : σ[i]? = some (some v0)) (hv0 : Dv (del H l) v0 d0) (hg0 : G d0)
    (k : ∀ d v H1, G d → Gx K (del H l) (del H1 l) → Rw l a H1 → Dv (del H1 l) v d → tz D (σ.set i (some v)) H1) : tSeq (tIfS tt (tAsg te (gName i)) tNext) tz D σ H :=
  m_when rw h (fun hb H1 g rw1 => m_asg (D := { D with nx := tz D }) rw1 ((he hb).gx g) fun d v H2 hd g2 rw2 hv => k d v H2 hd (g.trans g2) rw2 hv) fun _ H1 g rw1 => by
    have z := k d0 v0 H1 hg0 g rw1 (hv0.gx g)
    have e : σ.set i (some v0) = σ := by
      have hi : i < σ.length := (List.getElem?_eq_some_iff.mp hσ).1
      have e2 : σ[i] = some v0 := (List.getElem?_eq_some_iff.mp hσ).2
      rw [← e2, List.set_getElem_self]
    rw [e] at z
    exact z
end
section
variable {P : Program} {w : World} {K : Fg} {mg : Str → Option Value} {base : Heap} {C : Addr}
def preBent : List PyData → Prop := fun ds => ∃ ls ms, ds = [strsD ls, strsD ms] ∧ LB ls 8 100 ∧ 0 < ms.length ∧ LB ms 20 110
def rBent : List PyData → PyData → Prop := fun ds r => tOk r
def bendings : List Str := [" ", " 0", " 1", "0", "x", " 7"]
abbrev slaw_bent : Stmt := topS 47
theorem sclaw_bent : FnScope ["_law_row", "_law_lines_here", "_law_more", "_law_k", "_law_kind", "_law_bent_here", "_law_text", "_law_line"] ["_law_row", "_law_lines_here", "_law_more"] (defScope slaw_bent) := ⟨rfl, rfl, rfl, by decide +kernel, rfl, by decide +kernel, by decide +kernel⟩
theorem ok_law_bent (T : Tx K mg C) : CallOk P w K mg base CX0 3 "_law_bent" ["_law_row", "_law_lines_here", "_law_more"] (SpM K preBent rBent) := by
  have c_law_taken := ok_law_taken (P := P) (w := w) (base := base) T
  have c_law_pick := ok_law_pick (P := P) (w := w) (base := base) T
  refine (T.fn 31 _ _ rfl).okM (k := 2) (N := ["_law_row", "_law_lines_here", "_law_more", "_law_k", "_law_kind", "_law_bent_here", "_law_text", "_law_line"]) sclaw_bent (fun _ _ _ _ _ _ us hl => match us, hl with | [_, _, _], _ => rfl) (fun ds h => ?_) fun A outer s H0 E hr => ⟨_, (pss_cons (ps_par (i := 3) (j := 4) rfl sclaw_bent.nd rfl rfl (by decide) rfl rfl (pa_cons (pe_c c_law_taken (hr.mono (by decide)) pass0 (pa_cons (pv 0) (pa_cons (pe_op op_add (pe_callB (r := rLenSq K) call_len_seq (by rfl) T.len boot_len (pa_cons (pv 1) pa_nil)) pe_int) pa_nil))) (pa_cons (pe_c c_law_taken (hr.mono (by decide)) pass0 (pa_cons (pv 0) (pa_cons pe_int pa_nil))) pa_nil)) rfl)
  (pss_cons (ps_set (i := 5) sclaw_bent.nd rfl (.inl rfl) (pe_ifExp (pt_cmpR op_lt (pv 4) pe_int (nomark _)) (pe_op op_cat (pe_op op_cat (pe_slice (r := rSlL K) sl_list (pv 1) po_none (po_some (pv 3))) (pe_lst (pa_cons (pe_c c_law_pick (hr.mono (by decide)) pass0 (pa_cons (pv 0) (pa_cons (pv 2) pa_nil))) pa_nil))) (pe_slice (r := rSlL K) sl_list (pv 1) (po_some (pv 3)) po_none)) (pe_op op_cat (pe_slice (r := rSlL K) sl_list (pv 1) po_none (po_some (pv 3))) (pe_slice (r := rSlL K) sl_list (pv 1) (po_some (pe_op op_add (pv 3) pe_int)) po_none))))
  (pss_cons (ps_if (pt_cmpR op_eq (pv 4) pe_int (nomark _)) (pss_one (ps_set (i := 5) sclaw_bent.nd rfl (.inl rfl) (pe_op op_cat (pe_op op_cat (pe_slice (r := rSlL K) sl_list (pv 1) po_none (po_some (pv 3))) (pe_lc (own := [("_law_line", 7)]) rfl sclaw_bent.nd (pi_list (pe_slice (r := rSlL K) sl_list (pv 1) (po_some (pv 3)) (po_some (pe_op op_add (pv 3) pe_int)))) (blkOk_by (N := ["_law_row", "_law_lines_here", "_law_more", "_law_k", "_law_kind", "_law_bent_here", "_law_text", "_law_line"]) (sc := defScope slaw_bent) (by decide +kernel)) (fun _ _ _ _ _ => (pg_name (i := 7) sclaw_bent.nd rfl (.inl rfl))) (fun _ _ _ _ _ => pts_nil) (fun _ _ _ _ _ => (pe_op op_add_str (pv 7) (pe_c c_law_pick (hr.mono (by decide)) pass0 (pa_cons (pv 0) (pa_cons (pe_lst (pa_cons pe_str (pa_cons pe_str (pa_cons pe_str (pa_cons pe_str (pa_cons pe_str (pa_cons pe_str pa_nil))))))) pa_nil))))))) (pe_slice (r := rSlL K) sl_list (pv 1) (po_some (pe_op op_add (pv 3) pe_int)) po_none)))) pss_nil)
  (pss_cons (ps_if (pt_cmpR op_eq (pv 4) pe_int (nomark _)) (pss_one (ps_set (i := 5) sclaw_bent.nd rfl (.inl rfl) (pe_op op_cat (pe_op op_cat (pe_slice (r := rSlL K) sl_list (pv 1) po_none (po_some (pv 3))) (pe_lc (own := [("_law_line", 7)]) rfl sclaw_bent.nd (pi_list (pe_slice (r := rSlL K) sl_list (pv 1) (po_some (pv 3)) (po_some (pe_op op_add (pv 3) pe_int)))) (blkOk_by (N := ["_law_row", "_law_lines_here", "_law_more", "_law_k", "_law_kind", "_law_bent_here", "_law_text", "_law_line"]) (sc := defScope slaw_bent) (by decide +kernel)) (fun _ _ _ _ _ => (pg_name (i := 7) sclaw_bent.nd rfl (.inl rfl))) (fun _ _ _ _ _ => pts_nil) (fun _ _ _ _ _ => (pe_c c_law_pick (hr.mono (by decide)) pass0 (pa_cons (pv 0) (pa_cons (pv 2) pa_nil)))))) (pe_slice (r := rSlL K) sl_list (pv 1) (po_some (pe_op op_add (pv 3) pe_int)) po_none)))) pss_nil)
  (pss_cons (ps_set (i := 6) sclaw_bent.nd rfl (.inl rfl) (pe_join pe_str (pe_lc (own := [("_law_line", 7)]) rfl sclaw_bent.nd (pi_list (pv 5)) (blkOk_by (N := ["_law_row", "_law_lines_here", "_law_more", "_law_k", "_law_kind", "_law_bent_here", "_law_text", "_law_line"]) (sc := defScope slaw_bent) (by decide +kernel)) (fun _ _ _ _ _ => (pg_name (i := 7) sclaw_bent.nd rfl (.inl rfl))) (fun _ _ _ _ _ => pts_nil) (fun _ _ _ _ _ => (pe_op op_add_str (pv 7) pe_str)))))
  (pss_one (ps_ret (pe_c c_law_pick (hr.mono (by decide)) pass0 (pa_cons (pv 0) (pa_cons (pe_lst (pa_cons (pv 6) (pa_cons (pv 6) (pa_cons (pv 6) (pa_cons (pv 6) (pa_cons (pe_slice sl_str (pv 6) po_none (po_some (pe_un un_neg pe_int))) (pa_cons pe_non (pa_cons pe_str (pa_cons pe_int (pa_cons pe_str pa_nil)))))))))) pa_nil)))))))))), fun H l a us ds h rw sc t hu D kr => ?_⟩
  · obtain ⟨ls, ms, rfl, _⟩ := h
    rfl
  · obtain ⟨ls, ms, rfl, bl, m0, bm⟩ := h
    obtain ⟨y, z, rfl, hy, hz⟩ := hu.two
    have hy : Dv (del H l) y (strsD ls) := hy
    have hz : Dv (del H l) z (strsD ms) := hz
    have bl8 := bl.1
    have Elen : EvM K l a (tCB (rLenSq K) (tCons (tVar 1) tNil)) (start ["_law_row", "_law_lines_here", "_law_more", "_law_k", "_law_kind", "_law_bent_here", "_law_text", "_law_line"] [.ref l, y, z]) (del H l) (Ints (· = (ls.length : Int))) := (em_of (ev_lenL (ds := ls.map .str) (ev_var rfl hy) (.inl rfl)) rfl).imp fun d e => ⟨_, rfl, by rw [e, List.length_map]⟩
    refine mq_par (K := K) rw (em_taken (j := 0) rfl sc t (em_add Elen em_int) fun m ⟨i, j, ei, ej, e⟩ => ⟨by omega, by omega⟩) (em_taken (j := 0) rfl sc t em_int fun m e => ⟨by omega, by omega⟩) fun dk dd vk vd H1 hk hd g1 rw1 hvk hvd => ?_
    obtain ⟨k, ⟨mk, ⟨i1, j1, ei1, ej1, emk⟩, k0, k1⟩, rfl⟩ := hk
    obtain ⟨kd, ⟨md, emd, kd0, kd1⟩, rfl⟩ := hd
    cases hvk.intE
    cases hvd.intE
    obtain ⟨kk, rfl⟩ : ∃ kk : Nat, k = kk := ⟨k.toNat, by omega⟩
    have hK : ∀ {B' : Hp}, Dv B' (.int (kk : Nat)) (.int (kk : Nat)) := .int _
    have hD : ∀ {B' : Hp}, Dv B' (.int kd) (.int kd) := .int _
    have hkl : kk ≤ ls.length := by omega
    refine mq_asg (K := K) (G := SL 17 112) rw1 (em_if (b := decide (kd < 3)) (et_test (ev_lt (ev_var rfl hD) ev_int)) (fun _ => ?_) fun _ => ?_) fun d v H2 hd g2 rw2 hv => ?_
    · refine (em_catS (em_catS (em_SL (en_takeV (ev_var rfl (hy.gx g1)) (ev_var rfl hK)) ((bl.take kk).up (Nat.le_refl 8) (by decide : 100 ≤ 112))) ((em_lstd (eam1 (em_pickS (j := 0) (c := 110) rfl (sc.gx g1) (g1.gt t) (em_var rfl (hz.gx g1)) m0 (by decide) bm)) fun ds ⟨d, e, s, es, _⟩ => by rw [e, es]; exact ⟨rfl, by show 1 ≤ 1000; decide⟩).imp fun d ⟨ds, e, d', ed, s, es, s1, s2⟩ => (⟨[s], by rw [e, ed, es]; rfl, by show 1 ≤ 1; decide, fun u hu => by rw [List.mem_singleton.mp hu]; exact ⟨by omega, s2⟩⟩ : SL 1 112 d)) (by decide)) (em_SL (en_dropV (ev_var rfl (hy.gx g1)) (ev_var rfl hK)) ((bl.drop kk).up (Nat.le_refl 8) (by decide : 100 ≤ 112))) (by decide)).imp fun d h => h.up (by decide) (by decide)
    · exact (em_catS (em_SL (en_takeV (ev_var rfl (hy.gx g1)) (ev_var rfl hK)) ((bl.take kk).up (Nat.le_refl 8) (by decide : 100 ≤ 112))) (em_SL (en_dropV (k := kk + 1) (ev_var rfl (hy.gx g1)) (ev_is (ev_add (ev_var rfl hK) ev_int) rfl)) ((bl.drop (kk + 1)).up (Nat.le_refl 8) (by decide : 100 ≤ 112))) (by decide)).imp fun d h => h.up (by decide) (by decide)
    · have g12 := g1.trans g2
      have mid : LB ((ls.take (kk + 1)).drop kk) 8 100 := (bl.take _).drop _
      refine m_whenSet (K := K) (G := SL 24 112) rw2 (et_test (ev_eqI (ev_var rfl hD) ev_int)) (fun _ => ?_) rfl hv (hd.up (by decide) (by decide)) fun d3 v3 H3 hd3 g3 rw3 hv3 => ?_
      · refine (em_catS (em_catS (em_SL (en_takeV (ev_var rfl (hy.gx g12)) (ev_var rfl hK)) ((bl.take kk).up (Nat.le_refl 8) (by decide : 100 ≤ 112))) ((em_lcL (ds := ((ls.take (kk + 1)).drop kk).map .str) (G := fun _ => ST 102) (Inv := fun i es => ∃ us : List Str, es = us.map .str ∧ us.length ≤ i ∧ ∀ s ∈ us, s.length ≤ 112 ∧ asciiT s = true) (fun x => rfl) (en_midV (k := kk + 1) (ev_var rfl (hy.gx g12)) (ev_var rfl hK) (ev_is (ev_add (ev_var rfl hK) ev_int) rfl)) ⟨[], rfl, by simp, fun s hs => (List.not_mem_nil hs).elim⟩
          (fun i d x B' hd gB hx => em_addS (n := 100) (m := 2) ?_ (em_pickS (ls := bendings) (n := 6) (j := 0) rfl ((sc.gx g12).gx gB) (gB.gt (g12.gt t)) (em_lst (en_lst (ea_cons ev_str (ea_cons ev_str (ea_cons ev_str (ea3 ev_str ev_str ev_str)))) rfl (by decide))) (by decide) (by decide) ⟨by decide, by decide +kernel⟩) (by decide))
          (fun _ d ⟨s, e, _⟩ => by rw [e]; rfl) (fun i es d hi ⟨us, e, u1, u2⟩ ⟨s, ed, s1, s2⟩ => ⟨us ++ [s], by rw [e, ed, List.map_append]; rfl, by simp; omega, fun s' hs => by
            rcases List.mem_append.mp hs with hs | hs
            · exact u2 s' hs
            · rw [List.mem_singleton.mp hs]
              exact ⟨by omega, s2⟩⟩) (fun i es hi ⟨us, e, u1, _⟩ => by
            have := mid.1
            rw [e, List.length_map]
            rw [List.length_map] at hi
            omega)).imp fun d ⟨es, e, us, e2, u1, u2⟩ => (⟨us, by rw [e, e2]; rfl, by
            have := mid.1
            rw [List.length_map] at u1
            omega, u2⟩ : SL 8 112 d)) (by decide)) (em_SL (en_dropV (k := kk + 1) (ev_var rfl (hy.gx g12)) (ev_is (ev_add (ev_var rfl hK) ev_int) rfl)) ((bl.drop (kk + 1)).up (Nat.le_refl 8) (by decide : 100 ≤ 112))) (by decide)).imp fun d h => h.up (by decide) (by decide)
        obtain ⟨s, hs, rfl⟩ := map_get hd
        have := mid.2 s (List.mem_of_getElem? hs)
        exact (em_var rfl hx).imp fun d e => ⟨s, e, this⟩
      · have g13 := g12.trans g3
        refine m_whenSet (K := K) (G := SL 24 112) rw3 (et_test (ev_eqI (ev_var rfl hD) ev_int)) (fun _ => ?_) rfl hv3 hd3 fun d4 v4 H4 hd4 g4 rw4 hv4 => ?_
        · exact (em_catS (em_catS (em_SL (en_takeV (ev_var rfl (hy.gx g13)) (ev_var rfl hK)) ((bl.take kk).up (Nat.le_refl 8) (by decide : 100 ≤ 112))) ((em_lcL (ds := ((ls.take (kk + 1)).drop kk).map .str) (G := fun _ => ST 110) (Inv := fun i es => ∃ us : List Str, es = us.map .str ∧ us.length ≤ i ∧ ∀ s ∈ us, s.length ≤ 112 ∧ asciiT s = true) (fun x => rfl) (en_midV (k := kk + 1) (ev_var rfl (hy.gx g13)) (ev_var rfl hK) (ev_is (ev_add (ev_var rfl hK) ev_int) rfl)) ⟨[], rfl, by simp, fun s hs => (List.not_mem_nil hs).elim⟩
            (fun i d x B' hd gB hx => em_pickS (ls := ms) (n := 20) (j := 0) rfl ((sc.gx g13).gx gB) (gB.gt (g13.gt t)) (em_var rfl ((hz.gx g13).gx gB)) m0 (by decide) bm)
            (fun _ d ⟨s, e, _⟩ => by rw [e]; rfl) (fun i es d hi ⟨us, e, u1, u2⟩ ⟨s, ed, s1, s2⟩ => ⟨us ++ [s], by rw [e, ed, List.map_append]; rfl, by simp; omega, fun s' hs => by
              rcases List.mem_append.mp hs with hs | hs
              · exact u2 s' hs
              · rw [List.mem_singleton.mp hs]
                exact ⟨by omega, s2⟩⟩) (fun i es hi ⟨us, e, u1, _⟩ => by
              have := mid.1
              rw [e, List.length_map]
              rw [List.length_map] at hi
              omega)).imp fun d ⟨es, e, us, e2, u1, u2⟩ => (⟨us, by rw [e, e2]; rfl, by
              have := mid.1
              rw [List.length_map] at u1
              omega, u2⟩ : SL 8 112 d)) (by decide)) (em_SL (en_dropV (k := kk + 1) (ev_var rfl (hy.gx g13)) (ev_is (ev_add (ev_var rfl hK) ev_int) rfl)) ((bl.drop (kk + 1)).up (Nat.le_refl 8) (by decide : 100 ≤ 112))) (by decide)).imp fun d h => h.up (by decide) (by decide)
        · have g14 := g13.trans g4
          obtain ⟨bs, rfl, b1, b2⟩ := hd4
          have tlen := textOf_len (ls := bs) (k := 112) fun s hs => (b2 s hs).1
          have tasc : asciiT (textOf bs) = true := textOf_ascii ⟨b1, b2⟩
          have tl30 : (textOf bs).length ≤ 2800 := Nat.le_trans tlen (by omega)
          have esum : ((bs.map fun s => s ++ nl).map (·.length)).sum ≤ bs.length * 113 := by
            rw [List.map_map]
            refine sum_le fun s hs => ?_
            have := (b2 s hs).1
            show (s ++ nl).length ≤ 113
            rw [str_len]
            have : nl.length = 1 := by decide +kernel
            omega
          refine mq_asg (K := K) rw4 (em_of (d := .str (textOf bs)) (ev_join (ws := bs.map fun s => s ++ nl) ev_str (ev_is (En.ev (en_lc (keep := fun _ => true) (val := fun i => (bs[i]?.map fun s => PyData.str (s ++ nl)).getD .none) (src_list (ds := bs.map PyData.str) (ev_var rfl hv4)) (turn_name (fun _ => rfl) (fun _ _ _ _ _ _ => et_yes) fun i z H' hi g it _ => ?_) (fun i hi _ => ?_) (by rw [List.length_map]; omega))) ?_) (by
            rw [List.length_map, show ("" : Str).length = 0 from rfl]
            omega)) rfl) fun d v H5 hd g5 rw5 hv5 => ?_
          · obtain ⟨d, hd, hz⟩ := it
            obtain ⟨u, hu, rfl⟩ := map_get hd
            have := (b2 u (List.mem_of_getElem? hu)).1
            refine ev_is (ev_addS (ev_var rfl hz) ev_str (by
              have : ("\n" : Str).length = 1 := by decide +kernel
              omega)) ?_
            rw [hu]
            rfl
          · cases bs[i]? with
            | none => rfl
            | some u => rfl
          · rw [List.length_map, selD_map (f := fun s => PyData.str (s ++ nl)) fun i x hx => by rw [hx]; rfl, List.map_map]
            rfl
          · subst hd
            have g15 := g14.trans g5
            have htx : ∀ {B' : Hp}, Dv B' v (.str (textOf bs)) := by
              cases hv5.strE
              exact .str _
            let items : List PyData := [.str (textOf bs), .str (textOf bs), .str (textOf bs), .str (textOf bs), .str (cutS (textOf bs) none (some (-1))), .none, .str "", .int 3, .str "\n"]
            refine m_ret (K := K) rw5 (em_call (Pre := prePick) (R := rPick) (j := 0) rfl (sc.gx g15) (g15.gt t) (eam1 (em_lst (en_lst (ds := items) (ea_cons (ev_var rfl htx) (ea_cons (ev_var rfl htx) (ea_cons (ev_var rfl htx) (ea_cons (ev_var rfl htx) (ea_cons (ev_slS (ev_var rfl htx) eo_none (eo_some (ev_neg ev_int)) (by omega)) (ea_cons ev_non (ea3 ev_str ev_int ev_str))))))) rfl (by show 9 ≤ 200000; decide)))) fun ds ⟨d, e, ed⟩ => ⟨items, by rw [e, ed], by show 0 < 9; decide, by show 9 ≤ 1000; decide, rfl⟩) fun d v H6 hd g6 rw6 hv6 => ?_
            obtain ⟨ds, ⟨d', e, ed⟩, ts, e2, hr⟩ := hd
            rw [e, ed] at e2
            injection e2 with e2 _
            injection e2 with e2
            rw [← e2] at hr
            refine kr d v H6 ?_ (g15.trans g6) rw6 hv6
            have tx : tOk (.str (textOf bs)) := .inr (.inr ⟨_, rfl, by omega, tasc⟩)
            have tc : tOk (.str (cutS (textOf bs) none (some (-1)))) := by
              rw [cutS_but1]
              refine .inr (.inr ⟨_, rfl, ?_, List.all_eq_true.mpr fun c hc => List.all_eq_true.mp tasc c (List.dropLast_subset _ hc)⟩)
              rw [TL.len_tl, TL.tl_mk, List.length_dropLast, ← TL.len_tl]
              omega
            have hr' : d = .str (textOf bs) ∨ d = .str (cutS (textOf bs) none (some (-1))) ∨ d = .none ∨ d = .str "" ∨ d = .int 3 ∨ d = .str "\n" := by
              simpa [items] using hr
            rcases hr' with rfl | rfl | rfl | rfl | rfl | rfl
            · exact tx
            · exact tc
            · exact .inl rfl
            · exact .inr (.inr ⟨_, rfl, by decide, by decide +kernel⟩)
            · exact .inr (.inl rfl)
            · exact .inr (.inr ⟨_, rfl, by decide +kernel, by decide +kernel⟩)
end
end LP

/-! LpMath2 -/
set_option maxHeartbeats 4000000
/-! What the writers write, the readers read. -/
namespace LP
open PySem PySem.Spec PyProof.Rows L2 RZ
open TL (tl spl joinL)
theorem join_nl : ∀ ls : List (List Nat), ls ≠ [] → (ls.map fun l => l ++ [10]).flatten = joinL [10] ls ++ [10]
  | [], h => absurd rfl h
  | [p], _ => by simp [joinL]
  | p :: q :: r, _ => by
    have ih := join_nl (q :: r) (by simp)
    have e : joinL [10] (p :: q :: r) = p ++ ([10] ++ joinL [10] (q :: r)) := rfl
    rw [List.map_cons, List.flatten_cons, ih, e]
    simp
theorem tl_textOf (ls : List Str) : tl (textOf ls) = ((ls.map tl).map fun l => l ++ [10]).flatten := by
  unfold textOf
  rw [tl_glue, List.map_map, List.map_map]
  congr 1
  refine List.map_congr_left fun l _ => ?_
  show tl (l ++ nl) = tl l ++ [10]
  rw [TL.tl_append, tl_nl]
/-- the lines come back -/
theorem lines_text {ls : List Str} (hne : ls ≠ []) (hp : ∀ l ∈ ls, 10 ∉ tl l) : linesM (.str (textOf ls)) = .ok ls := by
  have e : tl (textOf ls) = tl (Txt.join nl ls) ++ [10] := by
    rw [tl_textOf, join_nl _ (by simpa using hne), TL.join_eq, TL.tl_join, tl_nl]
  rw [lines_str, e, List.getLast?_concat]
  show (if (10 : Nat) = 10 then _ else _) = _
  rw [if_pos rfl, List.dropLast_concat]
  have e2 : (⟨(tl (Txt.join nl ls)).toArray⟩ : Str) = Txt.join nl ls := TL.mk_tl _
  rw [e2, TL.split_join (s := 10) (S := []) tl_nl (by decide +kernel) hne hp]
theorem join_sp : ∀ (ps qs : List (List Nat)), ps ≠ [] → joinL [32] (ps ++ qs) = joinL [32] ps ++ (qs.map fun q => [32] ++ q).flatten
  | [], _, h => absurd rfl h
  | [p], [], _ => by simp [joinL]
  | [p], q :: r, _ => by
    have ih := join_sp [q] r (by simp)
    have e : joinL [32] ([p] ++ q :: r) = p ++ ([32] ++ joinL [32] ([q] ++ r)) := rfl
    rw [e, ih]
    simp [joinL]
  | p :: p' :: ps, qs, _ => by
    have ih := join_sp (p' :: ps) qs (by simp)
    have e : joinL [32] (p :: p' :: ps ++ qs) = p ++ ([32] ++ joinL [32] (p' :: ps ++ qs)) := rfl
    have e2 : joinL [32] (p :: p' :: ps) = p ++ ([32] ++ joinL [32] (p' :: ps)) := rfl
    rw [e, e2, ih]
    simp
theorem join_words (ws : List Str) (ns : List Int) (h : ws ≠ []) : Txt.join spc (ws ++ ns.map numT) = Txt.join spc ws ++ wordsT ns := TL.ext_tl (by
  rw [TL.tl_append, TL.join_eq, TL.join_eq, TL.tl_join, TL.tl_join, tl_spc, List.map_append, join_sp _ _ (by simpa using h)]
  unfold wordsT
  rw [tl_glue, List.map_map, List.map_map, List.map_map]
  congr 2
  refine List.map_congr_left fun n _ => ?_
  show [32] ++ tl (numT n) = tl (spc ++ numT n)
  rw [TL.tl_append, tl_spc])
theorem digs_of {n : Int} (h : inR 0 9 n = true) : numT n = ⟨#[48 + n.toNat]⟩ := by
  obtain ⟨h1, h2⟩ := Bool.and_eq_true_iff.mp h
  have h1 := of_decide_eq_true h1
  have h2 := of_decide_eq_true h2
  have e : n = ((n.toNat : Nat) : Int) := by omega
  have := num_dig (i := n.toNat) (by omega)
  rw [← e] at this
  exact this
theorem num_free {n : Int} (h : inR 0 9 n = true) {c : Nat} (hc : c < 48) : c ∉ tl (numT n) := by
  rw [digs_of h]
  show c ∉ [48 + n.toNat]
  simp
  omega
/-- the words of such a line come back -/
theorem words_back {ws : List Str} {ns : List Int} (h : ws ≠ []) (hw : ∀ w ∈ ws, 32 ∉ tl w) (h9 : ns.all (inR 0 9) = true) : wordsOf (Txt.join spc ws ++ wordsT ns) = ws ++ ns.map numT := by
  rw [← join_words ws ns h]
  unfold wordsOf
  refine TL.split_join (s := 32) (S := []) tl_spc (by decide +kernel) (by simp [h]) fun p hp => ?_
  rcases List.mem_append.mp hp with hp | hp
  · exact hw p hp
  · obtain ⟨n, hn, rfl⟩ := List.mem_map.mp hp
    exact num_free (List.all_eq_true.mp h9 n hn) (by decide)
theorem fig_num {n most : Int} (h : inR 0 9 n = true) (hm : n ≤ most) : figM (numT n) most = some n := by
  obtain ⟨h1, h2⟩ := Bool.and_eq_true_iff.mp h
  have h1 := of_decide_eq_true h1
  have h2 := of_decide_eq_true h2
  rw [digs_of h, fig_sing (dig_in (by omega)), show (((48 + n.toNat : Nat)) : Int) - 48 = n by omega, if_pos hm]
theorem nums_num {most : Int} : ∀ {ns : List Int}, ns.all (inR 0 9) = true → ns.all (inR 0 most) = true → numsM (ns.map numT) most = some ns
  | [], _, _ => rfl
  | n :: r, h, hm => by
    obtain ⟨h1, h2⟩ := Bool.and_eq_true_iff.mp (show (inR 0 9 n && r.all (inR 0 9)) = true from h)
    obtain ⟨m1, m2⟩ := Bool.and_eq_true_iff.mp (show (inR 0 most n && r.all (inR 0 most)) = true from hm)
    rw [List.map_cons, nums_cons, fig_num h1 (of_decide_eq_true (Bool.and_eq_true_iff.mp m1).2), nums_num h2 m2]
    rfl
theorem wordsT_free {ns : List Int} (h9 : ns.all (inR 0 9) = true) {c : Nat} (hc : c < 48) (h32 : c ≠ 32) : c ∉ tl (wordsT ns) := by
  unfold wordsT
  rw [tl_glue]
  intro hm
  obtain ⟨p, hp, hm⟩ := List.mem_flatten.mp hm
  obtain ⟨x, hx, rfl⟩ := List.mem_map.mp hp
  obtain ⟨n, hn, rfl⟩ := List.mem_map.mp hx
  rw [TL.tl_append, tl_spc] at hm
  rcases List.mem_append.mp hm with hm | hm
  · exact h32 (List.mem_singleton.mp hm)
  · exact num_free (List.all_eq_true.mp h9 n hn) hc hm
theorem inR_nat {i : Nat} (h : i < 10) : inR 0 9 ((i : Nat) : Int) = true := Bool.and_eq_true_iff.mpr ⟨decide_eq_true (by omega), decide_eq_true (by omega)⟩
/-! ### questions -/
theorem qLine_join (q : Q2) (i : Nat) : qLine q i = Txt.join spc [("state" : Str), numT ((i : Nat) : Int), ("answer" : Str), numT (q.2.getD i 0), ("to" : Str)] ++ wordsT (q.1.getD i []) := TL.ext_tl (by
  unfold qLine
  rw [TL.join_eq]
  simp only [TL.tl_append, TL.tl_join, tl_spc, List.map_cons, List.map_nil, joinL]
  have e1 : tl ("state " : Str) = tl ("state" : Str) ++ [32] := by decide +kernel
  have e2 : tl (" answer " : Str) = [32] ++ tl ("answer" : Str) ++ [32] := by decide +kernel
  have e3 : tl (" to" : Str) = [32] ++ tl ("to" : Str) := by decide +kernel
  rw [e1, e2, e3]
  simp)
theorem fix_free : (32 ∉ tl ("state" : Str) ∧ 32 ∉ tl ("answer" : Str) ∧ 32 ∉ tl ("to" : Str) ∧ 32 ∉ tl ("letter" : Str) ∧ 32 ∉ tl ("messenger" : Str) ∧ 32 ∉ tl ("brings" : Str)) ∧ (10 ∉ tl ("state " : Str) ∧ 10 ∉ tl (" answer " : Str) ∧ 10 ∉ tl (" to" : Str) ∧ 10 ∉ tl ("letter " : Str) ∧ 10 ∉ tl ("messenger " : Str) ∧ 10 ∉ tl (" brings" : Str) ∧ 10 ∉ tl ("messengers " : Str)) := by decide +kernel
theorem qLine_words {q : Q2} (h : QOk q) {i : Nat} (hi : i < q.1.length) : wordsOf (qLine q i) = [("state" : Str), numT ((i : Nat) : Int), ("answer" : Str), numT (q.2.getD i 0), ("to" : Str)] ++ (q.1.getD i []).map numT := by
  obtain ⟨⟨f1, f2, f3, f4, f5, f6⟩, _⟩ := fix_free
  rw [qLine_join]
  refine words_back (by simp) (fun w hw => ?_) (h.row hi).1
  have h8 := h.s8
  simp only [List.mem_cons, List.not_mem_nil, or_false] at hw
  rcases hw with rfl | rfl | rfl | rfl | rfl
  · exact f1
  · exact num_free (inR_nat (by omega)) (by decide)
  · exact f2
  · exact num_free (h.mark hi) (by decide)
  · exact f3
theorem qLine_nl {q : Q2} (h : QOk q) {i : Nat} (hi : i < q.1.length) : 10 ∉ tl (qLine q i) := by
  obtain ⟨_, ⟨f1, f2, f3, f4, f5, f6, f7⟩⟩ := fix_free
  have h8 := h.s8
  unfold qLine
  simp only [TL.tl_append, List.mem_append, not_or]
  exact ⟨⟨⟨⟨⟨f1, num_free (inR_nat (by omega)) (by decide)⟩, f2⟩, num_free (h.mark hi) (by decide)⟩, f3⟩, wordsT_free (h.row hi).1 (by decide) (by decide)⟩
theorem qLine_state {q : Q2} (h : QOk q) {i : Nat} (hi : i < q.1.length) : stateM (wordsOf (qLine q i)) i q.1.length = some (q.2.getD i 0, q.1.getD i []) := by
  obtain ⟨l, l1, l5, hl⟩ := h.w
  obtain ⟨r1, r2⟩ := hl _ (getD_mem (d := []) hi)
  have h8 := h.s8
  have hm := List.all_eq_true.mp h.m _ (getD_mem (d := (0 : Int)) (by rw [h.ml]; exact hi))
  rw [qLine_words h hi]
  unfold stateM
  have c1 : (([("state" : Str), numT ((i : Nat) : Int), ("answer" : Str), numT (q.2.getD i 0), ("to" : Str)] ++ (q.1.getD i []).map numT).take 3 = [("state" : Str), numT i, ("answer" : Str)]) := rfl
  have c2 : 6 ≤ ([("state" : Str), numT ((i : Nat) : Int), ("answer" : Str), numT (q.2.getD i 0), ("to" : Str)] ++ (q.1.getD i []).map numT).length := by
    simp only [List.length_append, List.length_map, List.length_cons, List.length_nil]
    omega
  rw [decide_eq_true c1, decide_eq_true c2]
  show (if (true && (true && decide (("to" : Str) = "to"))) = true then _ else _) = _
  rw [decide_eq_true rfl]
  show ((figM (numT (q.2.getD i 0)) 3).bind fun m => (numsM ((q.1.getD i []).map numT) (min q.1.length 8 - 1)).bind fun st => if st.length ≤ 5 then some (m, st) else none) = _
  rw [fig_num (h.mark hi) (of_decide_eq_true (Bool.and_eq_true_iff.mp hm).2), nums_num (h.row hi).1 (all_up r2 (by omega))]
  show (if (q.1.getD i []).length ≤ 5 then some (q.2.getD i 0, q.1.getD i []) else none) = _
  rw [if_pos (by omega)]
theorem map_range_getD {α : Type} {f : Nat → α} {n i : Nat} {d : α} (h : i < n) : ((List.range n).map f).getD i d = f i := by
  rw [List.getD_eq_getElem?_getD, List.getElem?_map, List.getElem?_range h]
  rfl
theorem take_getD {α : Type} {xs : List α} {i : Nat} {d : α} (h : i < xs.length) : xs.take (i + 1) = xs.take i ++ [xs.getD i d] := by
  rw [take_snoc (List.getElem?_eq_getElem h), getD_of (List.getElem?_eq_getElem h)]
theorem read_q {q : Q2} (h : QOk q) : rdQ (.str (textOf (qLines q))) = .ok q := by
  obtain ⟨l, l1, l5, hl⟩ := h.w
  have hne : qLines q ≠ [] := by
    have := h.s1
    unfold qLines
    intro z
    have z2 := congrArg List.length z
    rw [List.length_map, List.length_range, List.length_nil] at z2
    omega
  have elen : (qLines q).length = q.1.length := by simp [qLines]
  unfold rdQ
  rw [lines_text hne fun x hx => by
    obtain ⟨i, hi, rfl⟩ := List.mem_map.mp hx
    exact qLine_nl h (List.mem_range.mp hi)]
  show loopM (stepQ (qLines q)) (qLines q).length ([], []) = .ok q
  rw [elen]
  have key : ∀ i, i ≤ q.1.length → loopM (stepQ (qLines q)) i ([], []) = .ok (q.1.take i, q.2.take i) := by
    intro i
    induction i with
    | zero => exact fun _ => rfl
    | succ i ih =>
      intro hi
      have hi' : i < q.1.length := by omega
      refine loop_step (ih (by omega)) ?_
      have e : (if i < 8 then stateM (wordsOf ((qLines q).getD i "")) i (qLines q).length else none) = some (q.2.getD i 0, q.1.getD i []) := by
        have h8 := h.s8
        rw [if_pos (by omega), elen]
        unfold qLines
        rw [map_range_getD hi', qLine_state h hi']
      rw [stepQ_some e, take_getD (d := []) hi', take_getD (d := 0) (by rw [h.ml]; exact hi')]
      refine if_neg fun ⟨c1, c2⟩ => c2 ?_
      have z := hl _ (getD_mem (d := []) hi')
      cases hq : q.1 with
      | nil =>
        rw [hq] at hi'
        cases hi'
      | cons a r =>
        rw [← hq, z.1]
        cases i with
        | zero => exact absurd rfl c1
        | succ i =>
          rw [hq]
          show l = a.length
          exact (hl a (by rw [hq]; exact List.mem_cons_self)).1.symm
  have z := key q.1.length (Nat.le_refl _)
  rw [List.take_length, ← h.ml, List.take_length] at z
  rw [← h.ml]
  exact z
end LP

/-! LpMath3 -/
set_option maxHeartbeats 4000000
/-! What the writers write, the readers read: plans, what is brought. -/
namespace LP
open PySem PySem.Spec PyProof.Rows L2 RZ
open TL (tl spl joinL)
theorem pLine_join (p : Int × List (List Int)) (i : Nat) : pLine p i = Txt.join spc [("letter" : Str), numT ((i : Nat) : Int), ("to" : Str)] ++ wordsT (p.2.getD i []) := TL.ext_tl (by
  unfold pLine
  rw [TL.join_eq]
  simp only [TL.tl_append, TL.tl_join, tl_spc, List.map_cons, List.map_nil, joinL]
  have e1 : tl ("letter " : Str) = tl ("letter" : Str) ++ [32] := by decide +kernel
  have e3 : tl (" to" : Str) = [32] ++ tl ("to" : Str) := by decide +kernel
  rw [e1, e3]
  simp)
theorem bLine_join (b : List (List Int)) (i : Nat) : bLine b i = Txt.join spc [("messenger" : Str), numT ((i : Nat) : Int), ("brings" : Str)] ++ wordsT (b.getD i []) := TL.ext_tl (by
  unfold bLine
  rw [TL.join_eq]
  simp only [TL.tl_append, TL.tl_join, tl_spc, List.map_cons, List.map_nil, joinL]
  have e1 : tl ("messenger " : Str) = tl ("messenger" : Str) ++ [32] := by decide +kernel
  have e3 : tl (" brings" : Str) = [32] ++ tl ("brings" : Str) := by decide +kernel
  rw [e1, e3]
  simp)
theorem pLine_words {p : Int × List (List Int)} (h : POk p) {i : Nat} (hi : i < p.2.length) : wordsOf (pLine p i) = [("letter" : Str), numT ((i : Nat) : Int), ("to" : Str)] ++ (p.2.getD i []).map numT := by
  obtain ⟨⟨f1, f2, f3, f4, f5, f6⟩, _⟩ := fix_free
  rw [pLine_join]
  refine words_back (by simp) (fun w hw => ?_) (h.lot hi).1
  have h8 := h.t5
  simp only [List.mem_cons, List.not_mem_nil, or_false] at hw
  rcases hw with rfl | rfl | rfl
  · exact f4
  · exact num_free (inR_nat (by omega)) (by decide)
  · exact f3
theorem bLine_words9 {b : List (List Int)} {i : Nat} (hi : i < 10) (h9 : (b.getD i []).all (inR 0 9) = true) : wordsOf (bLine b i) = [("messenger" : Str), numT ((i : Nat) : Int), ("brings" : Str)] ++ (b.getD i []).map numT := by
  obtain ⟨⟨f1, f2, f3, f4, f5, f6⟩, _⟩ := fix_free
  rw [bLine_join]
  refine words_back (by simp) (fun w hw => ?_) h9
  simp only [List.mem_cons, List.not_mem_nil, or_false] at hw
  rcases hw with rfl | rfl | rfl
  · exact f5
  · exact num_free (inR_nat hi) (by decide)
  · exact f6
theorem pLine_nl {p : Int × List (List Int)} (h : POk p) {i : Nat} (hi : i < p.2.length) : 10 ∉ tl (pLine p i) := by
  obtain ⟨_, ⟨f1, f2, f3, f4, f5, f6, f7⟩⟩ := fix_free
  have h8 := h.t5
  unfold pLine
  simp only [TL.tl_append, List.mem_append, not_or]
  exact ⟨⟨⟨f4, num_free (inR_nat (by omega)) (by decide)⟩, f3⟩, wordsT_free (h.lot hi).1 (by decide) (by decide)⟩
theorem pHead_nl {p : Int × List (List Int)} (h : POk p) : 10 ∉ tl (pHead p) := by
  obtain ⟨_, ⟨f1, f2, f3, f4, f5, f6, f7⟩⟩ := fix_free
  unfold pHead
  simp only [TL.tl_append, List.mem_append, not_or]
  exact ⟨f7, num_free (pHead_dig h) (by decide)⟩
theorem bLine_nl {b : List (List Int)} {i : Nat} (hi : i < 10) (h9 : (b.getD i []).all (inR 0 9) = true) : 10 ∉ tl (bLine b i) := by
  obtain ⟨_, ⟨f1, f2, f3, f4, f5, f6, f7⟩⟩ := fix_free
  unfold bLine
  simp only [TL.tl_append, List.mem_append, not_or]
  exact ⟨⟨⟨f5, num_free (inR_nat hi) (by decide)⟩, f6⟩, wordsT_free h9 (by decide) (by decide)⟩
theorem head_back {p : Int × List (List Int)} (h : POk p) : headM (pHead p) = some p.1 := by
  have h1 := of_decide_eq_true (Bool.and_eq_true_iff.mp h.m).1
  have h7 := of_decide_eq_true (Bool.and_eq_true_iff.mp h.m).2
  have e : p.1 = ((p.1.toNat : Nat) : Int) := by omega
  have hp := head_parts p.1.toNat
  rw [← e] at hp
  unfold headM pHead
  rw [hp]
  show (if (decide (("messengers" : Str) = "messengers") && decide (2 = 2)) = true then (figM (numT p.1) 7).bind fun k => if k = 0 then none else some k else none) = _
  rw [decide_eq_true rfl, decide_eq_true rfl]
  show (figM (numT p.1) 7).bind (fun k => if k = 0 then none else some k) = _
  rw [fig_num (pHead_dig h) h7]
  show (if p.1 = 0 then none else some p.1) = _
  rw [if_neg (by omega)]
theorem read_p {p : Int × List (List Int)} (h : POk p) : rdP (.str (textOf (pLines p))) = .ok p := by
  have h7 := of_decide_eq_true (Bool.and_eq_true_iff.mp h.m).2
  have t1 := h.t1
  have t5 := h.t5
  have hl : linesM (.str (textOf (pLines p))) = .ok (pLines p) := lines_text (by unfold pLines; simp) fun x hx => by
    rcases List.mem_cons.mp hx with rfl | hx
    · exact pHead_nl h
    · obtain ⟨i, hi, rfl⟩ := List.mem_map.mp hx
      exact pLine_nl h (List.mem_range.mp hi)
  have elen : (pLines p).length - 1 = p.2.length := by simp [pLines]
  rw [rdP_some (m := p.1) hl (head_back h), elen]
  have key : ∀ i, i ≤ p.2.length → loopM (stepP (pLines p) p.1) i [] = .ok (p.2.take i) := by
    intro i
    induction i with
    | zero => exact fun _ => rfl
    | succ i ih =>
      intro hi
      have hi' : i < p.2.length := by omega
      refine loop_step (ih (by omega)) ?_
      have eg : (pLines p).getD (i + 1) "" = pLine p i := by
        unfold pLines
        exact map_range_getD hi'
      have hlot := List.all_eq_true.mp h.l _ (getD_mem (d := []) hi')
      have hin : (p.2.getD i []).all (inR 0 (p.1 - 1)) = true := (Bool.and_eq_true_iff.mp hlot).1
      have e : (if (wordsOf ((pLines p).getD (i + 1) "")).take 3 = [("letter" : Str), numT i, ("to" : Str)] then numsM ((wordsOf ((pLines p).getD (i + 1) "")).drop 3) (p.1 - 1) else none) = some (p.2.getD i []) := by
        rw [eg, pLine_words h hi']
        have c : ([("letter" : Str), numT ((i : Nat) : Int), ("to" : Str)] ++ (p.2.getD i []).map numT).take 3 = [("letter" : Str), numT i, ("to" : Str)] := rfl
        rw [if_pos c]
        show numsM ((p.2.getD i []).map numT) (p.1 - 1) = _
        exact nums_num (h.lot hi').1 hin
      rw [stepP_some e, take_getD (d := []) hi', hlot, decide_eq_false (by omega)]
      rfl
  have z := key p.2.length (Nat.le_refl _)
  rw [List.take_length] at z
  rw [z]
  show (if p.2 = [] then Except.error 1 else Except.ok (p.1, p.2)) = _
  rw [if_neg fun z => by rw [z] at t1; simp at t1]
theorem stepB_line {p : Int × List (List Int)} {b : List (List Int)} (hp : POk p) (h : BOk p b) {ls : List Str} {i : Nat} (hi : i < b.length) (hg : i < ls.length) (eg : ls.getD i "" = bLine b i) (a : List (List Int)) : stepB p ls i a = .ok (a ++ [b.getD i []]) := by
  have h7 := h.len hp
  have hn := h.n
  have hr := h.r i _ (List.getElem?_eq_getElem hi)
  have egd : b.getD i [] = b[i] := getD_of (List.getElem?_eq_getElem hi)
  rw [← egd] at hr
  have h5 := hp.t5
  have ht : isText p.2.length (b.getD i []) = true := (Bool.and_eq_true_iff.mp hr).1
  have hin := (Bool.and_eq_true_iff.mp ht).2
  have e : (if (wordsAt ls i).take 3 = [("messenger" : Str), numT i, ("brings" : Str)] then numsM ((wordsAt ls i).drop 3) 4 else none) = some (b.getD i []) := by
    unfold wordsAt
    have c : ([("messenger" : Str), numT ((i : Nat) : Int), ("brings" : Str)] ++ (b.getD i []).map numT).take 3 = [("messenger" : Str), numT i, ("brings" : Str)] := rfl
    rw [if_pos hg, eg, bLine_words9 (by omega) (h.row hp hi).1, if_pos c]
    show numsM ((b.getD i []).map numT) 4 = _
    exact nums_num (h.row hp hi).1 (all_up hin (by omega))
  rw [stepB_some e, hr, decide_eq_false (by omega)]
  rfl
theorem read_b {p : Int × List (List Int)} {b : List (List Int)} (hp : POk p) (h : BOk p b) : rdB p (.str (textOf (bLines b))) = .ok b := by
  have h7 := h.len hp
  have hn := h.n
  have h1 := of_decide_eq_true (Bool.and_eq_true_iff.mp hp.m).1
  have elen : (bLines b).length = b.length := by simp [bLines]
  have hl : linesM (.str (textOf (bLines b))) = .ok (bLines b) := lines_text (fun z => by
    have := congrArg List.length z
    rw [elen, List.length_nil] at this
    omega) fun x hx => by
    obtain ⟨i, hi, rfl⟩ := List.mem_map.mp hx
    have hi := List.mem_range.mp hi
    exact bLine_nl (by omega) (h.row hp hi).1
  rw [rdB_ok hl, elen, Nat.max_eq_left (by omega)]
  have key : ∀ i, i ≤ b.length → loopM (stepB p (bLines b)) i [] = .ok (b.take i) := by
    intro i
    induction i with
    | zero => exact fun _ => rfl
    | succ i ih =>
      intro hi
      have hi' : i < b.length := by omega
      refine loop_step (ih (by omega)) ?_
      rw [stepB_line hp h hi' (by rw [elen]; exact hi') (by unfold bLines; exact map_range_getD hi'), take_getD (d := []) hi']
  have z := key b.length (Nat.le_refl _)
  rw [List.take_length] at z
  exact z
/-- one line more -/
def bExtra (p : Int × List (List Int)) : Str := ("messenger " : Str) ++ numT p.1 ++ (" brings" : Str)
theorem extra_text (p : Int × List (List Int)) (b : List (List Int)) : textOf (bLines b) ++ ("messenger " : Str) ++ numT p.1 ++ (" brings\n" : Str) = textOf (bLines b ++ [bExtra p]) := TL.ext_tl (by
  rw [textOf_snoc]
  unfold bExtra
  simp only [TL.tl_append]
  have e : tl (" brings\n" : Str) = tl (" brings" : Str) ++ tl nl := by decide +kernel
  rw [e]
  simp)
theorem read_bx {p : Int × List (List Int)} {b : List (List Int)} (hp : POk p) (h : BOk p b) : rdB p (.str (textOf (bLines b ++ [bExtra p]))) = .error p.1 := by
  have h7 := h.len hp
  have hn := h.n
  have h1 := of_decide_eq_true (Bool.and_eq_true_iff.mp hp.m).1
  obtain ⟨_, ⟨f1, f2, f3, f4, f5, f6, f7⟩⟩ := fix_free
  have elen : (bLines b).length = b.length := by simp [bLines]
  have elen2 : (bLines b ++ [bExtra p]).length = b.length + 1 := by simp [elen]
  have hl : linesM (.str (textOf (bLines b ++ [bExtra p]))) = .ok (bLines b ++ [bExtra p]) := lines_text (by simp) fun x hx => by
    rcases List.mem_append.mp hx with hx | hx
    · obtain ⟨i, hi, rfl⟩ := List.mem_map.mp hx
      have hi := List.mem_range.mp hi
      exact bLine_nl (by omega) (h.row hp hi).1
    · rw [List.mem_singleton.mp hx]
      unfold bExtra
      simp only [TL.tl_append, List.mem_append, not_or]
      exact ⟨⟨f5, num_free (pHead_dig hp) (by decide)⟩, f6⟩
  rw [rdB_ok hl, elen2, Nat.max_eq_left (by omega)]
  have key : ∀ i, i ≤ b.length → loopM (stepB p (bLines b ++ [bExtra p])) i [] = .ok (b.take i) := by
    intro i
    induction i with
    | zero => exact fun _ => rfl
    | succ i ih =>
      intro hi
      have hi' : i < b.length := by omega
      refine loop_step (ih (by omega)) ?_
      rw [stepB_line hp h hi' (by rw [elen2]; omega) (by
        rw [List.getD_eq_getElem?_getD, List.getElem?_append_left (by rw [elen]; exact hi'), ← List.getD_eq_getElem?_getD]
        unfold bLines
        exact map_range_getD hi'), take_getD (d := []) hi']
  refine loop_fail (key b.length (Nat.le_refl _)) ?_ (Nat.lt_succ_self _) |>.trans (congrArg Except.error hn)
  cases q : (if (wordsAt (bLines b ++ [bExtra p]) b.length).take 3 = [("messenger" : Str), numT b.length, ("brings" : Str)] then numsM ((wordsAt (bLines b ++ [bExtra p]) b.length).drop 3) 4 else none) with
  | none => exact stepB_none q
  | some row => rw [stepB_some q, decide_eq_true (by omega), Bool.true_or, if_pos rfl]
/-! ### two written texts -/
def q5 : Q2 := ([[0, 0, 0, 0, 0]], [1])
theorem q5_ok : QOk q5 := ⟨by decide, by decide, ⟨5, by decide, by decide, fun x hx => by
  rw [List.mem_singleton.mp hx]
  exact ⟨rfl, by decide⟩⟩, rfl, by decide⟩
theorem q5_text : ("state 0 answer 1 to 0 0 0 0 0" : Str) ++ ("\n" : Str) = textOf (qLines q5) := by decide +kernel
def q6 : Q2 := ([[0, 0, 0, 0, 0, 0]], [1])
theorem q6_text : ("state 0 answer 1 to 0 0 0 0 0" : Str) ++ (" 0\n" : Str) = textOf [qLine q6 0] := by decide +kernel
theorem read_q6 : rdQ (.str (textOf [qLine q6 0])) = .error 0 := by
  have hl : linesM (.str (textOf [qLine q6 0])) = .ok [qLine q6 0] := lines_text (by simp) fun x hx => by
    rw [List.mem_singleton.mp hx]
    decide +kernel
  have hw : wordsOf (qLine q6 0) = [("state" : Str), numT ((0 : Nat) : Int), ("answer" : Str), numT (q6.2.getD 0 0), ("to" : Str)] ++ (q6.1.getD 0 []).map numT := by
    obtain ⟨⟨f1, f2, f3, f4, f5, f6⟩, _⟩ := fix_free
    rw [qLine_join]
    refine words_back (by simp) (fun w hw => ?_) (by decide)
    simp only [List.mem_cons, List.not_mem_nil, or_false] at hw
    rcases hw with rfl | rfl | rfl | rfl | rfl
    · exact f1
    · exact num_free (inR_nat (by decide)) (by decide)
    · exact f2
    · exact num_free (by decide) (by decide)
    · exact f3
  have hs : stateM (wordsOf (qLine q6 0)) 0 1 = none := by
    rw [hw]
    decide +kernel
  unfold rdQ
  rw [hl]
  exact loop_fail (f := stepQ [qLine q6 0]) (i := 0) (n := 1) rfl (stepQ_none (show (if 0 < 8 then stateM (wordsOf (qLine q6 0)) 0 1 else none) = none by rw [if_pos (by decide)]; exact hs)) (by decide)
end LP

/-! LpLaw1 -/
set_option maxHeartbeats 4000000
/-! _law_told(lambda: ..), as the law calls it. -/
namespace LP
open PySem PySem.Spec PyProof.Rows L2 RZ
open LamX (lamCx lamEnv Tabs TabS)
abbrev stold : Stmt := topS 40
theorem sctold : FnScope ["_law_work", "e"] ["_law_work"] (defScope stold) := ⟨rfl, rfl, rfl, by decide +kernel, rfl, by decide +kernel, by decide +kernel⟩
abbrev lamT (K : Fg) : List (Addr × Str) := [(ltb K, ("law" ++ ".<locals>." : Str) ++ "<lambda>")]
section
variable {X : Cx} {C : Addr} {params : Arguments} {body : Expr} {scope : Scope} {lpos p pos : Pos} {t : XK → TE} {k : Nat}
theorem pe_toldT (T : Tx X.K X.mg C) (TB : GxR.TabB X.base X.mg (He.cT X.K ("law", none)).1 (ltb X.K)) (hcode : X.env.code = .ref (He.cT X.K ("law", none)).1) (hq : X.env.qual = ("law" ++ ".<locals>." : Str)) (hr : Room (k + 2) X.A) (L : LamD X.N X.env.scope scope) (hdef : defaultsOf params X.env = ([], []))
    (hbind : ∀ (q : Str) (cl : List (Str × Addr)) (doc pm cv ctv : Value), bindArgs (PySem.W.kdv_fn "<lambda>" q params (.expr body) scope cl .none doc pm cv ctv) ⟨[], []⟩ = pure [])
    (hbody : ∀ (A : Around) (outer : List Env) (s : Shared) (H : Hp) (E : XK) (f c' : Addr), Room k (A.deeper (lamEnv X scope s.heap.objs.size f c')) → PE (lamCx X A outer s H E scope f c') body (t E)) (hg : Gl X "_law_told" := by rfl) :
    PE X (.Call (.Name "_law_told" p) [.Lambda params body scope lpos] [] pos) (tLamD (lamT X.K) (ltb X.K) (TToldL C "line" "line") t) := by
  obtain ⟨gm, fd, F⟩ := T.fn 24 _ _ rfl
  have hb : Binds X.K fd ["_law_work"] [] := F.bindsN fun _ _ _ _ _ _ us hl => match us, hl with | [_], _ => rfl
  obtain ⟨oc, od, dV, kV, doc, pm, an, cdv, ct, osl, rfl, lk, hcd, _, _⟩ := F.ex
  have B := T.bad
  exact pe_told0 (x := "_law_told") (a := "_law_work") (Ng := ["_law_work", "e"]) hg gm F.kp lk hcd hb sctold rfl (.inl rfl) (told_givesL (CS := C) rfl B.gm (by decide) sctold.nd rfl rfl B.xf B.no B.ex (by decide) (by decide) (fun _ => rfl) fun _ _ => rfl) ⟨TB.code, TB.bm, TB.gP⟩ hcode (by rw [hq]; exact List.mem_singleton.mpr rfl) (fun q hq2 _ => by rw [List.mem_singleton.mp hq2, hq]) hr L hdef hbind hbody
theorem pe_toldT1 {i : Int} {ji : Nat} {pi : Pos} {y : Str} (T : Tx X.K X.mg C) (TB : GxR.TabB X.base X.mg (He.cT X.K ("law", none)).1 (ltb X.K)) (hcode : X.env.code = .ref (He.cT X.K ("law", none)).1) (hq : X.env.qual = ("law" ++ ".<locals>." : Str)) (hr : Room (k + 2) X.A) (L : LamD X.N X.env.scope scope)
    (hdef : params.defaults = [.Constant (.int i) ji pi]) (hkw : params.kw_defaults = []) (hyl : scope.names.lookup y = some .local)
    (hbind : ∀ (s : Shared) (T0 : Addr) (v : Value) (q : Str) (cl : List (Str × Addr)) (doc pm cv ctv : Value), s.heap.get? T0 = some { cls := .type "tuple", data := .seq #[v] } → BindsTo s (PySem.W.kdv_fn "<lambda>" q params (.expr body) scope cl (.ref T0) doc pm cv ctv) ⟨[], []⟩ [(y, v)])
    (hbody : ∀ (A : Around) (outer : List Env) (s : Shared) (H : Hp) (E : XK) (f c' : Addr), Room k (A.deeper (lamEnv X scope s.heap.objs.size f c')) → PE (lamCx X A outer s H E scope f c') body (t E)) (hg : Gl X "_law_told" := by rfl) :
    PE X (.Call (.Name "_law_told" p) [.Lambda params body scope lpos] [] pos) (tLamD (lamT X.K) (ltb X.K) (TToldL C "line" "line") t) := by
  obtain ⟨gm, fd, F⟩ := T.fn 24 _ _ rfl
  have hb : Binds X.K fd ["_law_work"] [] := F.bindsN fun _ _ _ _ _ _ us hl => match us, hl with | [_], _ => rfl
  obtain ⟨oc, od, dV, kV, doc, pm, an, cdv, ct, osl, rfl, lk, hcd, _, _⟩ := F.ex
  have B := T.bad
  exact pe_told1 (x := "_law_told") (a := "_law_work") (Ng := ["_law_work", "e"]) hg gm F.kp lk hcd hb sctold rfl (.inl rfl) (told_givesL (CS := C) rfl B.gm (by decide) sctold.nd rfl rfl B.xf B.no B.ex (by decide) (by decide) (fun _ => rfl) fun _ _ => rfl) ⟨TB.code, TB.bm, TB.gP⟩ hcode (by rw [hq]; exact List.mem_singleton.mpr rfl) (fun q hq2 _ => by rw [List.mem_singleton.mp hq2, hq]) hr L hdef hkw hyl hbind hbody
end
end LP

/-! LpLaw2 -/
set_option maxHeartbeats 4000000
/-! The law's level of data. -/
namespace LP
open PySem PySem.Spec PyProof.Rows L2 RZ
open LamX (lamCx lamEnv Tabs TabS CodeO)
section
variable {K : Fg} {l a p : Addr} {H H1 H2 B : Hp} {xs : List V} {v : V} {d : PyData} {ps : Array Value} {q : Str}
theorem tabs_one : Tabs (lamT K) H ↔ TabS H (ltb K) (("law" ++ ".<locals>." : Str) ++ "<lambda>") := ⟨fun h => h _ List.mem_cons_self, fun h r hr => by rw [List.mem_singleton.mp hr]; exact h⟩
theorem tabs_gx (t : Tabs (lamT K) H) (g : Gx K H H1) : Tabs (lamT K) H1 := by
  rw [tabs_one] at t ⊢
  obtain ⟨ps, h1, h2, h3⟩ := t
  refine ⟨ps, g.keep _ _ h1 (.inr rfl), h2, fun pos cv e => ?_⟩
  obtain ⟨c, e1, e2⟩ := h3 pos cv e
  exact ⟨c, e1, g.keep _ _ e2 (.inl fun ps z => by cases z)⟩
theorem tabs_del (t : Tabs (lamT K) H) (m : H l = some (.lst xs)) : Tabs (lamT K) (del H l) := by
  rw [tabs_one] at t ⊢
  obtain ⟨ps, h1, h2, h3⟩ := t
  refine ⟨ps, by rw [del_ne (ne_of h1 m (by intro z; cases z))]; exact h1, h2, fun pos cv e => ?_⟩
  obtain ⟨c, e1, e2⟩ := h3 pos cv e
  exact ⟨c, e1, by rw [del_ne (ne_of e2 m (by intro z; cases z))]; exact e2⟩
theorem tabs_upd {o : HO} (t : Tabs (lamT K) H) (m : H p = some (.lst xs)) : Tabs (lamT K) (upd H p o) := by
  rw [tabs_one] at t ⊢
  obtain ⟨ps, h1, h2, h3⟩ := t
  refine ⟨ps, by rw [upd_ne (ne_of h1 m (by intro z; cases z))]; exact h1, h2, fun pos cv e => ?_⟩
  obtain ⟨c, e1, e2⟩ := h3 pos cv e
  exact ⟨c, e1, by rw [upd_ne (ne_of e2 m (by intro z; cases z))]; exact e2⟩
theorem tabs_tbl (t : Tabs (lamT K) H) : ∃ ps, H (ltb K) = some (.tbl ps) := by
  rw [tabs_one] at t
  obtain ⟨ps, h1, _⟩ := t
  exact ⟨ps, h1⟩
/-- what is known at each place of the law: B, what stands for good; the row; the table -/
structure Lst (K : Fg) (l a : Addr) (B H : Hp) : Prop where
  g : Gx K B (del H l)
  rw : Rw l a H
  tbs : Tabs (lamT K) (del H l)
theorem Lst.to (s : Lst K l a B H) (g : Gx K (del H l) (del H1 l)) (rw : Rw l a H1) : Lst K l a B H1 := ⟨s.g.trans g, rw, tabs_gx s.tbs g⟩
theorem Lst.gx (s : Lst K l a B H) (g : Gx K H H1) : Lst K l a B H1 := by
  obtain ⟨xs, m⟩ := s.rw.lst
  exact s.to (gx_dd g m) (s.rw.gx g)
theorem Lst.gB (s : Lst K l a B H) : Gx K B H := s.g.trans gx_in
/-- a list that B does not know changes -/
theorem Lst.mut {o : HO} (s : Lst K l a B H) (n : B p = none) (hp : p ≠ l) (m : H p = some (.lst xs)) : Lst K l a B (upd H p o) := by
  have m' : del H l p = some (.lst xs) := by
    rw [del_ne hp]
    exact m
  refine ⟨?_, s.rw.upd hp, ?_⟩
  · rw [del_upd hp]
    exact s.g.mut n m'
  · rw [del_upd hp]
    exact tabs_upd s.tbs m'
/-- all but the law's table -/
abbrev offT (K : Fg) (l : Addr) (H : Hp) : Hp := del (del H l) (ltb K)
theorem off_ne {b : Addr} (h : b ≠ ltb K) : offT K l H b = del H l b := del_ne h
theorem gx_offT (g : Gx K B (del H l)) (n : B (ltb K) = none) (tn : ∀ x ∈ gtNames, tb K x ≠ ltb K) : Gx K B (offT K l H) := ⟨fun t x hx => by
  obtain ⟨ps, h1, h2⟩ := g.gt t x hx
  exact ⟨ps, by rw [off_ne (tn x hx)]; exact h1, h2⟩, fun b u h nt => by
  rw [off_ne (ne_of_none h n)]
  exact g.keep b u h nt, fun b ps h => by
  rw [off_ne (ne_of_none h n)]
  exact g.tbl b ps h⟩
theorem Lst.off (s : Lst K l a B H) : Lst K l a (offT K l H) H := ⟨gx_in, s.rw, s.tbs⟩
theorem Dv.off (h : Dv (del H l) v d) (m : (del H l) (ltb K) = some (.tbl ps)) : Dv (offT K l H) v d := by
  have kt : Kt (del H l) (offT K l H) := fun b ys e => by
    rw [off_ne (ne_of e m (by intro z; cases z))]
    exact e
  rcases h with h | ⟨ds, b, us, e1, e2, h1, h2⟩
  · exact .inl (h.kt kt)
  · exact .inr ⟨ds, b, us, e1, e2, by rw [off_ne (ne_of h1 m (by intro z; cases z))]; exact h1, h2.kt kt⟩
/-- the lambda's step: the table changes, nothing else -/
theorem Lst.lam (s : Lst K l a B H) (nB : B (ltb K) = none) (tn : ∀ x ∈ gtNames, tb K x ≠ ltb K) (k : ∀ b o, b ≠ ltb K → H b = some o → H1 b = some o) (t : Tabs (lamT K) H1) : Lst K l a B H1 ∧ Kt H H1 := by
  obtain ⟨i, s1, r, m, c⟩ := s.rw
  obtain ⟨ps, hps⟩ := tabs_tbl s.tbs
  have hlP : l ≠ ltb K := fun z => by
    rw [← z, del_same] at hps
    cases hps
  have m1 : H1 l = some (.lst [.ref a, .int i, .int s1, .int r]) := k l _ hlP m
  refine ⟨⟨⟨fun gt x hx => ?_, fun b o h nt => ?_, fun b ps h => ?_⟩, ⟨i, s1, r, m1, c⟩, tabs_del t m1⟩, fun b ys e => k b _ (fun z => ?_) e⟩
  · obtain ⟨ps', h1, h2⟩ := s.g.gt gt x hx
    obtain ⟨h3, h4⟩ := del_some h1
    exact ⟨ps', by rw [del_ne h3]; exact k _ _ (tn x hx) h4, h2⟩
  · obtain ⟨h3, h4⟩ := del_some (s.g.keep b o h nt)
    rw [del_ne h3]
    exact k b o (ne_of_none h nB) h4
  · obtain ⟨ps', h1⟩ := s.g.tbl b ps h
    obtain ⟨h3, h4⟩ := del_some h1
    exact ⟨ps', by rw [del_ne h3]; exact k b _ (ne_of_none h nB) h4⟩
  · obtain ⟨_, h4⟩ := del_some hps
    rw [z, h4] at e
    cases e
end
def EvL (K : Fg) (l a : Addr) (te : TE) (σ : L2.St) (B : Hp) (d : PyData) : Prop := ∀ H1, Lst K l a B H1 → ∀ Q : VK, (∀ v H2, Kt H1 H2 → Lst K l a B H2 → Dv H2 v d → Q v H2) → te σ H1 Q
def EtL (K : Fg) (l a : Addr) (tt : TT) (σ : L2.St) (B : Hp) (b : Bool) : Prop := ∀ H1, Lst K l a B H1 → ∀ Q : Bool → Hp → Prop, (∀ H2, Kt H1 H2 → Lst K l a B H2 → Q b H2) → tt σ H1 Q
section
variable {K : Fg} {l a C : Addr} {H B : Hp} {σ : L2.St} {te ta tb' : TE} {D : Ends} {tz : TS} {d e : PyData} {E : XK}
theorem el_of (h : Ev K te σ B d) : EvL K l a te σ B d := fun H1 s Q q => h H1 s.gB Q fun v H2 g hv => q v H2 g.kt (s.gx g) hv
/-- _law_told(lambda: f(..)) -/
theorem el_told {R : List PyData → Except Int PyData → Prop} {ta : TA} {ds : List PyData} {r : Except Int PyData} (nB : B (ltb K) = none) (tn : ∀ x ∈ gtNames, tb K x ≠ ltb K) (t : GT K B) (h : EvA K ta σ B ds) (hr : R ds r) :
    EvL K l a (tLamD (lamT K) (ltb K) (TToldL C "line" "line") (fun E => tCall (SpX K C R) [] E ta)) σ B (toldD r) := fun H1 s Q q => by
  refine ⟨tabs_gx s.tbs gx_in, fun H2 k tb2 => ?_⟩
  obtain ⟨s2, kt2⟩ := s.lam nB tn k tb2
  intro E hE
  refine h H2 s2.gB _ fun vs H3 g3 hvs => ?_
  show SpX K C R (vs ++ []) H3 Q E
  rw [List.append_nil]
  have s3 := s2.gx g3
  refine ⟨ds, r, hvs, hr, s3.gB.gt t, fun d hd v H4 g4 hv => ?_, fun m hm dd H4 g4 hdd => ?_⟩
  · subst hd
    exact q v H4 (kt2.trans (g3.trans g4).kt) (s3.gx g4) hv
  · subst hm
    refine hE dd _ (.int m) H4 hdd rfl fun p np => ?_
    have g5 : Gx K H4 (upd H4 p (.tup [.str "line", .int m])) := .new np
    exact q _ _ (kt2.trans ((g3.trans g4).trans g5).kt) ((s3.gx g4).gx g5) (.ofT upd_same (.cons (.str _) (.cons (.int _) .nil)))
theorem et_alike {k : Nat} (t : GT K B) (h1 : EvL K l a ta σ B d) (h2 : Ev K tb' σ B d) (p : plainD d = true) (hd : Alk k d) : EtL K l a (tNot (tB (tCall (SpR K (rAlk k)) [] E (tCons ta (tCons tb' tNil))))) σ B false := fun H1 s Q q =>
  h1 H1 s _ fun v H2 k2 s2 hv => h2 H2 s2.gB _ fun u H3 g3 hu => by
    show SpR K (rAlk k) ([v, u] ++ []) H3 _ E
    rw [List.append_nil]
    exact ⟨[d, d], .bool true, .cons (hv.gx g3) (.cons hu .nil), ⟨d, hd, rfl, rfl⟩, (s2.gx g3).gB.gt t, fun w H4 g4 hw => ⟨true, hw.blE, q H4 (k2.trans (g3.trans g4).kt) ((s2.gx g3).gx g4)⟩⟩
theorem et_neL (h1 : EvL K l a ta σ B d) (h2 : Ev K tb' σ B d) (hs : SeqAt.shaped d = true) (he : PyData.eqv d d = true) : EtL K l a (tTest (tOp (rNeD K) ta tb')) σ B false := fun H1 s Q q =>
  h1 H1 s _ fun v H2 k2 s2 hv => h2 H2 s2.gB _ fun u H3 g3 hu => ⟨d, d, (hv.gx g3).dp, hu.dp, hs, hs, false, by rw [he]; rfl, q H3 (k2.trans g3.kt) (s2.gx g3)⟩
theorem el_pair (h1 : EvL K l a ta σ B d) (h2 : EvL K l a tb' σ B e) (p1 : plainD d = true) (p2 : plainD e = true) : EvL K l a (tLst (tCons ta (tCons tb' tNil))) σ B (.list [d, e]) := fun H1 s Q q =>
  h1 H1 s _ fun v H2 k2 s2 hv => h2 H2 s2 _ fun u H3 k3 s3 hu => ⟨by show 2 ≤ sizeLine; decide, fun p np => by
    have g : Gx K H3 (upd H3 p (.lst [v, u])) := .new np
    exact q _ _ (k2.trans (k3.trans g.kt)) (s3.gx g) (.ofL upd_same (.cons (((hv.tv p1).kt k3).kt g.kt) (.cons ((hu.tv p2).kt g.kt) .nil)))⟩
theorem l_when {tt : TT} {tu : TS} (s : Lst K l a B H) (h : EtL K l a tt σ B false) (k : ∀ H1, Kt H H1 → Lst K l a B H1 → tz D σ H1) : tSeq (tIfS tt tu tNext) tz D σ H := h H s _ fun H2 k2 s2 => by
  rw [if_neg Bool.false_ne_true]
  exact k H2 k2 s2
theorem l_whenE {tt : TT} {tu : TS} (s : Lst K l a B H) (h : EtL K l a tt σ B false) (k : ∀ H1, Kt H H1 → Lst K l a B H1 → D.nx σ H1) : tIfS tt tu tNext D σ H := h H s _ fun H2 k2 s2 => by
  rw [if_neg Bool.false_ne_true]
  exact k H2 k2 s2
theorem et_L {tt : TT} {b : Bool} (h : EvT K tt σ B b) : EtL K l a tt σ B b := fun H1 s Q q => h H1 s.gB Q fun H2 g => q H2 g.kt (s.gx g)
end
/-! ### the data of the law are plain -/
theorem alk_ints (ns : List Int) (k : Nat) (h : ns.length ≤ 1000) : Alk (k + 2) (iD ns) := .inr (.inr ⟨_, rfl, by rw [List.length_map]; exact h, fun x hx => by
  obtain ⟨n, _, rfl⟩ := List.mem_map.mp hx
  exact .inl ⟨n, rfl⟩⟩)
theorem alk_line (n : Int) (k : Nat) : Alk (k + 2) (lineD n) := .inr (.inr ⟨_, rfl, by show 2 ≤ 1000; decide, fun x hx => by
  rcases List.mem_cons.mp hx with rfl | hx
  · exact .inr (.inl ⟨_, rfl, by decide +kernel⟩)
  · rw [List.mem_singleton.mp hx]
    exact .inl ⟨n, rfl⟩⟩)
theorem alk_tups (xs : List (List Int)) (k : Nat) (h : xs.length ≤ 1000) (h2 : ∀ x ∈ xs, x.length ≤ 1000) : Alk (k + 3) (tD xs) := .inr (.inr ⟨_, rfl, by rw [List.length_map]; exact h, fun x hx => by
  obtain ⟨n, hn, rfl⟩ := List.mem_map.mp hx
  exact alk_ints n k (h2 n hn)⟩)
theorem alk_q {q : Q2} (h1 : q.1.length ≤ 1000) (h2 : ∀ x ∈ q.1, x.length ≤ 1000) (h3 : q.2.length ≤ 1000) : Alk 9 (qD q) := .inr (.inr ⟨_, rfl, by show 2 ≤ 1000; decide, fun x hx => by
  rcases List.mem_cons.mp hx with rfl | hx
  · exact alk_tups q.1 5 h1 h2
  · rw [List.mem_singleton.mp hx]
    exact alk_ints q.2 6 h3⟩)
theorem alk_p {p : Int × List (List Int)} (h1 : p.2.length ≤ 1000) (h2 : ∀ x ∈ p.2, x.length ≤ 1000) : Alk 9 (pD p) := .inr (.inr ⟨_, rfl, by show 2 ≤ 1000; decide, fun x hx => by
  rcases List.mem_cons.mp hx with rfl | hx
  · exact .inl ⟨_, rfl⟩
  · rw [List.mem_singleton.mp hx]
    exact alk_tups p.2 5 h1 h2⟩)
end LP

/-! LpLaw3 -/
set_option maxHeartbeats 4000000
/-! What the readers give is small. -/
namespace LP
open PySem PySem.Spec PyProof.Rows L2 RZ
theorem loop_all {α : Type} {f : Nat → α → Except Int α} {a0 : α} (I : Nat → α → Prop) (h0 : I 0 a0) (hs : ∀ i b c, I i b → f i b = .ok c → I (i + 1) c) : ∀ {n : Nat} {a : α}, loopM f n a0 = .ok a → I n a
  | 0, a, h => by
    cases h
    exact h0
  | n + 1, a, h => by
    obtain ⟨b, h1, h2⟩ := loop_inv h
    exact hs n b a (loop_all I h0 hs h1) h2
theorem alk_told {r : Except Int PyData} (h : ∀ d, r = .ok d → Alk 9 d) : Alk 9 (toldD r) := by
  cases r with
  | ok d => exact h d rfl
  | error n => exact alk_line n 7
theorem map_ok {α : Type} {r : Except Int α} {f : α → PyData} {d : PyData} (h : mapE r f = .ok d) : ∃ b, r = .ok b ∧ d = f b := by
  cases r with
  | ok b =>
    injection h with h
    exact ⟨b, rfl, h.symm⟩
  | error n => cases h
theorem told_plain {α : Type} (r : Except Int α) {f : α → PyData} (h : ∀ b, plainD (f b) = true) : plainD (toldD (mapE r f)) = true := by
  cases r with
  | ok b => exact h b
  | error n => rfl
theorem alk_rdQ (d : PyData) : Alk 9 (toldD (mapE (rdQ d) qD)) := alk_told fun d' e => by
  obtain ⟨q, e1, rfl⟩ := map_ok e
  unfold rdQ at e1
  cases el : linesM d with
  | error m =>
    rw [el] at e1
    cases e1
  | ok ls =>
    rw [el] at e1
    have e1 : loopM (stepQ ls) ls.length ([], []) = .ok q := e1
    have z := loop_all (fun i (b : Q2) => i ≤ 8 ∧ b.1.length = i ∧ b.2.length = i ∧ ∀ x ∈ b.1, x.length ≤ 5) ⟨by decide, rfl, rfl, fun x hx => (List.not_mem_nil hx).elim⟩ (fun i b c ⟨h1, h2, h3, h4⟩ hs => by
      cases q : (if i < 8 then stateM (wordsOf (ls.getD i "")) i ls.length else none) with
      | none =>
        rw [stepQ_none q] at hs
        cases hs
      | some p =>
        obtain ⟨m, s⟩ := p
        rw [stepQ_some q] at hs
        split at hs
        · cases hs
        · cases hs
          have hi : i < 8 := by
            by_cases h : i < 8
            · exact h
            · rw [if_neg h] at q
              cases q
          rw [if_pos hi] at q
          refine ⟨by omega, by simp [h2], by simp [h3], fun x hx => ?_⟩
          rcases List.mem_append.mp hx with hx | hx
          · exact h4 x hx
          · rw [List.mem_singleton.mp hx]
            exact state_len q) e1
    obtain ⟨h1, h2, h3, h4⟩ := z
    exact alk_q (by omega) (fun x hx => by have := h4 x hx; omega) (by omega)
theorem alk_rdP (d : PyData) : Alk 9 (toldD (pE (rdP d))) := alk_told fun d' e => by
  obtain ⟨p, e1, rfl⟩ := map_ok e
  cases el : linesM d with
  | error m =>
    unfold rdP at e1
    rw [el] at e1
    cases e1
  | ok ls =>
    cases hh : headM (ls.headD "") with
    | none =>
      rw [rdP_none el hh] at e1
      cases e1
    | some m =>
      rw [rdP_some el hh] at e1
      cases e2 : loopM (stepP ls m) (ls.length - 1) [] with
      | error n =>
        rw [e2] at e1
        cases e1
      | ok told =>
        rw [e2] at e1
        have e1 : (if told = [] then Except.error 1 else Except.ok (m, told) : Except Int (Int × List (List Int))) = .ok p := e1
        split at e1
        · cases e1
        · injection e1 with e1
          subst e1
          obtain ⟨_, _, hf, _⟩ := head_some hh
          have m7 := (fig_range hf).2.2
          have z := loop_all (fun i (b : List (List Int)) => i ≤ 5 ∧ b.length = i ∧ ∀ x ∈ b, x.length ≤ 10) ⟨by decide, rfl, fun x hx => (List.not_mem_nil hx).elim⟩ (fun i b c ⟨h1, h2, h4⟩ hs => by
            cases q : (if (wordsOf (ls.getD (i + 1) "")).take 3 = [("letter" : Str), numT i, ("to" : Str)] then numsM ((wordsOf (ls.getD (i + 1) "")).drop 3) (m - 1) else none) with
            | none =>
              rw [stepP_none q] at hs
              cases hs
            | some lot =>
              rw [stepP_some q] at hs
              split at hs
              · cases hs
              · rename_i hc
                cases hs
                have hc : decide (5 < i + 1) = false ∧ (!isLot m lot) = false := Bool.or_eq_false_iff.mp (Bool.eq_false_iff.mpr hc)
                have c1 := of_decide_eq_false hc.1
                refine ⟨by omega, by simp [h2], fun x hx => ?_⟩
                rcases List.mem_append.mp hx with hx | hx
                · exact h4 x hx
                · rw [List.mem_singleton.mp hx]
                  exact (lot_len (nb' hc.2) m7).2) e2
          obtain ⟨h1, h2, h4⟩ := z
          exact alk_p (by show told.length ≤ 1000; omega) (fun x hx => by have := h4 x hx; omega)
theorem alk_rdB {p : Int × List (List Int)} (hp : POk p) (d : PyData) : Alk 9 (toldD (mapE (rdB p d) tD)) := alk_told fun d' e => by
  have p7 := of_decide_eq_true (Bool.and_eq_true_iff.mp hp.m).2
  obtain ⟨b, e1, rfl⟩ := map_ok e
  cases el : linesM d with
  | error m =>
    rw [rdB_err el] at e1
    cases e1
  | ok ls =>
    rw [rdB_ok el] at e1
    have z := loop_all (fun i (b : List (List Int)) => (i : Int) ≤ 7 ∧ b.length = i ∧ ∀ x ∈ b, x.length ≤ 40) ⟨by decide, rfl, fun x hx => (List.not_mem_nil hx).elim⟩ (fun i b c ⟨h1, h2, h4⟩ hs => by
      cases q : (if (wordsAt ls i).take 3 = [("messenger" : Str), numT i, ("brings" : Str)] then numsM ((wordsAt ls i).drop 3) 4 else none) with
      | none =>
        rw [stepB_none q] at hs
        cases hs
      | some row =>
        rw [stepB_some q] at hs
        split at hs
        · cases hs
        · rename_i hc
          cases hs
          have hc : decide (p.1 ≤ i) = false ∧ (!rowOk p.2 i row) = false := Bool.or_eq_false_iff.mp (Bool.eq_false_iff.mpr hc)
          have c1 := of_decide_eq_false hc.1
          have c2 := nb' hc.2
          refine ⟨by omega, by simp [h2], fun x hx => ?_⟩
          rcases List.mem_append.mp hx with hx | hx
          · exact h4 x hx
          · rw [List.mem_singleton.mp hx]
            unfold rowOk isText at c2
            exact of_decide_eq_true (Bool.and_eq_true_iff.mp (Bool.and_eq_true_iff.mp c2).1).1) e1
    obtain ⟨h1, h2, h4⟩ := z
    exact alk_tups b 6 (by omega) (fun x hx => by have := h4 x hx; omega)
theorem alk_str {s : Str} (h : asciiT s = true) : Alk 9 (.str s) := .inr (.inl ⟨s, rfl, h⟩)
theorem QOk.alk {q : Q2} (h : QOk q) : Alk 9 (qD q) := alk_q (by have := h.s8; omega) (fun x hx => by
  obtain ⟨l, l1, l5, hl⟩ := h.w
  have := (hl x hx).1
  omega) (by have := h.ml; have := h.s8; omega)
theorem POk.alk {p : Int × List (List Int)} (h : POk p) : Alk 9 (pD p) := alk_p (by have := h.t5; omega) (fun x hx => by
  have := (lot_len (List.all_eq_true.mp h.l x hx) (of_decide_eq_true (Bool.and_eq_true_iff.mp h.m).2)).2
  omega)
theorem BOk.alk {p : Int × List (List Int)} {b : List (List Int)} (hp : POk p) (h : BOk p b) : Alk 9 (tD b) := alk_tups b 6 (by have := h.len hp; omega) (fun x hx => by
  obtain ⟨i, hi, rfl⟩ := List.mem_iff_getElem.mp hx
  have := (h.row hp hi).2
  rw [getD_of (List.getElem?_eq_getElem hi)] at this
  omega)
/-! the law's lines -/
theorem dig_ascii {n : Int} (h : inR 0 9 n = true) : asciiT (numT n) = true := by
  obtain ⟨h1, h2⟩ := Bool.and_eq_true_iff.mp h
  have h1 := of_decide_eq_true h1
  have e : n = ((n.toNat : Nat) : Int) := by omega
  rw [e]
  exact numT_ascii n.toNat
theorem wordsT_ascii {ns : List Int} (h9 : ns.all (inR 0 9) = true) : asciiT (wordsT ns) = true := by
  unfold asciiT wordsT
  rw [tl_glue]
  refine List.all_eq_true.mpr fun z hz => ?_
  obtain ⟨p, hp, hz⟩ := List.mem_flatten.mp hz
  obtain ⟨x, hx, rfl⟩ := List.mem_map.mp hp
  obtain ⟨n, hn, rfl⟩ := List.mem_map.mp hx
  exact List.all_eq_true.mp (ascii_app (show asciiT spc = true by decide +kernel) (dig_ascii (List.all_eq_true.mp h9 n hn))) z hz
theorem fixa : asciiT ("state " : Str) = true ∧ asciiT (" answer " : Str) = true ∧ asciiT (" to" : Str) = true ∧ asciiT ("letter " : Str) = true ∧ asciiT ("messengers " : Str) = true ∧ asciiT ("messenger " : Str) = true ∧ asciiT (" brings" : Str) = true := by decide +kernel
theorem qLines_ok {q : Q2} (h : QOk q) : LB (qLines q) 8 90 := ⟨by simp [qLines]; exact h.s8, fun s hs => by
  obtain ⟨i, hi, rfl⟩ := List.mem_map.mp hs
  have hi := List.mem_range.mp hi
  obtain ⟨a1, a2, a3, a4, a5, a6, a7⟩ := fixa
  exact ⟨qLine_len h hi, ascii_app (ascii_app (ascii_app (ascii_app (ascii_app a1 (numT_ascii i)) a2) (dig_ascii (h.mark hi))) a3) (wordsT_ascii (h.row hi).1)⟩⟩
theorem pLines_ok {p : Int × List (List Int)} (h : POk p) : LB (pLines p) 8 90 := ⟨by have := h.t5; simp [pLines]; omega, fun s hs => by
  obtain ⟨a1, a2, a3, a4, a5, a6, a7⟩ := fixa
  rcases List.mem_cons.mp hs with rfl | hs
  · exact ⟨pHead_len h, ascii_app a5 (dig_ascii (pHead_dig h))⟩
  · obtain ⟨i, hi, rfl⟩ := List.mem_map.mp hs
    have hi := List.mem_range.mp hi
    exact ⟨pLine_len h hi, ascii_app (ascii_app (ascii_app a4 (numT_ascii i)) a3) (wordsT_ascii (h.lot hi).1)⟩⟩
theorem bLines_ok {p : Int × List (List Int)} {b : List (List Int)} (hp : POk p) (h : BOk p b) : LB (bLines b) 8 100 := ⟨by have := h.len hp; simp [bLines]; omega, fun s hs => by
  obtain ⟨a1, a2, a3, a4, a5, a6, a7⟩ := fixa
  obtain ⟨i, hi, rfl⟩ := List.mem_map.mp hs
  have hi := List.mem_range.mp hi
  exact ⟨bLine_len hp h hi, ascii_app (ascii_app (ascii_app a6 (numT_ascii i)) a7) (wordsT_ascii (h.row hp hi).1)⟩⟩
theorem text_tOk {ls : List Str} (h : LB ls 9 113) : tOk (.str (textOf ls)) := .inr (.inr ⟨_, rfl, Nat.le_trans (textOf_len (k := 113) fun l hl => (h.2 l hl).1) (by have := h.1; omega), textOf_ascii h⟩)
end LP

/-! LpLaw4 -/
set_option maxHeartbeats 600000
/-! The law. -/
namespace LP
open PySem PySem.Spec PyProof.Rows L2 RZ
open LamX (lamCx lamEnv Tabs TabS CodeO)
section
variable {K : Fg} {l a p : Addr} {H H1 B B' : Hp} {σ : L2.St} {te ta tb' : TE} {v : V} {d : PyData} {ls : List Str}
theorem Lst.weak (s : Lst K l a B' H) (g : Gx K B B') : Lst K l a B H := ⟨g.trans s.g, s.rw, s.tbs⟩
theorem offT_P : offT K l H (ltb K) = none := del_same
theorem offT_l : offT K l H l = none := by
  by_cases e : l = ltb K
  · rw [e]
    exact del_same
  · rw [off_ne e, del_same]
theorem Lst.grow (s : Lst K l a B H) (n : B (ltb K) = none) (tn : ∀ x ∈ gtNames, tb K x ≠ ltb K) : Gx K B (offT K l H) := gx_offT s.g n tn
theorem Lst.fact (s : Lst K l a B H) (h : Dv (del H l) v d) : Dv (offT K l H) v d := by
  obtain ⟨ps, e⟩ := tabs_tbl s.tbs
  exact h.off e
theorem gt_off (t : GT K (del H l)) (tn : ∀ x ∈ gtNames, tb K x ≠ ltb K) : GT K (offT K l H) := fun x hx => by
  obtain ⟨ps, h1, h2⟩ := t x hx
  exact ⟨ps, by rw [off_ne (tn x hx)]; exact h1, h2⟩
theorem scr_off {ps : Array Value} (h : Scr K a (del H l)) (m : (del H l) (ltb K) = some (.tbl ps)) : Scr K a (offT K l H) := by
  obtain ⟨ns, h, c⟩ := h
  refine ⟨ns, ?_, c⟩
  rcases h with (h | ⟨o, h⟩) | h
  · exact .inl (.inl (by rw [off_ne (ne_of h m (by intro z; cases z))]; exact h))
  · exact .inl (.inr ⟨o, by rw [off_ne (ne_of h m (by intro z; cases z))]; exact h⟩)
  · exact .inr h
/-- a list just made, not the row -/
theorem Lst.list {xs : List V} {ds : List PyData} (s : Lst K l a B H) (hp : p ≠ l) (e : H p = some (.lst xs)) (t : TvAll H xs ds) : Dv (del H l) (.ref p) (.list ds) := by
  obtain ⟨ys, m⟩ := s.rw.lst
  exact .ofL (by rw [del_ne hp]; exact e) (t.kt (kt_del m))
theorem ev_text {i j : Nat} (hi : σ[i]? = some (some v)) (x : Dv B v (strsD ls)) (hb : LB ls 24 113) (hw : ∀ x, wipe ((wipe σ [j]).set j (some x)) [j] = wipe σ [j]) (hj : ∀ x : V, ((wipe σ [j]).set j (some x))[j]? = some (some x)) :
    Ev K (tM1 (fun x xs H Q => ∃ a p, ∃ ys : List Str, x = .str a ∧ xs = [.ref p] ∧ (SqL K H p (ys.map V.str) ∨ SqT K H p (ys.map V.str)) ∧ (ys.map (·.length)).sum + ys.length * a.length ≤ 16777216 ∧ Q (.str (Txt.join a ys)) H) (tC (.str ""))
      (tLc (iList K (tVar i)) (gName j) tYes (tOp (fun x y H Q => ∃ i j, x = .str i ∧ y = .str j ∧ i.length + j.length ≤ sizeLine ∧ Q (.str (i ++ j)) H) (tVar j) (tC (.str "\n"))) [j])) σ B (.str (textOf ls)) := by
  have b1 := hb.1
  have esum : ((ls.map fun s => s ++ nl).map (·.length)).sum ≤ ls.length * 114 := by
    rw [List.map_map]
    refine sum_le fun s hs => ?_
    have := (hb.2 s hs).1
    show (s ++ nl).length ≤ 114
    rw [str_len]
    have : nl.length = 1 := by decide +kernel
    omega
  refine ev_join (ws := ls.map fun s => s ++ nl) ev_str (ev_is (En.ev (en_lc (keep := fun _ => true) (val := fun i => (ls[i]?.map fun s => PyData.str (s ++ nl)).getD .none) (src_list (ds := ls.map PyData.str) (ev_var hi x)) (turn_name hw (fun _ _ _ _ _ _ => et_yes) fun i z H' hi g it _ => ?_) (fun i hi _ => ?_) (by rw [List.length_map]; omega))) ?_) (by
    rw [List.length_map, show ("" : Str).length = 0 from rfl]
    omega)
  · obtain ⟨d, hd, hz⟩ := it
    obtain ⟨u, hu, rfl⟩ := map_get hd
    have := (hb.2 u (List.mem_of_getElem? hu)).1
    refine ev_is (ev_addS (ev_var (hj z) hz) ev_str (by
      have : ("\n" : Str).length = 1 := by decide +kernel
      omega)) ?_
    rw [hu]
    rfl
  · cases ls[i]? with
    | none => rfl
    | some u => rfl
  · rw [List.length_map, selD_map (f := fun s => PyData.str (s ++ nl)) fun i x hx => by rw [hx]; rfl, List.map_map]
    rfl
theorem em_catV {xs ys : List Str} (ha : EvM K l a ta σ B (· = strsD xs)) (hb : EvM K l a tb' σ B (· = strsD ys)) (hz : xs.length + ys.length ≤ 1000) : EvM K l a (tOp rCat ta tb') σ B (· = strsD (xs ++ ys)) :=
  (em_cat (L1 := fun ds => ds = xs.map .str) (L2 := fun ds => ds = ys.map .str) (ha.imp fun d e => ⟨_, e, rfl⟩) (hb.imp fun d e => ⟨_, e, rfl⟩) fun x y e e2 => by
    rw [e, e2, List.length_map, List.length_map]
    exact hz).imp fun d ⟨ds, e, x, y, ex, ey, exy⟩ => by
    rw [e, exy, ex, ey, ← List.map_append]
    rfl
theorem mq_parN2 {i j : Nat} {G : PyData → Prop} {D : Ends} {tz : TS} (rw : Rw l a H) (h : EvM K l a ta σ (del H l) G) (k : ∀ d v p H1, G d → Gx K (del H l) (del H1 l) → Rw l a H1 → Dv (del H1 l) v d → p ≠ l → H1 p = none → tz D ((σ.set i (some v)).set j (some (.ref p))) (upd H1 p (.lst []))) : tSeq (tPar i j (tCons ta (tCons (tLst tNil) tNil))) tz D σ H :=
  h H .refl rw _ fun d v H1 hd g rw1 hv => ⟨Nat.zero_le _, fun p np => by
    obtain ⟨zs, m⟩ := rw1.lst
    have hne : p ≠ l := fun z => by
      rw [z, m] at np
      cases np
    exact ⟨v, .ref p, rfl, k d v p H1 hd g rw1 hv hne np⟩⟩
theorem ev_rep5 (ha : Ev K ta σ B (.tuple [.int 0])) : Ev K (tOp (rRepT K) ta (tC (.int 5))) σ B (iD [0, 0, 0, 0, 0]) :=
  ev_op ha ev_int fun H1 x y _ hx hy Q q => by
    obtain ⟨b, xs, rfl, e1, e2⟩ := hx.tup
    cases e2 with
    | cons h t =>
      cases h
      cases t
      exact ⟨b, 5, [.int 0], rfl, hy.intE, SqT.of e1, by simp, by decide, by decide, by decide, fun p np => q _ _ (.new np) (.ofT upd_same (.cons (.int _) (.cons (.int _) (.cons (.int _) (.cons (.int _) (.cons (.int _) .nil))))))⟩
theorem shaped_line (n : Int) : SeqAt.shaped (lineD n) = true := by
  have : PyData.strOk ("line" : Str) = true := by decide +kernel
  unfold lineD SeqAt.shaped
  simp [PyData.canLay0, PyData.canLayAll0, PyData.depth, PyData.depthAll, this]
theorem shaped_two : SeqAt.shaped (.list [qD q5, lineD 0]) = true := by decide +kernel
theorem eqv_self {d : PyData} (h : SeqAt.shaped d = true) : PyData.eqv d d = true := SeqAt.eqv_refl d (SeqAt.canLay_of_shaped h)
theorem ev_mulS {z : Str} {n : Int} (ha : Ev K ta σ H (.str z)) (hb : Ev K tb' σ H (.int n)) (hn : MulOk z n) : Ev K (tOp (fun x y H Q => ∃ z n, x = .str z ∧ y = .int n ∧ MulOk z n ∧ Q (.str (Txt.mul z n)) H) ta tb') σ H (.str (Txt.mul z n)) :=
  ev_op ha hb fun H1 x y _ hx hy Q q => ⟨z, n, hx.strE, hy.intE, hn, q _ H1 .refl (.str _)⟩
end
section
variable {P : Program} {w : World} {K : Fg} {mg : Str → Option Value} {base : Heap} {C : Addr}
def spLaw (K : Fg) : Sp := fun vs H Q _ => ∃ (a : Addr) (ns : List Int), vs = [.ref a] ∧ ns.length ≤ 63 ∧ SqL K H a (ns.map V.int) ∧ GT K H ∧ Tabs (lamT K) H ∧ ∀ H', Q (.bl true) H'
def moreQ : List Str := ["state 0 answer 0 to 0", "state 1 answer 3 to 0 0", "state 0 answer 4 to 0", "state 1 answer 0 to", "", "state 0 to 0"]
def moreP : List Str := ["letter 0 to", "letter 1 to 0", "letter 2 to 1 0", "letter 0 to 0 0", "messengers 0", "messengers 8", "messengers 3", ""]
def moreB : List Str := ["messenger 0 brings", "messenger 1 brings 0", "messenger 0 brings 4", ("messenger 0 brings" : Str) ++ Txt.mul " 0" 41, "", "messenger 9 brings"]
theorem mul_ok : MulOk " 0" 41 := ⟨by decide, fun _ _ => by decide +kernel, fun _ _ => by decide +kernel⟩
abbrev slaw : Stmt := topS 49
theorem sclaw : FnScope ["_law_script", "_law_row", "_law_question_here", "_law_lines_here", "_law_state", "_law_text", "_law_more", "_law_turn", "_law_letter", "_law_post", "_law_one", "_law_plan_here", "_law_value", "_law_line"] ["_law_script"] (defScope slaw) := ⟨rfl, rfl, rfl, by decide +kernel, rfl, by decide +kernel, by decide +kernel⟩
theorem okF {CX : CXT} {k : Nat} {x : Str} {st : Stmt} {ps N : List Str} {sp : Sp} {fd : FuncData} (F : FunD K x x (defArgs st) (defBody st) (defScope st) [] [] (He.ga K x) fd) (S : FnScope N ps (defScope st)) (len : ∀ vs H Q E, sp vs H Q E → vs.length = ps.length)
    (hbody : ∀ (A : Around) (outer : List Env) (s : Shared) (H : Hp) (vs : List V) (Q : VK) (E : XK), Room k (A.deeper (envOfC x (defScope st) s.heap.objs.size (He.ga K x) (.ref (He.cT K (x, none)).1))) → sp vs H Q E →
      ∃ t, PSs (bodyCx CX P w K mg base N x st A outer s H E) (defBody st) t ∧ t { nx := fun _ H' => Q .non H', rt := Q } (start N vs) H) : FnOk P w K mg base CX (k + 1) (He.ga K x) fd ps sp := by
  obtain ⟨oc, od, dV, kV, doc, pm, an, cdv, ct, osl, rfl, lk, hcd, _, _⟩ := F.ex
  obtain ⟨c, rfl⟩ := He.codeIn_ref hcd
  have e : (He.cT K (x, none)).1 = c := He.codeOf_eq (p := (x, none)) lk rfl
  subst e
  exact fn_of lk hcd S len fun A outer s H vs Q E hr hsp => hbody A outer s H vs Q E hr hsp
theorem ok_law {fd : FuncData} (T : Tx K mg C) (Bt : Tbs K mg base) (F : FunD K "law" "law" (defArgs slaw) (defBody slaw) (defScope slaw) [] [] (He.ga K "law") fd) : FnOk P w K mg base CX0 10 (He.ga K "law") fd ["_law_script"] (spLaw K) := by
  have c_law_both := ok_law_both (P := P) (w := w) (base := base) T
  have c_law_words := ok_law_words (P := P) (w := w) (base := base) T
  have c_law_alike := ok_law_alike (P := P) (w := w) (base := base) T 9
  have cquestion_text := ok_question_text (P := P) (w := w) (base := base) T Bt
  have cread_question := ok_read_question (P := P) (w := w) (base := base) T
  have c_law_bent := ok_law_bent (P := P) (w := w) (base := base) T
  have c_law_read_question := ok_law_read_question (P := P) (w := w) (base := base) T
  have cplan_text := ok_plan_text (P := P) (w := w) (base := base) T Bt
  have cread_plan := ok_read_plan (P := P) (w := w) (base := base) T Bt
  have c_law_read_plan := ok_law_read_plan (P := P) (w := w) (base := base) T
  have c_law_brought := ok_law_brought (P := P) (w := w) (base := base) T
  have cbrought_text := ok_brought_text (P := P) (w := w) (base := base) T Bt
  have cread_brought := ok_read_brought (P := P) (w := w) (base := base) T Bt
  have c_law_read_brought := ok_law_read_brought (P := P) (w := w) (base := base) T
  have TBL := Bt "law" (by decide)
  have tn := T.tne
  refine okF (k := 9) (N := ["_law_script", "_law_row", "_law_question_here", "_law_lines_here", "_law_state", "_law_text", "_law_more", "_law_turn", "_law_letter", "_law_post", "_law_one", "_law_plan_here", "_law_value", "_law_line"]) F sclaw (fun vs H Q E h => ?_) fun A outer s H0 vs0 Q E hr hsp => ⟨_, ((pss_cons (ps_set (i := 1) sclaw.nd rfl (.inl rfl) (pe_lst (pa_cons (pv 0) (pa_cons pe_int (pa_cons pe_int (pa_cons pe_int pa_nil))))))
  (pss_cons (ps_asg (pe_c c_law_both (hr.mono (by decide)) pass0 (pa_cons (pv 1) (pa_cons pe_int pa_nil))) (pg_tup rfl (pgs_cons (pg_name (i := 2) sclaw.nd rfl (.inl rfl)) (pgs_cons (pg_name (i := 11) sclaw.nd rfl (.inr rfl)) pgs_nil))))
  (pss_cons (ps_set (i := 3) sclaw.nd rfl (.inl rfl) (pe_lst pa_nil))
  (pss_cons (ps_for PassesOwn.never rfl (pi_range1 (by rfl) T.range (pa_cons (pe_callB (r := rLenSq K) call_len_seq (by rfl) T.len boot_len (pa_cons (pe_ix (r := rIxT K) ix_tup (pv 2) pe_int (fun _ _ => rfl)) pa_nil)) pa_nil)) (pg_name (i := 4) sclaw.nd rfl (.inl rfl)) (pss_one (ps_expr (pe_bm PySem.F.plainAttrs_list PySem.F.slot_list_append PySem.F.type_list_append mt_append (pv 3) (pa_cons (pe_op op_add_str (pe_op op_add_str (pe_op op_add_str (pe_op op_add_str (pe_op op_add_str pe_str (pe_callTy call_str_int (by rfl) T.str boot_str (pa_cons (pv 4) pa_nil))) pe_str) (pe_callTy call_str_int (by rfl) T.str boot_str (pa_cons (pe_ix (r := rIxT K) ix_tup (pe_ix (r := rIxT K) ix_tup (pv 2) pe_int (fun _ _ => rfl)) (pv 4) (fun _ _ => rfl)) pa_nil))) pe_str) (pe_c c_law_words (hr.mono (by decide)) pass0 (pa_cons (pe_ix (r := rIxT K) ix_tup (pe_ix (r := rIxT K) ix_tup (pv 2) pe_int (fun _ _ => rfl)) (pv 4) (fun _ _ => rfl)) pa_nil))) pa_nil)))))
  (pss_cons (ps_set (i := 5) sclaw.nd rfl (.inl rfl) (pe_join pe_str (pe_lc (own := [("_law_line", 13)]) rfl sclaw.nd (pi_list (pv 3)) (blkOk_by (N := ["_law_script", "_law_row", "_law_question_here", "_law_lines_here", "_law_state", "_law_text", "_law_more", "_law_turn", "_law_letter", "_law_post", "_law_one", "_law_plan_here", "_law_value", "_law_line"]) (sc := defScope slaw) (by decide +kernel)) (fun _ _ _ _ _ => (pg_name (i := 13) sclaw.nd rfl (.inl rfl))) (fun _ _ _ _ _ => pts_nil) (fun _ _ _ _ _ => (pe_op op_add_str (pv 13) pe_str)))))
  (pss_cons (ps_if (L2.PW.pt (pw_or (pt_not (pt_val (pe_c c_law_alike (hr.mono (by decide)) pass0 (pa_cons (pe_c cquestion_text (hr.mono (by decide)) pass0 (pa_cons (pv 2) pa_nil)) (pa_cons (pv 5) pa_nil))))) (pw_or1 (pt_not (pt_val (pe_c c_law_alike (hr.mono (by decide)) pass0 (pa_cons (pe_c cread_question (hr.mono (by decide)) passL (pa_cons (pv 5) pa_nil)) (pa_cons (pv 2) pa_nil)))))))) (pss_one (ps_ret pe_bl)) pss_nil)
  (pss_cons (ps_set (i := 6) sclaw.nd rfl (.inl rfl) (pe_lst (pa_cons pe_str (pa_cons pe_str (pa_cons pe_str (pa_cons pe_str (pa_cons pe_str (pa_cons pe_str pa_nil))))))))
  (pss_cons (ps_for PassesOwn.never rfl (pi_range1 (by rfl) T.range (pa_cons pe_int pa_nil)) (pg_name (i := 7) sclaw.nd rfl (.inl rfl)) (pss_cons (ps_set (i := 12) sclaw.nd rfl (.inr rfl) (pe_c c_law_bent (hr.mono (by decide)) pass0 (pa_cons (pv 1) (pa_cons (pv 3) (pa_cons (pe_op op_cat (pv 6) (pe_lst (pa_cons pe_str (pa_cons pe_str pa_nil)))) pa_nil)))))
  (pss_one (ps_if (pt_not (pt_val (pe_c c_law_alike (hr.mono (by decide)) pass0 (pa_cons (pe_toldT (k := 6) T TBL rfl (by rfl) (hr.mono (by decide)) (lamD_by (N := ["_law_script", "_law_row", "_law_question_here", "_law_lines_here", "_law_state", "_law_text", "_law_more", "_law_turn", "_law_letter", "_law_post", "_law_one", "_law_plan_here", "_law_value", "_law_line"]) (sc := defScope slaw) (by decide +kernel)) rfl (fun _ _ _ _ _ _ => rfl) (fun _ _ _ _ _ _ _ hr3 => (pe_c cread_question (hr3.mono (by decide)) (passes_call (takes_of rfl rfl rfl rfl) fun _ _ _ _ h => h) (pa_cons (pv 12) pa_nil)))) (pa_cons (pe_c c_law_read_question (hr.mono (by decide)) pass0 (pa_cons (pv 12) pa_nil)) pa_nil))))) (pss_one (ps_ret pe_bl)) pss_nil))))
  (pss_cons (ps_set (i := 3) sclaw.nd rfl (.inl rfl) (pe_lst (pa_cons (pe_op op_add_str pe_str (pe_callTy call_str_int (by rfl) T.str boot_str (pa_cons (pe_ix (r := rIxT K) ix_tup (pv 11) pe_int (fun _ _ => rfl)) pa_nil))) pa_nil)))
  (pss_cons (ps_for PassesOwn.never rfl (pi_range1 (by rfl) T.range (pa_cons (pe_callB (r := rLenSq K) call_len_seq (by rfl) T.len boot_len (pa_cons (pe_ix (r := rIxT K) ix_tup (pv 11) pe_int (fun _ _ => rfl)) pa_nil)) pa_nil)) (pg_name (i := 8) sclaw.nd rfl (.inl rfl)) (pss_one (ps_expr (pe_bm PySem.F.plainAttrs_list PySem.F.slot_list_append PySem.F.type_list_append mt_append (pv 3) (pa_cons (pe_op op_add_str (pe_op op_add_str (pe_op op_add_str pe_str (pe_callTy call_str_int (by rfl) T.str boot_str (pa_cons (pv 8) pa_nil))) pe_str) (pe_c c_law_words (hr.mono (by decide)) pass0 (pa_cons (pe_ix (r := rIxT K) ix_tup (pe_ix (r := rIxT K) ix_tup (pv 11) pe_int (fun _ _ => rfl)) (pv 8) (fun _ _ => rfl)) pa_nil))) pa_nil)))))
  (pss_cons (ps_set (i := 5) sclaw.nd rfl (.inl rfl) (pe_join pe_str (pe_lc (own := [("_law_line", 13)]) rfl sclaw.nd (pi_list (pv 3)) (blkOk_by (N := ["_law_script", "_law_row", "_law_question_here", "_law_lines_here", "_law_state", "_law_text", "_law_more", "_law_turn", "_law_letter", "_law_post", "_law_one", "_law_plan_here", "_law_value", "_law_line"]) (sc := defScope slaw) (by decide +kernel)) (fun _ _ _ _ _ => (pg_name (i := 13) sclaw.nd rfl (.inl rfl))) (fun _ _ _ _ _ => pts_nil) (fun _ _ _ _ _ => (pe_op op_add_str (pv 13) pe_str)))))
  (pss_cons (ps_if (L2.PW.pt (pw_or (pt_not (pt_val (pe_c c_law_alike (hr.mono (by decide)) pass0 (pa_cons (pe_c cplan_text (hr.mono (by decide)) pass0 (pa_cons (pv 11) pa_nil)) (pa_cons (pv 5) pa_nil))))) (pw_or1 (pt_not (pt_val (pe_c c_law_alike (hr.mono (by decide)) pass0 (pa_cons (pe_c cread_plan (hr.mono (by decide)) passL (pa_cons (pv 5) pa_nil)) (pa_cons (pv 11) pa_nil)))))))) (pss_one (ps_ret pe_bl)) pss_nil)
  (pss_cons (ps_set (i := 6) sclaw.nd rfl (.inl rfl) (pe_lst (pa_cons pe_str (pa_cons pe_str (pa_cons pe_str (pa_cons pe_str (pa_cons pe_str (pa_cons pe_str (pa_cons pe_str (pa_cons pe_str pa_nil))))))))))
  (pss_cons (ps_for PassesOwn.never rfl (pi_range1 (by rfl) T.range (pa_cons pe_int pa_nil)) (pg_name (i := 7) sclaw.nd rfl (.inl rfl)) (pss_cons (ps_set (i := 12) sclaw.nd rfl (.inr rfl) (pe_c c_law_bent (hr.mono (by decide)) pass0 (pa_cons (pv 1) (pa_cons (pv 3) (pa_cons (pe_op op_cat (pv 6) (pe_lst (pa_cons pe_str (pa_cons pe_str pa_nil)))) pa_nil)))))
  (pss_one (ps_if (pt_not (pt_val (pe_c c_law_alike (hr.mono (by decide)) pass0 (pa_cons (pe_toldT (k := 6) T TBL rfl (by rfl) (hr.mono (by decide)) (lamD_by (N := ["_law_script", "_law_row", "_law_question_here", "_law_lines_here", "_law_state", "_law_text", "_law_more", "_law_turn", "_law_letter", "_law_post", "_law_one", "_law_plan_here", "_law_value", "_law_line"]) (sc := defScope slaw) (by decide +kernel)) rfl (fun _ _ _ _ _ _ => rfl) (fun _ _ _ _ _ _ _ hr3 => (pe_c cread_plan (hr3.mono (by decide)) (passes_call (takes_of rfl rfl rfl rfl) fun _ _ _ _ h => h) (pa_cons (pv 12) pa_nil)))) (pa_cons (pe_c c_law_read_plan (hr.mono (by decide)) pass0 (pa_cons (pv 12) pa_nil)) pa_nil))))) (pss_one (ps_ret pe_bl)) pss_nil))))
  (pss_cons (ps_par (i := 9) (j := 3) rfl sclaw.nd rfl rfl (by decide) rfl rfl (pa_cons (pe_c c_law_brought (hr.mono (by decide)) pass0 (pa_cons (pv 1) (pa_cons (pv 11) pa_nil))) (pa_cons (pe_lst pa_nil) pa_nil)) rfl)
  (pss_cons (ps_for PassesOwn.never rfl (pi_range1 (by rfl) T.range (pa_cons (pe_ix (r := rIxT K) ix_tup (pv 11) pe_int (fun _ _ => rfl)) pa_nil)) (pg_name (i := 10) sclaw.nd rfl (.inl rfl)) (pss_one (ps_expr (pe_bm PySem.F.plainAttrs_list PySem.F.slot_list_append PySem.F.type_list_append mt_append (pv 3) (pa_cons (pe_op op_add_str (pe_op op_add_str (pe_op op_add_str pe_str (pe_callTy call_str_int (by rfl) T.str boot_str (pa_cons (pv 10) pa_nil))) pe_str) (pe_c c_law_words (hr.mono (by decide)) pass0 (pa_cons (pe_ix (r := rIxT K) ix_tup (pv 9) (pv 10) (fun _ _ => rfl)) pa_nil))) pa_nil)))))
  (pss_cons (ps_set (i := 5) sclaw.nd rfl (.inl rfl) (pe_join pe_str (pe_lc (own := [("_law_line", 13)]) rfl sclaw.nd (pi_list (pv 3)) (blkOk_by (N := ["_law_script", "_law_row", "_law_question_here", "_law_lines_here", "_law_state", "_law_text", "_law_more", "_law_turn", "_law_letter", "_law_post", "_law_one", "_law_plan_here", "_law_value", "_law_line"]) (sc := defScope slaw) (by decide +kernel)) (fun _ _ _ _ _ => (pg_name (i := 13) sclaw.nd rfl (.inl rfl))) (fun _ _ _ _ _ => pts_nil) (fun _ _ _ _ _ => (pe_op op_add_str (pv 13) pe_str)))))
  (pss_cons (ps_if (L2.PW.pt (pw_or (pt_not (pt_val (pe_c c_law_alike (hr.mono (by decide)) pass0 (pa_cons (pe_c cbrought_text (hr.mono (by decide)) pass0 (pa_cons (pv 11) (pa_cons (pv 9) pa_nil))) (pa_cons (pv 5) pa_nil))))) (pw_or1 (pt_not (pt_val (pe_c c_law_alike (hr.mono (by decide)) pass0 (pa_cons (pe_c cread_brought (hr.mono (by decide)) passL (pa_cons (pv 11) (pa_cons (pv 5) pa_nil))) (pa_cons (pv 9) pa_nil)))))))) (pss_one (ps_ret pe_bl)) pss_nil)
  (pss_cons (ps_set (i := 12) sclaw.nd rfl (.inr rfl) (pe_op op_add_str (pe_op op_add_str (pe_op op_add_str (pv 5) pe_str) (pe_callTy call_str_int (by rfl) T.str boot_str (pa_cons (pe_ix (r := rIxT K) ix_tup (pv 11) pe_int (fun _ _ => rfl)) pa_nil))) pe_str))
  (pss_cons (ps_if (pt_cmpR (r := rNeD K) (op_neD hr.units) (pe_toldT (k := 6) T TBL rfl (by rfl) (hr.mono (by decide)) (lamD_by (N := ["_law_script", "_law_row", "_law_question_here", "_law_lines_here", "_law_state", "_law_text", "_law_more", "_law_turn", "_law_letter", "_law_post", "_law_one", "_law_plan_here", "_law_value", "_law_line"]) (sc := defScope slaw) (by decide +kernel)) rfl (fun _ _ _ _ _ _ => rfl) (fun _ _ _ _ _ _ _ hr3 => (pe_c cread_brought (hr3.mono (by decide)) (passes_call (takes_of rfl rfl rfl rfl) fun _ _ _ _ h => h) (pa_cons (pv 11) (pa_cons (pv 12) pa_nil))))) (pe_tup (pa_cons pe_str (pa_cons (pe_ix (r := rIxT K) ix_tup (pv 11) pe_int (fun _ _ => rfl)) pa_nil))) (nomark _)) (pss_one (ps_ret pe_bl)) pss_nil)
  (pss_cons (ps_set (i := 12) sclaw.nd rfl (.inr rfl) pe_str)
  (pss_cons (ps_if (pt_cmpR (r := rNeD K) (op_neD hr.units) (pe_lst (pa_cons (pe_toldT (k := 6) T TBL rfl (by rfl) (hr.mono (by decide)) (lamD_by (N := ["_law_script", "_law_row", "_law_question_here", "_law_lines_here", "_law_state", "_law_text", "_law_more", "_law_turn", "_law_letter", "_law_post", "_law_one", "_law_plan_here", "_law_value", "_law_line"]) (sc := defScope slaw) (by decide +kernel)) rfl (fun _ _ _ _ _ _ => rfl) (fun _ _ _ _ _ _ _ hr3 => (pe_c cread_question (hr3.mono (by decide)) (passes_call (takes_of rfl rfl rfl rfl) fun _ _ _ _ h => h) (pa_cons (pe_op op_add_str (pv 12) pe_str) pa_nil)))) (pa_cons (pe_toldT1 (y := "_law_a") (k := 6) T TBL rfl (by rfl) (hr.mono (by decide)) (lamD_by (N := ["_law_script", "_law_row", "_law_question_here", "_law_lines_here", "_law_state", "_law_text", "_law_more", "_law_turn", "_law_letter", "_law_post", "_law_one", "_law_plan_here", "_law_value", "_law_line"]) (sc := defScope slaw) (by decide +kernel)) rfl rfl rfl (fun s T0 v q cl doc pm cv ctv h => BindsTo.of_defaults rfl h rfl rfl rfl) (fun _ _ _ _ _ _ _ hr3 => (pe_c cread_question (hr3.mono (by decide)) (passes_call (takes_of rfl rfl rfl rfl) fun _ _ _ _ h => h) (pa_cons (pe_op op_add_str (pv 12) pe_str) pa_nil)))) pa_nil))) (pe_lst (pa_cons (pe_tup (pa_cons (pe_tup (pa_cons (pe_op op_repT (pe_tup (pa_cons pe_int pa_nil)) pe_int) pa_nil)) (pa_cons (pe_tup (pa_cons pe_int pa_nil)) pa_nil))) (pa_cons (pe_tup (pa_cons pe_str (pa_cons pe_int pa_nil))) pa_nil))) (nomark _)) (pss_one (ps_ret pe_bl)) pss_nil)
  (pss_cons (ps_set (i := 6) sclaw.nd rfl (.inl rfl) (pe_lst (pa_cons pe_str (pa_cons pe_str (pa_cons pe_str (pa_cons (pe_op op_add_str pe_str (pe_op op_mulS pe_str pe_int)) (pa_cons pe_str (pa_cons pe_str pa_nil))))))))
  (pss_cons (ps_for PassesOwn.never rfl (pi_range1 (by rfl) T.range (pa_cons pe_int pa_nil)) (pg_name (i := 7) sclaw.nd rfl (.inl rfl)) (pss_cons (ps_set (i := 12) sclaw.nd rfl (.inr rfl) (pe_c c_law_bent (hr.mono (by decide)) pass0 (pa_cons (pv 1) (pa_cons (pv 3) (pa_cons (pv 6) pa_nil)))))
  (pss_one (ps_if (pt_not (pt_val (pe_c c_law_alike (hr.mono (by decide)) pass0 (pa_cons (pe_toldT (k := 6) T TBL rfl (by rfl) (hr.mono (by decide)) (lamD_by (N := ["_law_script", "_law_row", "_law_question_here", "_law_lines_here", "_law_state", "_law_text", "_law_more", "_law_turn", "_law_letter", "_law_post", "_law_one", "_law_plan_here", "_law_value", "_law_line"]) (sc := defScope slaw) (by decide +kernel)) rfl (fun _ _ _ _ _ _ => rfl) (fun _ _ _ _ _ _ _ hr3 => (pe_c cread_brought (hr3.mono (by decide)) (passes_call (takes_of rfl rfl rfl rfl) fun _ _ _ _ h => h) (pa_cons (pv 11) (pa_cons (pv 12) pa_nil))))) (pa_cons (pe_c c_law_read_brought (hr.mono (by decide)) pass0 (pa_cons (pv 11) (pa_cons (pv 12) pa_nil))) pa_nil))))) (pss_one (ps_ret pe_bl)) pss_nil))))
  (pss_one (ps_ret pe_bl)))))))))))))))))))))))))) : PSs (bodyCx CX0 P w K mg base _ "law" slaw A outer s H0 E).nox _ _).nox, ?_⟩
  · obtain ⟨a, ns, rfl, _⟩ := h
    rfl
  · obtain ⟨sa, ns, rfl, hns, hs, t0, tb0, fin⟩ := hsp
    have kr : ∀ H', (({ nx := fun _ H' => Q .non H', rt := Q } : Ends)).rt (.bl true) H' := fin
    generalize ({ nx := fun _ H' => Q .non H', rt := Q } : Ends) = D at kr ⊢
    -- the row
    refine ⟨.ref sa, rfl, by show 4 ≤ sizeLine; decide, fun l nl0 => ?_⟩
    have ed : del (upd H0 l (.lst [.ref sa, .int 0, .int 25490, .int 0])) l = H0 := by
      rw [del_upd_same]
      funext b
      by_cases e : b = l
      · rw [e, del_same, nl0]
      · rw [del_ne e]
    have rw0 : Rw l sa (upd H0 l (.lst [.ref sa, .int 0, .int 25490, .int 0])) := ⟨0, 25490, 0, upd_same, by decide, by decide, by decide⟩
    generalize upd H0 l (.lst [.ref sa, .int 0, .int 25490, .int 0]) = H1 at ed rw0
    have s0 : Lst K l sa (del H1 l) H1 := ⟨.refl, rw0, by rw [ed]; exact tb0⟩
    have t1 : GT K (del H1 l) := by rw [ed]; exact t0
    have sc1 : Scr K sa (del H1 l) := ⟨ns, by rw [ed]; exact hs, by omega⟩
    -- a question, a plan
    refine em_call (K := K) (a := sa) (B := del H1 l) (j := 1) rfl sc1 t1 (eam1 em_int) (fun ds ⟨d, e, i, ei, ed⟩ => by rw [e, ed, ei]; rfl) H1 .refl rw0 _ fun d v H2 hd g2 rw2 hv => ?_
    obtain ⟨ds, _, q, p, hq, hp, rfl⟩ := hd
    have s2 : Lst K l sa (del H1 l) H2 := s0.to g2 rw2
    obtain ⟨ax, xs, rfl, ex, tx⟩ := hv.ud.tup
    cases tx with
    | cons hvq tx =>
    cases tx with
    | cons hvp tx =>
    cases tx
    rename_i vq vp
    refine ⟨ax, [vq, vp], rfl, SqT.of ex, rfl, vq, [vp], rfl, vp, [], rfl, rfl, ?_⟩
    have sB := s2.off
    have t2 : GT K (offT K l H2) := gt_off (s2.g.gt t1) tn
    have sc2 : Scr K sa (offT K l H2) := by
      obtain ⟨ps, e⟩ := tabs_tbl s2.tbs
      exact scr_off (sc1.gx s2.g) e
    obtain ⟨zs2, m2⟩ := rw2.lst
    have dq : Dv (offT K l H2) vq (qD q) := s2.fact (.inl (hvq.kt (kt_del m2)))
    have dp : Dv (offT K l H2) vp (pD p) := s2.fact (.inl (hvp.kt (kt_del m2)))
    have nP : offT K l H2 (ltb K) = none := offT_P
    have nL : offT K l H2 l = none := offT_l
    generalize offT K l H2 = B at sB t2 sc2 dq dp nP nL
    have h8 := hq.s8
    -- the question's lines
    refine mq_asgN (K := K) (ds := []) sB.rw (en_lst ea_nil rfl (by decide)) fun lp xs3 H3 g3 rw3 hpl nlp e3 tp3 => ?_
    cases tp3
    have s3 := sB.to g3 rw3
    have nlpB : B lp = none := sB.g.free nlp
    have dq3 : Dv H3 vq (qD q) := dq.gx s3.gB
    refine s_for (K := K) (D := { D with nx := _ }) (srk_range1 (j := q.1.length) (ev_is (ev_lenL (ds := q.1.map iD) (ev_ixT (i := 0) (d := tD q.1) (ev_var rfl dq3) ev_int rfl) (.inr rfl)) (by rw [List.length_map])) (by omega)) fun Hs gs => ⟨fun i σ' H' => ∃ vs o4, σ' = [some (.ref sa), some (.ref l), some vq, some (.ref lp), o4, none, none, none, none, none, none, some vp, none, none] ∧ Lst K l sa B H' ∧ Kt Hs H' ∧ H' lp = some (.lst vs) ∧ TvAll H' vs (((List.range i).map (qLine q)).map .str),
      ⟨[], none, rfl, s3.gx gs, .refl, gs.lst e3, .nil⟩, fun i σ' H' hi ⟨_, _, _, _, k, _⟩ => k, fun i u σ' H' H'' hi ⟨vs, o4, h2, sL, kk, h3, h4⟩ g7 hu => ?_, fun σ' H' ⟨vs, o4, h2, sL, kk, h3, h4⟩ => ?_⟩
    · subst h2 hu
      have sL2 := sL.gx g7
      obtain ⟨zs7, m7⟩ := sL2.rw.lst
      have hi' : i < q.1.length := hi
      obtain ⟨r1, r2⟩ := hq.row hi'
      have gB7 := sL2.g
      have em : (q.2.map PyData.int)[i]? = some (.int (q.2.getD i 0)) := by
        rw [List.getElem?_map, List.getD_eq_getElem?_getD, List.getElem?_eq_getElem (by rw [hq.ml]; exact hi')]
        rfl
      have er : (q.1.map iD)[i]? = some (iD (q.1.getD i [])) := by
        rw [List.getElem?_map, List.getD_eq_getElem?_getD, List.getElem?_eq_getElem hi']
        rfl
      have n1 : (Str.ofString (toString ((i : Nat) : Int))).length = 1 := num1 (show i < 10 by omega)
      have n2 := num_len (hq.mark hi')
      have n2' : (Str.ofString (toString (q.2.getD i 0))).length = 1 := n2.1
      have n1b : (numT ((i : Nat) : Int)).length = 1 := num1 (show i < 10 by omega)
      have n2b := n2.1
      have hwl := wordsT_len r1
      obtain ⟨a1, a2, a3, a4, a5, a6, a7, a8⟩ := tl_lens
      have dq7 := dq.gx gB7
      refine m_app (K := K) (G := (· = .str (qLine q i))) sL2.rw hpl (g7.lst h3) (h4.kt g7.kt) rfl (em_of (d := .str (qLine q i)) (ev_addS (ev_addS (ev_addS (ev_addS (ev_addS ev_str (ev_strI (ev_var (v := .int (i : Nat)) rfl (.int _)) (num_small (n := i) (by omega))) ?_) ev_str ?_) (ev_strI (ev_ixT (d := .int (q.2.getD i 0)) (ev_ixT (i := 1) (d := iD q.2) (ev_var rfl dq7) ev_int rfl) (ev_var (v := .int (i : Nat)) rfl (.int _)) (atI_nat em)) n2.2) ?_) ev_str ?_) (ev_call (R := rWords) (gB7.gt t2) (ea1 (ev_ixT (d := iD (q.1.getD i [])) (ev_ixT (i := 0) (d := tD q.1) (ev_var rfl dq7) ev_int rfl) (ev_var (v := .int (i : Nat)) rfl (.int _)) (atI_nat er))) ⟨_, r1, by omega, rfl, rfl⟩) ?_) rfl) (fun d e => by rw [e]; rfl) (by simp; omega) fun d v H8 hd g8 rw8 e8 t8 => ?_
      all_goals try first | omega | (simp only [str_len]; omega)
      subst hd
      refine ⟨vs ++ [v], some (.int (i : Nat)), rfl, ?_, kk.trans (g7.kt.trans ((kt_dd g8 m7).trans (.mut e8))), upd_same, ?_⟩
      · exact (sL2.to g8 (rw8.to (upd_ne (Ne.symm hpl)).symm)).mut nlpB hpl e8
      · rw [range_take, List.map_append]
        exact t8
    · subst h2
      dsimp only
      have nlL := sL.list hpl h3 h4
      have gB1 := sL.grow nP tn
      have dL : Dv (offT K l H') (.ref lp) (strsD (qLines q)) := sL.fact (by rw [show (List.map PyData.str (List.map (qLine q) (List.range q.1.length))) = (qLines q).map .str from rfl] at nlL; exact nlL)
      have sB1 := sL.off
      have t3 : GT K (offT K l H') := gt_off (sL.g.gt t2) tn
      have sc3 : Scr K sa (offT K l H') := sc2.gx gB1
      have dq := dq.gx gB1
      have dp := dp.gx gB1
      have nP1 : offT K l H' (ltb K) = none := offT_P
      have nL1 : offT K l H' l = none := offT_l
      generalize offT K l H' = B1 at sB1 t3 sc3 dq dp nP1 nL1 dL gB1
      have lbq := (qLines_ok hq)
      -- the text
      refine mq_asg (K := K) sB1.rw ((em_of (d := .str (textOf (qLines q))) (ev_text (i := 3) (j := 13) rfl dL (lbq.up (by decide) (by decide)) (fun _ => rfl) fun _ => rfl) rfl).gx sB1.g) fun d v H4 hd g4 rw4 hv => ?_
      subst hd
      cases hv.strE
      have s4 := sB1.to g4 rw4
      have dT : ∀ {B' : Hp}, Dv B' (.str (textOf (qLines q))) (.str (textOf (qLines q))) := .str _
      have asT : asciiT (textOf (qLines q)) = true := textOf_ascii lbq
      refine l_when (K := K) s4 (et_L (et_is (et_or (b := false) (et_not (et_B (ev_call (R := rAlk 9) (d := .bool true) t3 (ea2 (ev_call (R := rQText) (d := .str (textOf (qLines q))) t3 (ea1 (ev_var rfl dq)) ⟨q, hq, rfl, rfl⟩) (ev_var rfl dT)) ⟨_, alk_str asT, rfl, rfl⟩))) fun _ => et_not (et_B (ev_call (R := rAlk 9) (d := .bool true) t3 (ea2 (ev_callX (R := rRdQ) (d := qD q) t3 (ea1 (ev_var rfl dT)) ⟨_, text_tOk (lbq.up (by decide) (by decide)), rfl, by rw [read_q hq]; rfl⟩) (ev_var rfl dq)) ⟨_, hq.alk, rfl, rfl⟩))) rfl)) fun H5 k5 s5 => ?_
      -- bent questions
      refine mq_asgN (K := K) (ds := moreQ.map .str) s5.rw (en_lst (ea_cons ev_str (ea_cons ev_str (ea_cons ev_str (ea3 ev_str ev_str ev_str)))) rfl (by show 6 ≤ 200000; decide)) fun mp xs6 H6 g6 rw6 hml nmp e6 t6 => ?_
      have s6 := s5.to g6 rw6
      have gB2 := s6.grow nP1 tn
      have dM : Dv (offT K l H6) (.ref mp) (strsD moreQ) := s6.fact (s6.list hml e6 t6)
      have sB2 := s6.off
      have t4 : GT K (offT K l H6) := gB2.gt t3
      have sc4 : Scr K sa (offT K l H6) := sc3.gx gB2
      have dL := dL.gx gB2
      have dp := dp.gx gB2
      have nP2 : offT K l H6 (ltb K) = none := offT_P
      generalize offT K l H6 = B2 at sB2 t4 sc4 dp nP2 dL dM gB2
      refine s_for (K := K) (D := { D with nx := _ }) (srk_range1 (j := 4) ev_int (by decide)) fun Hs gs => ⟨fun i σ' H' => ∃ o7 o12, σ' = [some (.ref sa), some (.ref l), some vq, some (.ref lp), o4, some (.str (textOf (qLines q))), some (.ref mp), o7, none, none, none, some vp, o12, none] ∧ Lst K l sa B2 H' ∧ Kt Hs H',
        ⟨none, none, rfl, sB2.gx gs, .refl⟩, fun i σ' H' hi ⟨_, _, _, _, k⟩ => k, fun i u σ' H' H'' hi ⟨o7, o12, h2, sL, kk⟩ g7 hu => ?_, fun σ' H' ⟨o7, o12, h2, sL, kk⟩ => ?_⟩
      · subst h2 hu
        have sL2 := sL.gx g7
        obtain ⟨zs7, m7⟩ := sL2.rw.lst
        refine mq_asg (K := K) sL2.rw ((em_call (Pre := preBent) (R := rBent) (j := 1) rfl sc4 t4 (eam2 (em_var rfl dL) (em_catV (em_var rfl dM) (em_lst (en_lst (ds := [("state 2 answer 0 to 7 7 7" : Str), ("state 8 answer 0 to 0" : Str)].map .str) (ea2 ev_str ev_str) rfl (by show 2 ≤ 200000; decide))) (by decide))) fun ds ⟨d, e, ed, e1, e2⟩ => ⟨qLines q, moreQ ++ [("state 2 answer 0 to 7 7 7" : Str), ("state 8 answer 0 to 0" : Str)], by rw [ed, e1, e2], lbq.up (by decide) (by decide), by decide, ⟨by decide, by decide +kernel⟩⟩).gx sL2.g) fun d v H8 hd g8 rw8 hv => ?_
        · obtain ⟨ds, _, hd⟩ := hd
          have hd : tOk d := hd
          have s8 := sL2.to g8 rw8
          have gB3 := s8.grow nP2 tn
          have dV := s8.fact hv
          refine l_whenE (K := K) s8.off (et_alike (k := 9) (gB3.gt t4) (el_told (C := C) (R := rRdQ) offT_P tn (gB3.gt t4) (ea1 (ev_var rfl dV)) ⟨d, hd, rfl, rfl⟩) (ev_call (R := rLawQ) (gB3.gt t4) (ea1 (ev_var rfl dV)) ⟨d, hd, rfl, rfl⟩) (told_plain _ fun _ => rfl) (alk_rdQ d)) fun H9 k9 s9 => ?_
          exact ⟨some (.int (i : Nat)), some v, rfl, s9.weak gB3, kk.trans (g7.kt.trans ((kt_dd g8 m7).trans k9))⟩
      · subst h2
        dsimp only
        -- the plan's lines
        have hdg := num_len (pHead_dig hp)
        have hdg1 : (Str.ofString (toString p.1)).length = 1 := hdg.1
        obtain ⟨a1, a2, a3, a4, a5, a6, a7, a8⟩ := tl_lens
        have t5p := hp.t5
        refine mq_asgN (K := K) (ds := [.str (pHead p)]) sL.rw (en_lst (ea1 (ev_addS (a := ("messengers " : Str)) (b := numT p.1) ev_str (ev_strI (ev_ixT (i := 0) (d := .int p.1) (ev_var rfl (dp.gx sL.g)) ev_int rfl) hdg.2) (by have := hdg.1; omega))) rfl (by show 1 ≤ 200000; decide)) fun lp2 xs7 H10 g10 rw10 hpl2 nlp2 e10 t10 => ?_
        have s10 := sL.to g10 rw10
        have nlp2B : B2 lp2 = none := sL.g.free nlp2
        have dp10 : Dv H10 vp (pD p) := dp.gx s10.gB
        refine s_for (K := K) (D := { D with nx := _ }) (srk_range1 (j := p.2.length) (ev_is (ev_lenL (ds := p.2.map iD) (ev_ixT (i := 1) (d := tD p.2) (ev_var rfl dp10) ev_int rfl) (.inr rfl)) (by rw [List.length_map])) (by omega)) fun Hs gs => ⟨fun i σ' H' => ∃ vs o8, σ' = [some (.ref sa), some (.ref l), some vq, some (.ref lp2), o4, some (.str (textOf (qLines q))), some (.ref mp), o7, o8, none, none, some vp, o12, none] ∧ Lst K l sa B2 H' ∧ Kt Hs H' ∧ H' lp2 = some (.lst vs) ∧ TvAll H' vs ((pHead p :: (List.range i).map (pLine p)).map .str),
          ⟨xs7, none, rfl, s10.gx gs, .refl, gs.lst e10, t10.kt gs.kt⟩, fun i σ' H' hi ⟨_, _, _, _, k, _⟩ => k, fun i u σ' H' H'' hi ⟨vs, o8, h2, sM, kk, h3, h4⟩ g7 hu => ?_, fun σ' H' ⟨vs, o8, h2, sM, kk, h3, h4⟩ => ?_⟩
        · subst h2 hu
          have sM2 := sM.gx g7
          obtain ⟨zs7, m7⟩ := sM2.rw.lst
          have hi' : i < p.2.length := hi
          obtain ⟨r1, r2⟩ := hp.lot hi'
          have gB7 := sM2.g
          have er : (p.2.map iD)[i]? = some (iD (p.2.getD i [])) := by
            rw [List.getElem?_map, List.getD_eq_getElem?_getD, List.getElem?_eq_getElem hi']
            rfl
          have n1 : (Str.ofString (toString ((i : Nat) : Int))).length = 1 := num1 (show i < 10 by omega)
          have n1b : (numT ((i : Nat) : Int)).length = 1 := num1 (show i < 10 by omega)
          have hwl := wordsT_len r1
          have dp7 := dp.gx gB7
          refine m_app (K := K) (G := (· = .str (pLine p i))) sM2.rw hpl2 (g7.lst h3) (h4.kt g7.kt) rfl (em_of (d := .str (pLine p i)) (ev_addS (ev_addS (ev_addS ev_str (ev_strI (ev_var (v := .int (i : Nat)) rfl (.int _)) (num_small (n := i) (by omega))) ?_) ev_str ?_) (ev_call (R := rWords) (gB7.gt t4) (ea1 (ev_ixT (d := iD (p.2.getD i [])) (ev_ixT (i := 1) (d := tD p.2) (ev_var rfl dp7) ev_int rfl) (ev_var (v := .int (i : Nat)) rfl (.int _)) (atI_nat er))) ⟨_, r1, by omega, rfl, rfl⟩) ?_) rfl) (fun d e => by rw [e]; rfl) (by simp; omega) fun d v H8 hd g8 rw8 e8 t8 => ?_
          all_goals try first | omega | (simp only [str_len]; omega)
          subst hd
          refine ⟨vs ++ [v], some (.int (i : Nat)), rfl, ?_, kk.trans (g7.kt.trans ((kt_dd g8 m7).trans (.mut e8))), upd_same, ?_⟩
          · exact (sM2.to g8 (rw8.to (upd_ne (Ne.symm hpl2)).symm)).mut nlp2B hpl2 e8
          · rw [range_take, ← List.cons_append, List.map_append]
            exact t8
        · subst h2
          dsimp only
          have nlL := sM.list hpl2 h3 h4
          have gB1 := sM.grow nP2 tn
          have dL : Dv (offT K l H') (.ref lp2) (strsD (pLines p)) := sM.fact nlL
          have sB3 := sM.off
          have t5 : GT K (offT K l H') := gB1.gt t4
          have sc5 : Scr K sa (offT K l H') := sc4.gx gB1
          have dp := dp.gx gB1
          have nP3 : offT K l H' (ltb K) = none := offT_P
          generalize offT K l H' = B3 at sB3 t5 sc5 dp nP3 dL gB1
          have lbp := pLines_ok hp
          refine mq_asg (K := K) sB3.rw ((em_of (d := .str (textOf (pLines p))) (ev_text (i := 3) (j := 13) rfl dL (lbp.up (by decide) (by decide)) (fun _ => rfl) fun _ => rfl) rfl).gx sB3.g) fun d v H4 hd g4 rw4 hv => ?_
          subst hd
          cases hv.strE
          have s4 := sB3.to g4 rw4
          have dT : ∀ {B' : Hp}, Dv B' (.str (textOf (pLines p))) (.str (textOf (pLines p))) := .str _
          have asT : asciiT (textOf (pLines p)) = true := textOf_ascii lbp
          refine l_when (K := K) s4 (et_L (et_is (et_or (b := false) (et_not (et_B (ev_call (R := rAlk 9) (d := .bool true) t5 (ea2 (ev_call (R := rPText) (d := .str (textOf (pLines p))) t5 (ea1 (ev_var rfl dp)) ⟨p, hp, rfl, rfl⟩) (ev_var rfl dT)) ⟨_, alk_str asT, rfl, rfl⟩))) fun _ => et_not (et_B (ev_call (R := rAlk 9) (d := .bool true) t5 (ea2 (ev_callX (R := rRdP) (d := pD p) t5 (ea1 (ev_var rfl dT)) ⟨_, text_tOk (lbp.up (by decide) (by decide)), rfl, by rw [read_p hp]; rfl⟩) (ev_var rfl dp)) ⟨_, hp.alk, rfl, rfl⟩))) rfl)) fun H5 k5 s5 => ?_
          -- bent plans
          refine mq_asgN (K := K) (ds := moreP.map .str) s5.rw (en_lst (ea_cons ev_str (ea_cons ev_str (ea_cons ev_str (ea_cons ev_str (ea_cons ev_str (ea3 ev_str ev_str ev_str)))))) rfl (by show 8 ≤ 200000; decide)) fun mp2 xs6 H6 g6 rw6 hml nmp e6 t6 => ?_
          have s6 := s5.to g6 rw6
          have gB2 := s6.grow nP3 tn
          have dM : Dv (offT K l H6) (.ref mp2) (strsD moreP) := s6.fact (s6.list hml e6 t6)
          have sB4 := s6.off
          have t6 : GT K (offT K l H6) := gB2.gt t5
          have sc6 : Scr K sa (offT K l H6) := sc5.gx gB2
          have dL := dL.gx gB2
          have dp := dp.gx gB2
          have nP4 : offT K l H6 (ltb K) = none := offT_P
          generalize offT K l H6 = B4 at sB4 t6 sc6 dp nP4 dL dM gB2
          refine s_for (K := K) (D := { D with nx := _ }) (srk_range1 (j := 4) ev_int (by decide)) fun Hs gs => ⟨fun i σ' H' => ∃ o7 o12, σ' = [some (.ref sa), some (.ref l), some vq, some (.ref lp2), o4, some (.str (textOf (pLines p))), some (.ref mp2), o7, o8, none, none, some vp, o12, none] ∧ Lst K l sa B4 H' ∧ Kt Hs H',
            ⟨o7, o12, rfl, sB4.gx gs, .refl⟩, fun i σ' H' hi ⟨_, _, _, _, k⟩ => k, fun i u σ' H' H'' hi ⟨o7, o12, h2, sL, kk⟩ g7 hu => ?_, fun σ' H' ⟨o7, o12, h2, sL, kk⟩ => ?_⟩
          · subst h2 hu
            have sL2 := sL.gx g7
            obtain ⟨zs7, m7⟩ := sL2.rw.lst
            refine mq_asg (K := K) sL2.rw ((em_call (Pre := preBent) (R := rBent) (j := 1) rfl sc6 t6 (eam2 (em_var rfl dL) (em_catV (em_var rfl dM) (em_lst (en_lst (ds := [("letter 5 to 0" : Str), ("letter 1 to 7" : Str)].map .str) (ea2 ev_str ev_str) rfl (by show 2 ≤ 200000; decide))) (by decide))) fun ds ⟨d, e, ed, e1, e2⟩ => ⟨pLines p, moreP ++ [("letter 5 to 0" : Str), ("letter 1 to 7" : Str)], by rw [ed, e1, e2], lbp.up (by decide) (by decide), by decide, ⟨by decide, by decide +kernel⟩⟩).gx sL2.g) fun d v H8 hd g8 rw8 hv => ?_
            obtain ⟨ds, _, hd⟩ := hd
            have hd : tOk d := hd
            have s8 := sL2.to g8 rw8
            have gB3 := s8.grow nP4 tn
            have dV := s8.fact hv
            refine l_whenE (K := K) s8.off (et_alike (k := 9) (gB3.gt t6) (el_told (C := C) (R := rRdP) offT_P tn (gB3.gt t6) (ea1 (ev_var rfl dV)) ⟨d, hd, rfl, rfl⟩) (ev_call (R := rLawP) (gB3.gt t6) (ea1 (ev_var rfl dV)) ⟨d, hd, rfl, rfl⟩) (told_plain _ fun _ => rfl) (alk_rdP d)) fun H9 k9 s9 => ?_
            exact ⟨some (.int (i : Nat)), some v, rfl, s9.weak gB3, kk.trans (g7.kt.trans ((kt_dd g8 m7).trans k9))⟩
          · subst h2
            dsimp only
            -- what is brought
            refine mq_parN2 (K := K) sL.rw ((em_call (Pre := preBr) (R := rBr) (j := 1) rfl sc6 t6 (eam1 (em_var rfl dp)) fun ds ⟨d, e, ed⟩ => ⟨p, hp, by rw [e, ed]⟩).gx sL.g) fun dpost vpost lp3 H10 hd g10 rw10 hvp hpl3 nlp3 => ?_
            obtain ⟨ds, ⟨d, eds, ed⟩, hd⟩ := hd
            obtain ⟨b, hb, rfl⟩ := hd p (by rw [eds, ed])
            have s10 := sL.to g10 rw10
            have gB5 := s10.grow nP4 tn
            have b7 := hb.len hp
            have bn := hb.n
            have db : Dv (offT K l H10) vpost (tD b) := s10.fact hvp
            have nlp3B : offT K l H10 lp3 = none := (s10.off.gB).free nlp3
            have s11 : Lst K l sa (offT K l H10) (upd H10 lp3 (.lst [])) := s10.off.gx (.new nlp3)
            have t7 := gB5.gt t6
            have sc7 := sc6.gx gB5
            have dp := dp.gx gB5
            have nP5 : offT K l H10 (ltb K) = none := offT_P
            generalize offT K l H10 = B5 at s11 t7 sc7 dp db nP5 nlp3B gB5
            have e10 : (upd H10 lp3 (.lst [])) lp3 = some (.lst []) := upd_same
            generalize upd H10 lp3 (.lst []) = H11 at s11 e10
            have dp11 : Dv H11 vp (pD p) := dp.gx s11.gB
            obtain ⟨a1, a2, a3, a4, a5, a6, a7, a8⟩ := tl_lens
            refine s_for (K := K) (D := { D with nx := _ }) (srk_range1 (j := b.length) (ev_is (ev_ixT (i := 0) (d := .int p.1) (ev_var rfl dp11) ev_int rfl) (congrArg PyData.int bn.symm)) (by omega)) fun Hs gs => ⟨fun i σ' H' => ∃ vs o10, σ' = [some (.ref sa), some (.ref l), some vq, some (.ref lp3), o4, some (.str (textOf (pLines p))), some (.ref mp2), o7, o8, some vpost, o10, some vp, o12, none] ∧ Lst K l sa B5 H' ∧ Kt Hs H' ∧ H' lp3 = some (.lst vs) ∧ TvAll H' vs (((List.range i).map (bLine b)).map .str),
              ⟨[], none, rfl, s11.gx gs, .refl, gs.lst e10, .nil⟩, fun i σ' H' hi ⟨_, _, _, _, k, _⟩ => k, fun i u σ' H' H'' hi ⟨vs, o10, h2, sM, kk, h3, h4⟩ g7 hu => ?_, fun σ' H' ⟨vs, o10, h2, sM, kk, h3, h4⟩ => ?_⟩
            · subst h2 hu
              have sM2 := sM.gx g7
              obtain ⟨zs7, m7⟩ := sM2.rw.lst
              have hi' : i < b.length := hi
              obtain ⟨r1, r2⟩ := hb.row hp hi'
              have gB7 := sM2.g
              have er : (b.map iD)[i]? = some (iD (b.getD i [])) := by
                rw [List.getElem?_map, List.getD_eq_getElem?_getD, List.getElem?_eq_getElem hi']
                rfl
              have n1 : (Str.ofString (toString ((i : Nat) : Int))).length = 1 := num1 (show i < 10 by omega)
              have n1b : (numT ((i : Nat) : Int)).length = 1 := num1 (show i < 10 by omega)
              have hwl := wordsT_len r1
              have db7 := db.gx gB7
              refine m_app (K := K) (G := (· = .str (bLine b i))) sM2.rw hpl3 (g7.lst h3) (h4.kt g7.kt) rfl (em_of (d := .str (bLine b i)) (ev_addS (ev_addS (ev_addS ev_str (ev_strI (ev_var (v := .int (i : Nat)) rfl (.int _)) (num_small (n := i) (by omega))) ?_) ev_str ?_) (ev_call (R := rWords) (gB7.gt t7) (ea1 (ev_ixT (d := iD (b.getD i [])) (ev_var rfl db7) (ev_var (v := .int (i : Nat)) rfl (.int _)) (atI_nat er))) ⟨_, r1, by omega, rfl, rfl⟩) ?_) rfl) (fun d e => by rw [e]; rfl) (by simp; omega) fun d v H8 hd g8 rw8 e8 t8 => ?_
              all_goals try first | omega | (simp only [str_len]; omega)
              subst hd
              refine ⟨vs ++ [v], some (.int (i : Nat)), rfl, ?_, kk.trans (g7.kt.trans ((kt_dd g8 m7).trans (.mut e8))), upd_same, ?_⟩
              · exact (sM2.to g8 (rw8.to (upd_ne (Ne.symm hpl3)).symm)).mut nlp3B hpl3 e8
              · rw [range_take, List.map_append]
                exact t8
            · subst h2
              dsimp only
              have nlL := sM.list hpl3 h3 h4
              have gB1 := sM.grow nP5 tn
              have dL : Dv (offT K l H') (.ref lp3) (strsD (bLines b)) := sM.fact nlL
              have sB6 := sM.off
              have t8 : GT K (offT K l H') := gB1.gt t7
              have sc8 : Scr K sa (offT K l H') := sc7.gx gB1
              have dp := dp.gx gB1
              have db := db.gx gB1
              have nP6 : offT K l H' (ltb K) = none := offT_P
              generalize offT K l H' = B6 at sB6 t8 sc8 dp db nP6 dL gB1
              have lbb := bLines_ok hp hb
              refine mq_asg (K := K) sB6.rw ((em_of (d := .str (textOf (bLines b))) (ev_text (i := 3) (j := 13) rfl dL (lbb.up (by decide) (by decide)) (fun _ => rfl) fun _ => rfl) rfl).gx sB6.g) fun d v H4 hd g4 rw4 hv => ?_
              subst hd
              cases hv.strE
              have s4 := sB6.to g4 rw4
              have dT : ∀ {B' : Hp}, Dv B' (.str (textOf (bLines b))) (.str (textOf (bLines b))) := .str _
              have asT : asciiT (textOf (bLines b)) = true := textOf_ascii lbb
              refine l_when (K := K) s4 (et_L (et_is (et_or (b := false) (et_not (et_B (ev_call (R := rAlk 9) (d := .bool true) t8 (ea2 (ev_call (R := rBText) (d := .str (textOf (bLines b))) t8 (ea2 (ev_var rfl dp) (ev_var rfl db)) ⟨p, b, hp, hb, rfl, rfl⟩) (ev_var rfl dT)) ⟨_, alk_str asT, rfl, rfl⟩))) fun _ => et_not (et_B (ev_call (R := rAlk 9) (d := .bool true) t8 (ea2 (ev_callX (R := rRdB) (d := tD b) t8 (ea2 (ev_var rfl dp) (ev_var rfl dT)) ⟨p, _, hp, text_tOk (lbb.up (by decide) (by decide)), rfl, by rw [read_b hp hb]; rfl⟩) (ev_var rfl db)) ⟨_, hb.alk hp, rfl, rfl⟩))) rfl)) fun H5 k5 s5 => ?_
              -- one line more
              have hdg := num_len (pHead_dig hp)
              have hdg1 : (Str.ofString (toString p.1)).length = 1 := hdg.1
              have tl8 : (textOf (bLines b)).length ≤ 8 * 101 := Nat.le_trans (textOf_len (k := 100) fun x hx => (lbb.2 x hx).1) (by have := lbb.1; omega)
              have c1 : ("messenger " : Str).length = 10 := a6
              have c2 : (" brings\n" : Str).length = 8 := by decide +kernel
              refine mq_asg (K := K) s5.rw ((em_of (d := .str (textOf (bLines b ++ [bExtra p]))) (ev_is (ev_addS (ev_addS (ev_addS (ev_var rfl dT) ev_str ?_) (ev_strI (ev_ixT (i := 0) (d := .int p.1) (ev_var rfl dp) ev_int rfl) hdg.2) ?_) ev_str ?_) (congrArg PyData.str (extra_text p b))) rfl).gx s5.g) fun d v H6 hd g6 rw6 hv => ?_
              all_goals try first | omega | (simp only [str_len]; omega)
              subst hd
              cases hv.strE
              have s6 := s5.to g6 rw6
              have dX : ∀ {B' : Hp}, Dv B' (.str (textOf (bLines b ++ [bExtra p]))) (.str (textOf (bLines b ++ [bExtra p]))) := .str _
              have lbx : LB (bLines b ++ [bExtra p]) 9 113 := ⟨by have := lbb.1; simp; omega, fun x hx => by
                rcases List.mem_append.mp hx with hx | hx
                · exact ⟨by have := (lbb.2 x hx).1; omega, (lbb.2 x hx).2⟩
                · rw [List.mem_singleton.mp hx]
                  obtain ⟨f1, f2, f3, f4, f5, f6, f7⟩ := fixa
                  refine ⟨?_, ascii_app (ascii_app f6 (dig_ascii (pHead_dig hp))) f7⟩
                  unfold bExtra
                  simp only [str_len, a6, a7, hdg.1]
                  omega⟩
              refine l_when (K := K) s6 (et_neL (d := lineD p.1) (by
                have z := el_told (K := K) (l := l) (a := sa) (C := C) (σ := [some (.ref sa), some (.ref l), some vq, some (.ref lp3), o4, some (.str (textOf (bLines b))), some (.ref mp2), o7, o8, some vpost, o10, some vp, some (.str (textOf (bLines b ++ [bExtra p]))), none]) (R := rRdB) (r := mapE (rdB p (.str (textOf (bLines b ++ [bExtra p])))) tD) nP6 tn t8 (ea2 (ta := tVar 11) (tb' := tVar 12) (ev_var rfl dp) (ev_var rfl dX)) ⟨p, _, hp, text_tOk lbx, rfl, rfl⟩
                rw [read_bx hp hb] at z
                exact z) (ev_tup (ea2 ev_str (ev_ixT (i := 0) (d := .int p.1) (ev_var rfl dp) ev_int rfl)) rfl (by show 2 ≤ 200000; decide)) (shaped_line _) (eqv_self (shaped_line _))) fun H7 k7 s7 => ?_
              -- two written texts
              refine mq_asg (K := K) s7.rw ((em_of (d := .str "state 0 answer 1 to 0 0 0 0 0") ev_str rfl).gx s7.g) fun d v H8 hd g8 rw8 hv => ?_
              subst hd
              cases hv.strE
              have s8 := s7.to g8 rw8
              have dW : ∀ {B' : Hp}, Dv B' (.str "state 0 answer 1 to 0 0 0 0 0") (.str "state 0 answer 1 to 0 0 0 0 0") := .str _
              have tk5 : tOk (.str (textOf (qLines q5))) := text_tOk ((qLines_ok q5_ok).up (by decide) (by decide))
              have tk6 : tOk (.str (textOf [qLine q6 0])) := text_tOk ⟨by decide, by decide +kernel⟩
              refine l_when (K := K) s8 (et_neL (d := .list [qD q5, lineD 0]) (el_pair (by
                have z := el_told (K := K) (l := l) (a := sa) (C := C) (σ := [some (.ref sa), some (.ref l), some vq, some (.ref lp3), o4, some (.str (textOf (bLines b))), some (.ref mp2), o7, o8, some vpost, o10, some vp, some (.str "state 0 answer 1 to 0 0 0 0 0"), none]) (R := rRdQ) (r := mapE (rdQ (.str (textOf (qLines q5)))) qD) nP6 tn t8 (ea1 (ev_is (ev_addS (ta := tVar 12) (tb' := tC (.str "\n")) (ev_var rfl dW) ev_str (by decide)) (congrArg PyData.str q5_text))) ⟨_, tk5, rfl, rfl⟩
                rw [read_q q5_ok] at z
                exact z) (by
                have z := el_told (K := K) (l := l) (a := sa) (C := C) (σ := [some (.ref sa), some (.ref l), some vq, some (.ref lp3), o4, some (.str (textOf (bLines b))), some (.ref mp2), o7, o8, some vpost, o10, some vp, some (.str "state 0 answer 1 to 0 0 0 0 0"), none]) (R := rRdQ) (r := mapE (rdQ (.str (textOf [qLine q6 0]))) qD) nP6 tn t8 (ea1 (ev_is (ev_addS (ta := tVar 12) (tb' := tC (.str " 0\n")) (ev_var rfl dW) ev_str (by decide)) (congrArg PyData.str q6_text))) ⟨_, tk6, rfl, rfl⟩
                rw [read_q6] at z
                exact z) rfl rfl) (En.ev (en_lst (ea2 (ev_tup (ea2 (ev_tup (ea1 (ev_rep5 (ev_tup (ea1 ev_int) rfl (by decide)))) rfl (by decide)) (ev_tup (ea1 ev_int) rfl (by decide))) rfl (by decide)) (ev_tup (ea2 ev_str ev_int) rfl (by decide))) rfl (by decide))) shaped_two (eqv_self shaped_two)) fun H9 k9 s9 => ?_
              -- bent texts of what is brought
              refine mq_asgN (K := K) (ds := moreB.map .str) s9.rw (en_lst (ea_cons ev_str (ea_cons ev_str (ea_cons ev_str (ea_cons (ev_addS (a := ("messenger 0 brings" : Str)) (b := Txt.mul " 0" 41) ev_str (ev_mulS ev_str ev_int mul_ok) (by decide +kernel)) (ea2 ev_str ev_str))))) rfl (by show 6 ≤ 200000; decide)) fun mp3 xs6 H10 g10 rw10 hml nmp e6 t6 => ?_
              have s10 := s9.to g10 rw10
              have gB2 := s10.grow nP6 tn
              have dM : Dv (offT K l H10) (.ref mp3) (strsD moreB) := s10.fact (s10.list hml e6 t6)
              have sB7 := s10.off
              have t9 : GT K (offT K l H10) := gB2.gt t8
              have sc9 : Scr K sa (offT K l H10) := sc8.gx gB2
              have dL := dL.gx gB2
              have dp := dp.gx gB2
              have nP7 : offT K l H10 (ltb K) = none := offT_P
              generalize offT K l H10 = B7 at sB7 t9 sc9 dp nP7 dL dM gB2
              refine s_for (K := K) (D := { D with nx := _ }) (srk_range1 (j := 4) ev_int (by decide)) fun Hs gs => ⟨fun i σ' H' => ∃ o7 o12, σ' = [some (.ref sa), some (.ref l), some vq, some (.ref lp3), o4, some (.str (textOf (bLines b))), some (.ref mp3), o7, o8, some vpost, o10, some vp, o12, none] ∧ Lst K l sa B7 H' ∧ Kt Hs H',
                ⟨o7, _, rfl, sB7.gx gs, .refl⟩, fun i σ' H' hi ⟨_, _, _, _, k⟩ => k, fun i u σ' H' H'' hi ⟨o7, o12, h2, sL, kk⟩ g7 hu => ?_, fun σ' H' ⟨o7, o12, h2, sL, kk⟩ => ?_⟩
              · subst h2 hu
                have sL2 := sL.gx g7
                obtain ⟨zs7, m7⟩ := sL2.rw.lst
                refine mq_asg (K := K) sL2.rw ((em_call (Pre := preBent) (R := rBent) (j := 1) rfl sc9 t9 (eam2 (em_var rfl dL) (em_var rfl dM)) fun ds ⟨d, e, ed, e1, e2⟩ => ⟨bLines b, moreB, by rw [ed, e1, e2], lbb.up (by decide) (by decide), by decide, ⟨by decide, by decide +kernel⟩⟩).gx sL2.g) fun d v H8 hd g8 rw8 hv => ?_
                obtain ⟨ds, _, hd⟩ := hd
                have hd : tOk d := hd
                have s8 := sL2.to g8 rw8
                have gB3 := s8.grow nP7 tn
                have dV := s8.fact hv
                have dpV := dp.gx gB3
                refine l_whenE (K := K) s8.off (et_alike (k := 9) (gB3.gt t9) (el_told (C := C) (R := rRdB) offT_P tn (gB3.gt t9) (ea2 (ev_var rfl dpV) (ev_var rfl dV)) ⟨p, d, hp, hd, rfl, rfl⟩) (ev_call (R := rLawB) (gB3.gt t9) (ea2 (ev_var rfl dpV) (ev_var rfl dV)) ⟨p, d, hp, hd, rfl, rfl⟩) (told_plain _ fun _ => rfl) (alk_rdB hp d)) fun H9 k9 s9 => ?_
                exact ⟨some (.int (i : Nat)), some v, rfl, s9.weak gB3, kk.trans (g7.kt.trans ((kt_dd g8 m7).trans k9))⟩
              · subst h2
                dsimp only
                exact kr H'
end
end LP

/-! LpHd0 -/
set_option maxHeartbeats 0
/-! The head: what the top leaves. -/
namespace LP
open PySem PySem.Spec PyProof.Rows L2
/-! ### the class BadLine, as Bools -/
theorem ba2 {a b : Bool} (h : (a && b) = true) : a = true ∧ b = true := Bool.and_eq_true_iff.mp h
def slotB (l : List (Option Value)) : Bool := decide (l.length = 6) && decide (l.getD 4 none = some (.builtin "ValueError.__new__"))
theorem slotB_ok {l : List (Option Value)} (h : slotB l = true) : ∃ k0 k1 k2 k3 k5, l = [k0, k1, k2, k3, some (.builtin "ValueError.__new__"), k5] := by
  obtain ⟨h1, h2⟩ := ba2 h
  have h1 := of_decide_eq_true h1
  have h2 := of_decide_eq_true h2
  match l, h1 with
  | [k0, k1, k2, k3, k4, k5], _ =>
    have h2 : k4 = some (.builtin "ValueError.__new__") := h2
    rw [h2]
    exact ⟨k0, k1, k2, k3, k5, rfl⟩
def mroB (C : Addr) (l : List Value) : Bool := decide (l.head? = some (.ref C)) && PySem.HandSPX.refsVE l.tail
theorem mroB_ok {C : Addr} {l : List Value} (h : mroB C l = true) : ∃ bm, l = .ref C :: bm ∧ PySem.HandSPX.refsVE bm = true := by
  obtain ⟨h1, h2⟩ := ba2 h
  have h1 := of_decide_eq_true h1
  cases l with
  | nil => cases h1
  | cons v bm =>
    injection h1 with h1
    exact ⟨bm, by rw [h1], h2⟩
def clsB (C : Addr) (o : Option Obj) : Bool := match o with
  | none => false
  | some ob => decide (ob.cls = .type "type") && (match ob.data with
    | .cls cd => mroB C cd.mro && (slotB ob.slots.toList && (cd.hasDict && !cd.hasDel))
    | _ => false)
theorem clsB_ok {C : Addr} {o : Option Obj} (h : clsB C o = true) : ∃ nm q N bs bm sn sub ab col dd k0 k1 k2 k3 k5, o = some (excClassObj nm q C N bs bm true sn sub ab col dd k0 k1 k2 k3 k5 "ValueError.__new__") ∧ PySem.HandSPX.refsVE bm = true := by
  cases o with
  | none => cases h
  | some ob =>
    obtain ⟨oc, dd, dt, sl⟩ := ob
    obtain ⟨h1, h⟩ := ba2 h
    have c1 : oc = .type "type" := of_decide_eq_true h1
    cases dt with
    | cls cd =>
      obtain ⟨nm, bs, mro, ns, q, hd, sn, sub, ab, col, del⟩ := cd
      obtain ⟨h2, h⟩ := ba2 h
      obtain ⟨h3, h⟩ := ba2 h
      obtain ⟨h4, h5⟩ := ba2 h
      have c4 : hd = true := h4
      obtain ⟨bm, e2, e3⟩ := mroB_ok h2
      obtain ⟨k0, k1, k2, k3, k5, e4⟩ := slotB_ok h3
      have e2 : mro = .ref C :: bm := e2
      have e5 : sl = #[k0, k1, k2, k3, some (.builtin "ValueError.__new__"), k5] := by
        apply Array.toList_inj.mp
        exact e4
      have c5 : del = false := by
        cases del
        · rfl
        · cases h5
      subst c1 c4 c5 e2 e5
      exact ⟨_, _, _, _, _, _, _, _, _, _, _, _, _, _, _, rfl, e3⟩
    | _ => cases h
def oexB (K : Fg) (C : Addr) : Bool := clsB C (K.lookup C) && (decide (PySem.W.findIn K (.ref C) "__setattr__" = some (some (.builtin "object.__setattr__"))) && (decide (PySem.W.subIn K (.ref C) (.type "BaseException") = some true) && (decide (PySem.W.typeIn K (.ref C) = some (.type "type")) && PySem.W.keepIn K (.ref C))))
theorem oexB_ok {K : Fg} {C : Addr} (h : oexB K C = true) : OexC K C := by
  obtain ⟨h1, h⟩ := ba2 h
  obtain ⟨h2, h⟩ := ba2 h
  obtain ⟨h3, h⟩ := ba2 h
  obtain ⟨h4, h5⟩ := ba2 h
  exact ⟨clsB_ok h1, of_decide_eq_true h2, of_decide_eq_true h3, of_decide_eq_true h4, h5⟩
end LP

/-! LpHd -/
set_option maxHeartbeats 0
namespace LP
open PySem PySem.Spec PyProof.Rows L2
/-! ### the Hook -/
def dOf (x : Str) (i : Nat) : He.DefD := ⟨(x, none), x, x, defArgs (topS i), defBody (topS i), defScope (topS i), [], []⟩
def dIni : He.DefD := ⟨("BadLine", some "__init__"), "__init__", "BadLine.__init__", defArgs (inClass (topS 5) 0), defBody (inClass (topS 5) 0), defScope (inClass (topS 5) 0), [], []⟩
def hfn : List He.DefD := dIni :: fnPlaces.map fun q => dOf q.1 q.2
def hfa : List He.Fa := (fnPlaces.map fun q => He.Fa.glo q.1) ++ (bltNames.map fun x => He.Fa.free x) ++ [.glo "BadLine", .int "MOST_LETTERS" 5, .int "MOST_STATES" 8, .int "MOST_ANSWER" 3, .int "MOST_TEXT" 40, .int "MOST_MESSENGERS" 7, .str "FIGURES" "0123456789"]
def htf : List He.Defn := (("law" : Str) :: gtNames).map fun x => (x, none)
/-- what else is to be seen: the class BadLine; the tables are unlike -/
def hex (K : Fg) : Bool := let C := He.ga K "BadLine"
  oexB K C && (xfB K C && (decide (PySem.W.findIn K (.ref C) "line" = some none) && (decide (PySem.W.findIn K (.ref C) "__init__" = some (some (.ref (He.ma K C "__init__")))) && (decide (PySem.W.typeIn K (.ref (He.ma K C "__init__")) = some (.type "function")) && (decide (PySem.W.exmOne K (.ref C) (.ref C) = some true) && gtNames.all fun x => decide (tb K x ≠ ltb K))))))
def looseN0 : List Str := ["PostError", "BadQuestion", "BadPlan", "BadPost", "BadLine", "MOST_LETTERS", "MOST_STATES", "MOST_ANSWER", "MOST_TEXT", "is_number", "need_question", "is_text"]
def looseN1 : List Str := ["MOST_MESSENGERS", "is_lot", "need_plan", "is_row", "need_post", "FIGURES", "lines_of", "figure_of", "numbers_of", "words_of", "question_text", "state_of"]
def looseN2 : List Str := ["read_question", "plan_text", "read_plan", "brought_text", "read_brought", "_law_taken", "_law_pick", "_law_alike", "_law_question", "_law_plan", "_law_both", "_law_told"]
def looseN3 : List Str := ["_law_words", "_law_figures", "_law_lines", "_law_read_question", "_law_read_plan", "_law_read_brought", "_law_bent", "_law_brought"]
def looseN : List Str := looseN0 ++ looseN1 ++ looseN2 ++ looseN3
abbrev hrow : PySem.W.OpenRow := PySem.W.OpenLaw.row PySem.Challenge.rw_liarpost_k60_whole_texts
abbrev hvw : Program := PySem.W.view hrow.prog [49]
abbrev hhk : PySem.W.Hook := He.hookX 5 hfa hfn [] htf hex
def hob (s : PySem.W.SharedT) : He.AlX := He.obsX 5 hfa hfn [] htf hex (HandSHeadRun.getT s)
theorem hob_eq (s : PySem.W.SharedT) : hob s = hhk.obs s.abs := He.obsX_eq (HandSHeadRun.getT_eq s)
theorem hrun (w : World) : HandSHeadRun.RunEq hrow hvw hhk hob 4000 looseN w := by
  intro os
  kernel_rfl
end LP

/-! LpEnd -/
set_option maxHeartbeats 8000000
/-! The end. -/
namespace LP
open PySem PySem.Spec PyProof.Rows L2
section
variable {w : World} {K : Fg} {h : Heap} {mg : Str → Option Value}
theorem tx_of (X : K.In h) (G : h.Ns mainGlobals mg) (c : He.SaysX hfa hfn [] htf hex w h K) : Tx K mg (He.ga K "BadLine") := by
  have cd : He.SaysD hfa hfn K := congrArg (fun z : He.AlT => z.1) c.t
  have m := c.more
  unfold hex at m
  obtain ⟨m1, m⟩ := ba2 m
  obtain ⟨m2, m⟩ := ba2 m
  obtain ⟨m3, m⟩ := ba2 m
  obtain ⟨m4, m⟩ := ba2 m
  obtain ⟨m5, m⟩ := ba2 m
  obtain ⟨m6, m7⟩ := ba2 m
  have inF : ∀ {i : Nat} {x : Str} {j : Nat}, fnPlaces[i]? = some (x, j) → (x, j) ∈ fnPlaces := fun e => List.mem_of_getElem? e
  have la : ∀ {f : He.Fa}, f ∈ [He.Fa.glo "BadLine", .int "MOST_LETTERS" 5, .int "MOST_STATES" 8, .int "MOST_ANSWER" 3, .int "MOST_TEXT" 40, .int "MOST_MESSENGERS" 7, .str "FIGURES" "0123456789"] → f.ok K = true := fun hf => cd.facts (List.mem_append_right _ hf)
  refine ⟨fun i x j e => ⟨He.glo_ok X G (cd.facts (List.mem_append_left _ (List.mem_append_left _ (List.mem_map.mpr ⟨(x, j), inF e, rfl⟩)))), cd.defs (d := dOf x j) (List.mem_cons_of_mem _ (List.mem_map.mpr ⟨(x, j), inF e, rfl⟩))⟩, fun i x e => He.free_ok X G (cd.facts (List.mem_append_left _ (List.mem_append_right _ (List.mem_map.mpr ⟨x, List.mem_of_getElem? e, rfl⟩)))),
    He.int_ok X G (la (by simp)), He.int_ok X G (la (by simp)), He.int_ok X G (la (by simp)), He.int_ok X G (la (by simp)), He.int_ok X G (la (by simp)), He.str_ok X G (la (by simp)),
    ⟨He.glo_ok X G (la (by simp)), oexB_ok m1, xfB_ok m2, of_decide_eq_true m3, of_decide_eq_true m4, of_decide_eq_true m5, of_decide_eq_true m6, cd.defs (d := dIni) List.mem_cons_self⟩, fun x hx => of_decide_eq_true (List.all_eq_true.mp m7 x hx)⟩
theorem law_at (X : K.In h) (G : h.Ns mainGlobals mg) (c : He.SaysX hfa hfn [] htf hex w h K) {fa : Addr} (hfa0 : mg ("law" : Str) = some (.ref fa)) :
    LamX.LawAtS PySem.Challenge.rw_liarpost_k60_whole_texts w K L2.CX0 20 63 "_law_script" mg fa h := by
  have T := tx_of X G c
  have cd : He.SaysD hfa hfn K := congrArg (fun z : He.AlT => z.1) c.t
  obtain ⟨gm, fd, F⟩ := T.fn 33 "law" 49 rfl
  have e := hfa0.symm.trans gm
  cases e
  refine ⟨fd, htf.map (He.cT K), spLaw K, fun p hp => ?_, fun p hp => ?_, fun p hp => ?_, fun s u => FunD.bindsA (ps := ["_law_script"]) F (fun _ _ _ _ _ _ us hl => match us, hl with | [_], _ => rfl) s [u] rfl, fun H a ns hl _ hH hS => ?_, fun base Xb Gb hB => ?_⟩
  · obtain ⟨q, hq, rfl⟩ := List.mem_map.mp hp
    exact c.empty q hq
  · obtain ⟨q, hq, rfl⟩ := List.mem_map.mp hp
    exact c.out q hq
  · obtain ⟨q, hq, rfl⟩ := List.mem_map.mp hp
    exact PySem.W.codeHd_of_K X (c.hd q hq)
  · have tab : ∀ x ∈ (("law" : Str) :: gtNames), H (tb K x) = some (.tbl #[]) := fun x hx => hH (He.cT K (x, none)) (List.mem_map.mpr ⟨(x, none), List.mem_map.mpr ⟨x, hx, rfl⟩, rfl⟩)
    refine ⟨a, ns, rfl, hl, hS, fun x hx => ⟨#[], tab x (List.mem_cons_of_mem _ hx), ?_⟩, fun p hp => ?_, fun _ => rfl⟩
    · first | trivial | exact True.intro | decide | simp [TriplesOk] | constructor
    · rw [List.mem_singleton.mp hp]
      exact ⟨#[], tab "law" List.mem_cons_self, by first | trivial | exact True.intro | decide | constructor, fun pos cv e => by cases e⟩
  · have Bt : Tbs K mg base := fun x hx => by
      have t := hB (He.cT K (x, none)) (List.mem_map.mpr ⟨(x, none), List.mem_map.mpr ⟨x, hx, rfl⟩, rfl⟩)
      exact ⟨t.code, t.bm, t.gP⟩
    exact (ok_law (P := (PySem.Challenge.rw_liarpost_k60_whole_texts).prog) (w := w) (base := base) T Bt F).mono (by decide)
end
end LP
open PySem PySem.W PySem.Calls PyProof.Rows
theorem PySem.Challenge.cw_liarpost_k60_whole_texts_holds : PySem.Challenge.rw_liarpost_k60_whole_texts.Holds := by
  w_on; o_law
  refine HandSHeadRun.head_any (r := OpenLaw.row PySem.Challenge.rw_liarpost_k60_whole_texts) (q := LP.hvw) (H := LP.hhk) (ob := LP.hob) (M := 4000) (loose := LP.looseN) (d := HandSHeadRun.topDef (OpenLaw.row PySem.Challenge.rw_liarpost_k60_whole_texts).prog 49) (kwd := []) LP.hob_eq
    (by kernel_rfl) (fun s => by kernel_rfl) LP.hrun (by kernel_rfl) (by kernel_rfl) (by kernel_rfl) (by rfl) (by first | assumption | decide +kernel) (by decide +kernel) ⟨rfl, rfl, rfl, rfl, rfl, by decide +kernel⟩ ?hw ?hc
  case hw => w_witness2
  case hc =>
    refine LamX.walk_ofTsE (l := PySem.Challenge.rw_liarpost_k60_whole_texts) (n := 63) (k := 20) (x := "_law_script") (CX := fun _ => L2.CX0) rfl (by decide) (by kernel_rfl) ⟨rfl, by decide, by decide⟩ ?F (fun _ _ _ _ _ z => z)
    intro w mg fa h Y G hmg0
    obtain ⟨K, KX, c⟩ := Y
    have hmg : mg ("law" : PySem.Str) = some (.ref fa) := by
      have e : (HandSHeadRun.topDef (OpenLaw.row PySem.Challenge.rw_liarpost_k60_whole_texts).prog 49).name = ("law" : PySem.Str) := by kernel_rfl
      rw [← e]
      exact hmg0
    exact ⟨K, KX, LP.law_at KX G c hmg⟩
