import PyProof.Rows.All
import Wide.All
import OpenK.AllK
import Wide.FinOn
import HandS.ForMost
import HandS.AnyAll
import HandS.GenOver
import HandS.GenList
import KE.KRevSl
import HandS.TupAny
import HandS.TupMul
import HandS.Style
import KE.GoesEnum
import HandS.Zip
import HandS.IsInst
import HandS.SortInts
import HandS.Comp
import HandS.Defaults
import HandS.Strs
import HandS.SetFor
import HandS.Sort
import HandS.Conv
import HandS.Codes
import HandS.Exc
import HandS.HeadHook4
import KE.KStateDown
import HandS.Head0
import HandS.Head1
import HandS.Head2
import HandS.Head3
import HandS.HeadEnd
import HandS.HeadHook1
import HandS.HeadHook2
import HandS.HeadHook3
import HandS.HeadWalk
import PySem.Challenge.RW_keystotext_k96_whole_waits_and_rests
set_option Elab.async false
set_option linter.all false
set_option maxRecDepth 100000
set_option maxHeartbeats 4000000
/-! any, all of a generator expression over whatever PI serves; its element may call. -/
namespace Gx
open PySem PySem.Spec PyProof.Rows L2 GxR

/-- the context of a generator expression's frame: s the state ahead of the frame's making -/
abbrev gcx (X : Cx) (s : Shared) (H : Hp) (env : Env) (fp : List Addr) (A : Around) : Cx :=
  { X with s_0 := s, H_0 := H, env := env, outer := X.stack, stack := env :: X.stack, ex := fp, fn := fun _ => false, pn := [], xe := fun _ _ => False, A := A }
abbrev gcl (X : Cx) (scope : Scope) : List (Str × Addr) := cloFrom X.env.cells scope.names []
section
variable {X : Cx} {pins : List (Addr × Obj)} {σ : L2.St} {H : Hp} {s : Shared}
theorem gen_start {scope : Scope} {own : List (Str × Nat)} {fp : List Addr} {A' : Around} {code : Value} {m0 : Str → Option Value} {h' : Heap} {G' : Array GenState} {tk : Nat}
    (I : Inv X pins σ H s) (ok : BlkOk X.N X.env.scope scope own) (nc : ∀ y ∈ scope.names, y.2 ≠ .cell) (hN : X.N.Nodup) (hfp : ∀ b ∈ fp, FpOk X pins H b ∧ b < s.heap.objs.size)
    (hA : A'.handled = none) (hfr : A'.frames = some (genEnv scope (gcl X scope) s.heap.objs.size code builtinsNs X.env :: X.stack))
    (hn : h'.Ns s.heap.objs.size m0) (kp : ∀ b o, s.heap.get? b = some o → h'.get? b = some o) (hg : AllBare G') :
    Inv (gcx X s H (genEnv scope (gcl X scope) s.heap.objs.size code builtinsNs X.env) fp A') [] (wipe σ (own.map (·.2))) H { s with heap := h', gens := G', toks := tk } := by
  have hfree : ∀ y ∈ scope.names, y.2 = .free → ∃ c, X.env.cells.lookup y.1 = some c := fun y hy e => by
    rcases ok.free y hy e with k | k
    · exact I.ok.has _ (.inl k)
    · exact I.ok.has _ (.inr k)
  generalize hcenv : genEnv scope (gcl X scope) s.heap.objs.size code builtinsNs X.env = cenv at hfr
  have hL : cenv.locals = s.heap.objs.size := by rw [← hcenv]; rfl
  have hcl : cenv.cells = cloFrom X.env.cells scope.names [] := by rw [← hcenv]; rfl
  have hsc : cenv.scope = scope := by rw [← hcenv]; rfl
  have hfrm : cenv.frame = some cenv.locals := by rw [← hcenv]; rfl
  have cm : ∀ {y c}, (y, c) ∈ cloFrom X.env.cells scope.names [] → X.env.cells.lookup y = some c ∧ c < s.heap.objs.size := fun {y c} hm => by
    rcases cloFrom_mem hm with hm | ⟨h1, rfl⟩
    · cases hm
    · obtain ⟨c, hc⟩ := hfree _ h1 rfl
      rw [hc]
      obtain ⟨w, z⟩ := I.cell _ _ hc
      exact ⟨rfl, z.lt⟩
  have mem : ∀ {y c}, cenv.cells.lookup y = some c → X.env.cells.lookup y = some c ∧ c < s.heap.objs.size := fun {y c} e => by
    rw [hcl] at e
    exact cm (PySem.mem_of_lookup e)
  have look : ∀ {y}, scope.names.lookup y = some .free → ∃ c, cenv.cells.lookup y = some c ∧ X.env.cells.lookup y = some c := fun {y} hl => by
    have hy : (y, NameKind.free) ∈ scope.names := PySem.mem_of_lookup hl
    obtain ⟨c', e'⟩ := mem_lookup (cloFrom_has (cells := X.env.cells) (acc := []) hy)
    rw [← hcl] at e'
    exact ⟨c', e', (mem e').1⟩
  have kind_of : ∀ {y k}, cenv.kindOf y = some k → scope.names.lookup y = some k := fun {y k} h => by
    unfold Env.kindOf at h
    rw [hsc] at h
    exact h
  have okB : (gcx X s H cenv fp A').Ok := by
    refine ⟨I.ok.mod, by show cenv.scope.kind = _; rw [hsc]; exact ok.kind, by show cenv.globals = _; rw [← hcenv]; exact I.ok.glob, by show cenv.builtins = _; rw [← hcenv]; rfl, by show s.heap.objs.size ≤ cenv.locals; rw [hL]; exact Nat.le_refl _,
      fun y z c e1 e2 => ?_, fun y hy => ?_, fun y c z e => ?_, fun _ => hA, hfr, .inr ⟨rfl, hfrm⟩, fun b hb => ⟨?_, fun y c e z => ?_⟩, I.bs, Nat.le_trans I.ok.bsz I.sz, fun b o e hb => ?_, fun b hb z => ?_, I.stack, I.stkFree⟩
    · exact I.ok.inj y z c (mem e1).1 (mem e2).1
    · rcases hy with hy | hy
      · exact absurd rfl (nc _ (PySem.mem_of_lookup (kind_of hy)))
      · obtain ⟨c, h1, _⟩ := look (kind_of hy)
        exact ⟨c, h1⟩
    · cases z
    · show b ≠ cenv.locals
      rw [hL]; exact Nat.ne_of_lt (hfp b hb).2
    · exact (hfp b hb).1.2.2.2.2.1 y c (mem e).1 z
    · rcases (hfp b hb).1.2.2.2.1 with z | z
      · exact I.ok.noex b o e z
      · exact absurd (Nat.lt_of_lt_of_le (Heap.lt_size e) (Nat.le_trans I.ok.bsz z)) (Nat.lt_irrefl _)
    · rcases List.mem_cons.mp (I.stkSub b z) with z | z
      · exact (hfp b hb).1.2.1 z
      · exact (hfp b hb).1.2.2.1 z
  refine ⟨okB, rfl, hg, Un.kept kp, ⟨m0, ?_, fun i y av e1 e2 e3 => ?_⟩, fun y c e => ?_, ?_, fun y c e => ?_, fun p hp => ?_, I.hok.kept kp, by rw [wipe_length]; exact I.len⟩
  · show Heap.Ns _ cenv.locals _
    rw [hL]
    exact hn
  · obtain ⟨e2, hne⟩ := wipe_some e2
    have e3 : Vis cenv.scope y := e3
    rw [hsc] at e3
    have no : ∀ k, scope.names.lookup y = some k → ¬ (k = .local ∨ k = .cell) := fun k e hh => by
      rcases ok.own _ (PySem.mem_of_lookup e) hh with e' | e'
      · obtain ⟨p, hp, hpy⟩ := List.mem_map.mp e'
        have e3 := ok.ix p hp
        have : p.1 = y := hpy
        rw [this] at e3
        exact hne (List.mem_map.mpr ⟨p, hp, nodup_ix hN e3 e1⟩)
      · exact e' (List.mem_of_getElem? e1)
    have hfr : scope.names.lookup y = some .free := by
      rcases e3 with e3 | e3 | e3
      · exact absurd (.inl rfl) (no _ e3)
      · exact absurd (.inr rfl) (no _ e3)
      · exact e3
    obtain ⟨m, hn', hl⟩ := I.loc
    have hvis : Vis X.env.scope y := (ok.free _ (PySem.mem_of_lookup hfr) rfl).elim (fun k => .inr (.inl k)) (fun k => .inr (.inr k))
    obtain ⟨w, r, q⟩ := hl i y av e1 e2 hvis
    refine ⟨w, r, .inr ⟨.inr ?_, ?_⟩⟩
    · show cenv.scope.names.lookup y = _
      rw [hsc]
      exact hfr
    obtain ⟨c, h1, h2⟩ := look hfr
    rcases q with ⟨k, _⟩ | ⟨_, c', e', z⟩
    · have k : X.env.scope.names.lookup y = some .local := k
      rcases ok.free _ (PySem.mem_of_lookup hfr) rfl with k' | k' <;> rw [show X.env.scope.names.lookup y = _ from k'] at k <;> cases k
    · rw [h2] at e'; cases e'
      exact ⟨c, h1, z.keeps kp⟩
  · obtain ⟨h1, _⟩ := mem (show cenv.cells.lookup y = some c from e)
    obtain ⟨w, z⟩ := I.cell y c h1
    exact ⟨w, z.keeps kp⟩
  · show H cenv.locals = none
    rw [hL]; exact I.hok.fresh (Nat.le_refl _)
  · obtain ⟨h1, _⟩ := mem (show cenv.cells.lookup y = some c from e)
    exact I.freeC y c h1
  · exact absurd (show p ∈ ([] : List (Addr × Obj)) ++ [] from hp) (by simp)
/-- only the table of generators differs -/
theorem Inv.regen {G' : Array GenState} (I : Inv X pins σ H s) (hg : AllBare G') : Inv X pins σ H { s with gens := G' } :=
  I.call' (s' := { s with gens := G' }) (ch := []) rfl Un.refl I.hok hg fun b hb => by simp at hb
end

/-! ### the turns -/
/-- a value is handed out: b; if it decides, Q; otherwise it goes on whenever it is woken -/
def GY (X : Cx) (p0 : List (Addr × Obj)) (dec : Bool) (Q : VK) : Protocol := fun n s₀ v s kap =>
  ∃ b σ H, v = .bool b ∧ Inv X p0 σ H s ∧ (if b = dec then Q (.bl dec) H else ∀ G', AllBare G' → kap (.send .none) { s with gens := G' })
def GP (X : Cx) (p0 : List (Addr × Obj)) (dec : Bool) (Q : VK) : Nat → Shared → Shared → Prop := fun n s₀ s => ∃ σ H, Inv X p0 σ H s ∧ Q (.bl (!dec)) H
section
variable {X : Cx}
theorem seg_gen {elt tg iter : Expr} {scope : Scope} {pos : Pos} {g : TG} {te : TE} {J : It} {fp : List Addr} {it : Addr} {tn : Nat → Heap → Prop} {A₁ : Around} {p0 : List (Addr × Obj)} {dec : Bool} {Q : VK} {σ0 : L2.St} {vs : List Nat} {W : Nat → Nat → Hp → Prop}
    (hc : X.calm = true) (hco : X.env.scope.isCoroutine = false) (hA : A₁.over (.compLoop (.GeneratorExp elt [⟨tg, iter, [], 0⟩] scope pos) 0 (.ref it) .none X.env) [] = X.A)
    (T : Turn X.prog X.w X.K tg J fp it tn) (pg : PG X tg g) (pe : PE X elt te) (hxe : X.xe = fun _ _ => False) (hp0 : ∀ p ∈ p0, p.1 ∉ fp) (hpn : X.pn = []) (hex : X.ex = fp)
    (turn : ∀ i m H, W i m H → (J.stop i H ∧ Q (.bl (!dec)) H) ∨ (J.go i H ∧ ∃ Nx : Hp → Prop, (∀ H', Nx H' → ∃ m', m' < m ∧ W (i + 1) m' H') ∧ ∀ x H', J.yld i H x H' → g x (wipe σ0 vs) H' fun σ2 H2 => wipe σ2 vs = wipe σ0 vs ∧
      te σ2 H2 fun y H4 => ∃ b, y = .bl b ∧ if b = dec then Q (.bl dec) H4 else Nx H4)) :
    ∀ (n m i : Nat) (H : Hp) (s₀ s : Shared), m < n → W i m H → Inv X p0 (wipe σ0 vs) H s → tn i s.heap → (∀ b ∈ fp, H b = none) →
      Seg (model X.prog X.w) A₁ (fun n s₀ r s₁ => r = .ok .next ∧ GP X p0 dec Q n s₀ s₁) (GY X p0 dec Q) n s₀
        (.compLoop (.GeneratorExp elt [⟨tg, iter, [], 0⟩] scope pos) 0 (.ref it) .none X.env)
        ((model X.prog X.w).den (.compLoop (.GeneratorExp elt [⟨tg, iter, [], 0⟩] scope pos) 0 (.ref it) .none X.env)) [] s := by
  have stat : ∀ {σ' : L2.St} {H' : Hp} {s' : Shared}, Inv X p0 σ' H' s' → (∀ b ∈ fp, H' b = none) → ∀ b ∈ fp, FpOk X p0 H' b := fun {σ' H' s'} I' hn b hb =>
    ⟨hn b hb, (I'.ok.exf b (hex ▸ hb)).1, I'.ok.exfs b (hex ▸ hb), .inl (hex ▸ hb), fun x c e => (I'.ok.exf b (hex ▸ hb)).2 x c e, fun p hp => by
      rw [hpn, List.nil_append] at hp
      exact fun z => hp0 p hp (z ▸ hb)⟩
  have thnE : ∀ {α : Type} {t : Sem α} {Q Q' : α → Shared → Prop} {E : Value → Shared → Prop} {s : Shared}, wpAny (model X.prog X.w) X.A t Q X.xe s → (∀ a s, Q a s → Q' a s) → wpAny (model X.prog X.w) X.A t Q' E s := fun {α t Q Q' E s} h hQ => by
    rw [hxe] at h
    exact thnF h hQ
  intro n
  induction n with
  | zero => intro m i H s₀ s hm; omega
  | succ n ih =>
    intro m i H s₀ s hm w5 I st nf
    show Seg _ A₁ _ _ _ s₀ _ ((compTurn (.GeneratorExp elt [⟨tg, iter, [], 0⟩] scope pos) 0 (.ref it) .none X.env).onRaise (leaving X.env)) [] s
    rw [compTurn_gen, Sem.onRaise_eq_wrap]
    refine seg_bind_wrap (wpAny_standAt ?_)
    rcases turn i m H w5 with ⟨stop, qq⟩ | ⟨go, Nx, hNx, step⟩
    · refine seg_bind_wrap ?_
      rw [hA]
      refine thnE (T.done X rfl rfl rfl hc i p0 s _ H _ I (stat I nf) st stop) fun r s6 ⟨hr, I6⟩ => ?_
      subst hr
      exact seg_end (.ok .next) ⟨rfl, _, H, I6, qq⟩
    · refine seg_bind_wrap ?_
      rw [hA]
      refine thnE (T.item X rfl rfl rfl hc i p0 s _ H _ I (stat I nf) st go) fun r s6 ⟨u, hr, h6⟩ => ?_
      subst hr
      refine seg_bind_wrap ?_
      rw [hA]
      refine wpAny_mono h6 (fun _ s7 ⟨x, H7, I7, r7, y7, st7, n7⟩ => ?_) fun _ _ e => by rw [hxe] at e; exact e.elim
      have I7' := I7.pinned (stat I7 n7) (T.obj _ _ st7)
      refine seg_bind_wrap ?_
      rw [hA]
      refine thnE (pg.run _ s7 _ H7 x u _ I7' r7 (step x H7 y7)) fun _ s8 ⟨σ8, H8, I8, hw8, q8⟩ => ?_
      refine seg_bind_wrap ?_
      simp only [List.forIn_nil]
      refine wpAny_pure ?_
      simp only [if_true]
      have hy : ∀ v, yieldOut X.env v = yieldValue v := fun v => by simp only [yieldOut, hco, Bool.false_eq_true, if_false]
      simp only [hy]
      rw [Sem.bind_eq_wrap', Sem.bind_eq_wrap', Sem.wrap_wrap, Sem.wrap_wrap]
      refine seg_wrap ?_
      rw [hA]
      refine thnE (pe.run _ s8 σ8 H8 _ I8 q8) fun z s10 ⟨yv, H10, I10, r10, b, eb, q10⟩ => ?_
      subst eb
      have ez : z = Value.bool b := r10
      subst ez
      refine seg_at (seg_yield rfl rfl rfl ⟨b, σ8, H10, rfl, I10.unpinned, ?_⟩)
      by_cases hb : b = dec
      · rw [if_pos hb] at q10 ⊢
        exact q10
      · rw [if_neg hb] at q10 ⊢
        intro G' hG'
        obtain ⟨m', hm', w'⟩ := hNx _ q10
        have pin' : ∀ b ∈ fp, ∀ o, s7.heap.get? b = some o → s10.heap.get? b = some o ∧ H10 b = none := fun b hb o e =>
          let z := I10.pin (b, o) (List.mem_append_right _ (List.mem_append_right _ (mem_pinsAt hb e)))
          ⟨z.1, z.2.1⟩
        have hl : (wipe σ0 vs).length = σ8.length := by rw [← hw8, wipe_length]
        have J1 : Inv X p0 (wipe σ0 vs) H10 s10 := (I10.unpinned (pins := p0)).weak hl (fun j v e => by
          rw [← hw8] at e
          exact (wipe_some e).1)
        refine seg_again rfl (ih m' (i + 1) H10 _ _ (by omega) w' (Inv.regen J1 hG') (T.keep _ _ _ st7 fun b hb o e => (pin' b hb o e).1) fun b hb => ?_)
        obtain ⟨o, e, _⟩ := T.obj _ _ st7 b hb
        exact (pin' b hb o e).2
end

/-! ### the consumer -/
section
variable {X Xg : Cx} {p0 : List (Addr × Obj)} {dec : Bool} {Q : VK} {a : Addr} {g : Nat}
theorem setGen_ok {s : Shared} {σ : L2.St} {H : Hp} {x : GenState} (I : Inv Xg p0 σ H s) (hx : x.bare = true) : Inv Xg p0 σ H (s.setGen g x) :=
  Inv.regen I (allBare_setGen I.bare hx)
/-- one next of the generator -/
theorem next_gx {A : Around} {n : Nat} {gs : GenState} {s : Shared} {R : Option Value → Shared → Prop} {E : Value → Shared → Prop} (hh : A.handled = none) (hl : s.heap.NoLimit) (hroom : A.depth < recursionLimit)
    (hg : s.heap.IsGen a g) (hgs : s.gens[g]? = some gs) (hgen : ∀ h : Heap, (∀ p ∈ p0, h.get? p.1 = some p.2) → h.IsGen a g)
    (hgo : ∀ G', AllBare G' → gs.Goes (model Xg.prog Xg.w) A.in1 (fun n s₀ r s₁ => r = .ok .next ∧ GP Xg p0 dec Q n s₀ s₁) (GY Xg p0 dec Q) n (.send .none) { s with gens := G' }) (hb : AllBare s.gens)
    (hY : ∀ b s₁ σ H, Inv Xg p0 σ H s₁ → (if b = dec then Q (.bl dec) H else ∃ m gs', m < n ∧ s₁.heap.IsGen a g ∧ s₁.gens[g]? = some gs' ∧
      ∀ G', AllBare G' → gs'.Goes (model Xg.prog Xg.w) A.in1 (fun n s₀ r s₁ => r = .ok .next ∧ GP Xg p0 dec Q n s₀ s₁) (GY Xg p0 dec Q) m (.send .none) { s₁ with gens := G' }) → R (some (.bool b)) s₁)
    (hP : ∀ s₁ σ H, Inv Xg p0 σ H s₁ → Q (.bl (!dec)) H → R none s₁) :
    wpAny (model Xg.prog Xg.w) A (pyNext (.ref a)) R E s := by
  have hlt : g < s.gens.size := by
    by_cases h : g < s.gens.size
    · exact h
    · rw [Array.getElem?_eq_none (by omega)] at hgs; cases hgs
  refine GenW.wpAny_gsz (n := s.gens.size) (Nat.le_refl _) ?_
  refine wpAny_pyNext_genexpQ (P := GP Xg p0 dec Q) hh hl hroom hg hgs (hgo _ (allBare_setGen hb rfl)) (fun v s₁ gs' hb' hv => ?_) (fun s₁ hp h' hk => ?_)
  · intro hsz
    obtain ⟨b, σ, H, rfl, I, hq⟩ := hv
    have hsz' : s.gens.size ≤ s₁.gens.size := by rw [GenW.setGen_size] at hsz; exact hsz
    have J : Inv Xg p0 σ H (s₁.setGen g gs') := setGen_ok I hb'
    refine hY b _ σ H J ?_
    by_cases e : b = dec
    · rw [if_pos e] at hq ⊢
      exact hq
    · rw [if_neg e] at hq ⊢
      cases n with
      | zero => exact False.elim (hq s₁.gens I.bare)
      | succ m =>
        refine ⟨m, gs', Nat.lt_succ_self _, hgen _ fun p hp => (J.pin p (List.mem_append_right _ hp)).1, setGen_at (by omega), fun G' hG' => ?_⟩
        exact hq G' hG'
  · intro _
    obtain ⟨σ, H, I, q⟩ := hp
    have J : Inv Xg p0 σ H (s₁.setGen g .finished) := setGen_ok I rfl
    refine hP _ σ H ?_ q
    exact J.call' (s' := { s₁.setGen g .finished with heap := h' }) (ch := []) rfl (Un.kept hk) (J.hok.kept hk) J.bare fun b hb => by simp at hb

theorem any_loop {A : Around} {R : Result → Shared → Prop} (hdec : dec = true) (hh : A.handled = none) (hroom : A.depth < recursionLimit) (hgen : ∀ h : Heap, (∀ p ∈ p0, h.get? p.1 = some p.2) → h.IsGen a g)
    (hR : ∀ b s₁ σ H, Inv Xg p0 σ H s₁ → Q (.bl b) H → R (.ok (.ret (.bool b))) s₁) :
    ∀ (n : Nat) (gs : GenState) (s : Shared), s.heap.NoLimit → AllBare s.gens → s.heap.IsGen a g → s.gens[g]? = some gs →
      (∀ G', AllBare G' → gs.Goes (model Xg.prog Xg.w) A.in1.in1 (fun n s₀ r s₁ => r = .ok .next ∧ GP Xg p0 dec Q n s₀ s₁) (GY Xg p0 dec Q) n (.send .none) { s with gens := G' }) →
      codeAny (model Xg.prog Xg.w) A (.builtin "any.loop" ⟨[.ref a], []⟩) R s := by
  subst hdec
  intro n
  induction n using Nat.strongRecOn with
  | _ n ih =>
    intro gs s hl hb hg hgs hgo
    refine codeAny_builtin F.entry_any_loop ?_
    rw [Around.under_plainId F.plain_any_loop _]
    show wpAny _ A.in1 (pyNext (.ref a) >>= _) _ _ s
    refine wpAny_bind (next_gx (Xg := Xg) (p0 := p0) (dec := true) (Q := Q) (n := n) (gs := gs) hh hl hroom hg hgs hgen hgo hb (fun b s₁ σ H I h => ?_) (fun s₁ σ H I q => ?_))
    · refine wpAny_bind (wpAny_holding (wpAny_truthy_bool ?_))
      refine wpAny_bind (wpAny_letGo ?_)
      cases b with
      | true =>
        rw [if_pos rfl] at h
        simp only [if_true]
        refine wpAny_bind (wpAny_rule (wpAny_pure ?_))
        exact hR true s₁ σ H I h
      | false =>
        rw [if_neg (by decide)] at h
        obtain ⟨m, gs', hm, hg', hgs', hgo'⟩ := h
        simp only [Bool.false_eq_true, if_false]
        exact wpAny_pure ⟨plainId_quiet F.plain_any_loop _, ih m hm gs' s₁ I.nolimit I.bare hg' hgs' hgo'⟩
    · refine wpAny_bind (wpAny_rule (wpAny_pure ?_))
      exact hR false s₁ σ H I q
theorem all_loop {A : Around} {R : Result → Shared → Prop} (hdec : dec = false) (hh : A.handled = none) (hroom : A.depth < recursionLimit) (hgen : ∀ h : Heap, (∀ p ∈ p0, h.get? p.1 = some p.2) → h.IsGen a g)
    (hR : ∀ b s₁ σ H, Inv Xg p0 σ H s₁ → Q (.bl b) H → R (.ok (.ret (.bool b))) s₁) :
    ∀ (n : Nat) (gs : GenState) (s : Shared), s.heap.NoLimit → AllBare s.gens → s.heap.IsGen a g → s.gens[g]? = some gs →
      (∀ G', AllBare G' → gs.Goes (model Xg.prog Xg.w) A.in1.in1 (fun n s₀ r s₁ => r = .ok .next ∧ GP Xg p0 dec Q n s₀ s₁) (GY Xg p0 dec Q) n (.send .none) { s with gens := G' }) →
      codeAny (model Xg.prog Xg.w) A (.builtin "all.loop" ⟨[.ref a], []⟩) R s := by
  subst hdec
  intro n
  induction n using Nat.strongRecOn with
  | _ n ih =>
    intro gs s hl hb hg hgs hgo
    refine codeAny_builtin F.entry_all_loop ?_
    rw [Around.under_plainId F.plain_all_loop _]
    show wpAny _ A.in1 (pyNext (.ref a) >>= _) _ _ s
    refine wpAny_bind (next_gx (Xg := Xg) (p0 := p0) (dec := false) (Q := Q) (n := n) (gs := gs) hh hl hroom hg hgs hgen hgo hb (fun b s₁ σ H I h => ?_) (fun s₁ σ H I q => ?_))
    · refine wpAny_bind (wpAny_holding (wpAny_truthy_bool ?_))
      refine wpAny_bind (wpAny_letGo ?_)
      cases b with
      | false =>
        rw [if_pos rfl] at h
        simp only [Bool.false_eq_true, if_false]
        refine wpAny_bind (wpAny_rule (wpAny_pure ?_))
        exact hR false s₁ σ H I h
      | true =>
        rw [if_neg (by decide)] at h
        obtain ⟨m, gs', hm, hg', hgs', hgo'⟩ := h
        simp only [if_true]
        exact wpAny_pure ⟨plainId_quiet F.plain_all_loop _, ih m hm gs' s₁ I.nolimit I.bare hg' hgs' hgo'⟩
    · refine wpAny_bind (wpAny_rule (wpAny_pure ?_))
      exact hR true s₁ σ H I q
end

/-! ### the whole call -/
/-- what is asked of the element and the target: in the generator's own context -/
def tGen (P : Addr) (dec : Bool) (wi : TI) (g : TG) (te : TE) (vs : List Nat) : TE := fun σ H Q => wi σ H fun J H1 => TabG H1 P ∧ ∀ H2, Tabbed P H1 H2 → ∃ W : Nat → Nat → Hp → Prop, (∃ m, W 0 m H2) ∧ ∀ i m H, W i m H →
  (J.stop i H ∧ Q (.bl (!dec)) H) ∨ (J.go i H ∧ ∃ Nx : Hp → Prop, (∀ H', Nx H' → ∃ m', m' < m ∧ W (i + 1) m' H') ∧ ∀ x H', J.yld i H x H' → g x (wipe σ vs) H' fun σ2 H2 => wipe σ2 vs = wipe σ vs ∧
    te σ2 H2 fun y H4 => ∃ b, y = .bl b ∧ if b = dec then Q (.bl dec) H4 else Nx H4)
section
variable {X : Cx} {pins : List (Addr × Obj)} {σ : L2.St} {H : Hp} {s : Shared}
theorem gen_make {c P : Addr} {elt tg iter : Expr} {scope : Scope} {own : List (Str × Nat)} {gpos : Pos} {wi : TI} {g : TG} {te : TE} {k : Nat} {dec : Bool} {Q : VK} {Q' : Value → Shared → Prop}
    (hr : Room (k + 1) X.A) (hc : X.calm = true) (hN : X.N.Nodup) (TB : TabB X.base X.mg c P) (hcode : X.env.code = .ref c) (hi : PI X tg iter wi) (ok : BlkOk X.N X.env.scope scope own)
    (nc : ∀ y ∈ scope.names, y.2 ≠ .cell) (hco : scope.isCoroutine = false) (dot : scope.names.lookup (".0" : Str) = some NameKind.local)
    (hg : ∀ (s : Shared) (H : Hp) (env : Env) (fp : List Addr) (A : Around), env.scope = scope → Room k A → PG (gcx X s H env fp A) tg g)
    (he : ∀ (s : Shared) (H : Hp) (env : Env) (fp : List Addr) (A : Around), env.scope = scope → Room k A → PE (gcx X s H env fp A) elt te)
    (hs : ∀ v, genFold iter X.env v = pure v) (I : Inv X pins σ H s) (h : tGen P dec wi g te (own.map (·.2)) σ H Q)
    (hQ : ∀ (Xg : Cx) (p0 : List (Addr × Obj)) (a : Addr) (gn n : Nat) (gs : GenState) (s5 : Shared), Xg.prog = X.prog → Xg.w = X.w → (∀ h : Heap, (∀ p ∈ p0, h.get? p.1 = some p.2) → h.IsGen a gn) →
      s5.heap.NoLimit → AllBare s5.gens → s5.heap.IsGen a gn → s5.gens[gn]? = some gs →
      (∀ G', AllBare G' → gs.Goes (model X.prog X.w) X.A.in1.in1 (fun n s₀ r s₁ => r = .ok .next ∧ GP Xg p0 dec Q n s₀ s₁) (GY Xg p0 dec Q) n (.send .none) { s5 with gens := G' }) →
      (∀ s' σ' H', Inv Xg p0 σ' H' s' → Inv X pins σ H' s') → Q' (.ref a) s5) :
    wpAny (model X.prog X.w) X.A (eval (.GeneratorExp elt [⟨tg, iter, [], 0⟩] scope gpos) X.env) Q' X.xe s := by
  have hfree : ∀ y ∈ scope.names, y.2 = .free → ∃ c, X.env.cells.lookup y.1 = some c := fun y hy e => by
    rcases ok.free y hy e with k | k
    · exact I.ok.has _ (.inl k)
    · exact I.ok.has _ (.inr k)
  refine wpAny_GeneratorExp_make hco (closure_ok hfree) nc dot ok.kind (by have := hr.dp; omega) ?_ hs
  refine thn (hi.run pins s σ H _ I h) fun xv s1 hx => thn hx fun itv s2 h2 => ?_
  obtain ⟨it, fp, tn, J, H1, e, I2, T, st2, f2, q⟩ := h2
  subst e
  obtain ⟨⟨ps, hP, ht⟩, q⟩ := q
  have hPs : s2.heap.get? P = some { cls := .none, data := .fields ps } := I2.hok P _ hP
  have cd : PySem.W.CodeHd s2.heap c P := TB.code.keeps fun b u e => I2.bk b u e
  have sz : ∀ b ∈ fp, b < s2.heap.objs.size := fun b hb => by
    obtain ⟨o, e, _⟩ := T.obj _ _ st2 b hb
    exact Heap.lt_size e
  have cont : ∀ (code : Value) (h3 : Heap) (tk : Nat) (ps' : Array Value), Heap.ExtBut P s2.heap h3 → h3.get? P = some { cls := .none, data := .fields ps' } → (∃ more, ps' = ps ++ more) → TriplesOk ps'.toList →
      wpAny (model X.prog X.w) X.A (builtinsFor X.env.globals X.env.builtins) (fun bi s₄ =>
        ∀ h', h'.Ns s₄.heap.objs.size (fun y => if y = ".0" then some (.ref it) else none) → Heap.SameBut s₄.heap.objs.size (s₄.heap.push { cls := .type "frame", data := .dict #[] }) h' →
          Q' (.ref h'.objs.size) { s₄ with
            gens := s₄.gens.push (.fresh (.compStart (.GeneratorExp elt [⟨tg, iter, [], 0⟩] scope gpos) 0 (.ref it) .none (genEnv scope (cloFrom X.env.cells scope.names []) s₄.heap.objs.size code bi X.env))),
            toks := s₄.toks + 1 + 1 + 1,
            heap := h'.push { cls := .type "generator", data := .fields #[.int s₄.gens.size 0, .str "<genexpr>" (s₄.toks + 1), .str (X.env.qual ++ "<genexpr>") (s₄.toks + 1 + 1)] } }) X.xe { s2 with heap := h3, toks := tk } := by
    intro code h3 tk ps' hx hP3 hmore ht3
    obtain ⟨bm, ob, e1, e2, e3, e4, e5, e6, e7, e8⟩ := TB.bm
    have keep3 : ∀ b u, b ≠ P → s2.heap.get? b = some u → h3.get? b = some u := fun b u hb e => hx b u hb e
    refine wpAny_builtinsFor (m := X.mg) (by rw [I2.ok.glob]; exact (I2.mod.glob.keeps I2.bk).extBut hx TB.gP) e1 e2 (keep3 _ _ e4 (I2.bk _ _ e5)) e6 e7 e8 ?_
    intro h' hn' hs'
    -- the table
    obtain ⟨more, em⟩ := hmore
    have I3 : Inv X pins σ (upd H1 P (.tbl (ps ++ more))) { s2 with heap := h3, toks := tk } := inv_tab (more := more) (h' := h3) (g' := s2.gens) (d' := s2.drawn) (t' := tk) I2 hP keep3 (by rw [← em]; exact hP3) I2.bare
    have hTab : Tabbed P H1 (upd H1 P (.tbl (ps ++ more))) := ⟨⟨_, upd_same, by rw [← em]; exact ht3⟩, fun b hb => upd_ne hb⟩
    generalize hH3 : upd H1 P (.tbl (ps ++ more)) = H3 at I3 hTab
    obtain ⟨W, ⟨m0, w0⟩, turn⟩ := q H3 hTab
    generalize hs3 : ({ s2 with heap := h3, toks := tk } : Shared) = s3 at I3
    have e3h : s3.heap = h3 := by rw [← hs3]
    have e3g : s3.gens = s2.gens := by rw [← hs3]
    have e3d : s3.drawn = s2.drawn := by rw [← hs3]
    have e3o : s3.os = s2.os := by rw [← hs3]
    have nP : ∀ b ∈ fp, b ≠ P := fun b hb z => by
      have := (f2 b hb).1
      rw [z, hP] at this
      cases this
    have f3 : ∀ b ∈ fp, FpOk X pins H3 b ∧ b < s3.heap.objs.size := fun b hb => by
      obtain ⟨o, e, _⟩ := T.obj _ _ st2 b hb
      refine ⟨⟨?_, (f2 b hb).2⟩, by rw [e3h]; exact Heap.lt_size (keep3 b o (nP b hb) e)⟩
      rw [← hH3, upd_ne (nP b hb)]
      exact (f2 b hb).1
    have sz5 : h'.objs.size = s3.heap.objs.size + 1 := by
      rw [e3h]
      show h'.objs.size = h3.objs.size + 1
      rw [hs'.1, Heap.size_push]
    generalize hgo : ({ cls := .type "generator", data := .fields #[.int s3.gens.size 0, .str "<genexpr>" (s3.toks + 1), .str (X.env.qual ++ "<genexpr>") (s3.toks + 1 + 1)] } : Obj) = go
    have kp5 : ∀ b o, s3.heap.get? b = some o → (h'.push go).get? b = some o := fun b o e => by
      rw [e3h] at e
      exact Heap.get?_push_of_some _ ((hs'.2 b (Nat.ne_of_lt (Heap.lt_size e))).trans (Heap.get?_push_of_some _ e))
    have ega : (h'.push go).get? h'.objs.size = some go := by rw [← hgo]; exact Heap.get?_push_size _ rfl
    have isg : ∀ h : Heap, (∀ p ∈ [(h'.objs.size, go)], h.get? p.1 = some p.2) → h.IsGen h'.objs.size s3.gens.size := fun h hp => by
      have := hp _ (List.mem_singleton.mpr rfl)
      rw [← hgo] at this
      exact ⟨_, _, _, this, rfl, rfl, rfl⟩
    generalize hce : genEnv scope (cloFrom X.env.cells scope.names []) s3.heap.objs.size code builtinsNs X.env = ce
    have hce2 : ce = genEnv scope (gcl X scope) s3.heap.objs.size code builtinsNs X.env := hce.symm
    have cesc : ce.scope = scope := by rw [← hce]; rfl
    have ceL : ce.locals = s3.heap.objs.size := by rw [hce2]; rfl
    have ceC : ce.cells = cloFrom X.env.cells scope.names [] := by rw [← hce]; rfl
    have hX0 : ∃ X0 : Around, X.A.in1.in1.over (.compLoop (.GeneratorExp elt [⟨tg, iter, [], 0⟩] scope gpos) 0 (.ref it) .none ce) [] = X0 ∧ Room k X0 ∧ X0.frames = some (ce :: X.stack) := by
      refine ⟨_, rfl, ⟨hr.hd, ?_, ?_⟩, ?_⟩
      · have := hr.dp
        show X.A.depth + 0 + 1 + 3 * k + 5 < _
        omega
      · have := hr.un
        show X.A.units + 1 + 1 + 0 + 3 + 16 * k + 200 < _
        omega
      · show pushEnvs [ce] (pushEnvs [] X.A.frames) = _
        rw [I2.ok.frames]
        rfl
    obtain ⟨A0, hA0, hr0, hf0⟩ := hX0
    have hbr : AllBare (s3.gens.push (.fresh (.compStart (.GeneratorExp elt [⟨tg, iter, [], 0⟩] scope gpos) 0 (.ref it) .none ce))) := I3.bare.push rfl
    have ns5 : (h'.push go).Ns s3.heap.objs.size (fun y => if y = ".0" then some (.ref it) else none) := by
      rw [e3h]
      exact hn'.push _
    have I5 : Inv (gcx X s3 H3 ce fp A0) [] (wipe σ (own.map (·.2))) H3 { s3 with heap := h'.push go, gens := s3.gens.push (.fresh (.compStart (.GeneratorExp elt [⟨tg, iter, [], 0⟩] scope gpos) 0 (.ref it) .none ce)), toks := s3.toks + 1 + 1 + 1 } := by
      rw [hce2] at hf0 ⊢
      exact gen_start I3 ok nc hN f3 hr0.hd hf0 ns5 kp5 (by rw [← hce2]; exact hbr)
    have I6 : Inv (gcx X s3 H3 ce fp A0) [(h'.objs.size, go)] (wipe σ (own.map (·.2))) H3 { s3 with heap := h'.push go, gens := s3.gens.push (.fresh (.compStart (.GeneratorExp elt [⟨tg, iter, [], 0⟩] scope gpos) 0 (.ref it) .none ce)), toks := s3.toks + 1 + 1 + 1 } := by
      refine I5.pins_of fun p hp => ?_
      rw [List.mem_singleton.mp hp]
      refine ⟨ega, I3.hok.fresh (by omega), ?_, ?_, fun v z => by rw [← hgo] at z; cases z⟩
      · show h'.objs.size ≠ ce.locals
        rw [ceL]
        omega
      · exact fun z => I3.nofs (a := h'.objs.size) (by omega) (by
          rcases List.mem_cons.mp (I3.stkSub _ z) with z' | z'
          · have h8 : X.env.locals < s3.heap.objs.size := I3.lt
            exact absurd (Nat.lt_of_lt_of_le h8 (show s3.heap.objs.size ≤ h'.objs.size by omega)) (by rw [← z']; exact Nat.lt_irrefl _)
          · exact z')
    have afp : ∀ p ∈ [(h'.objs.size, go)], p.1 ∉ fp := fun p hp z => by
      rw [List.mem_singleton.mp hp] at z
      have h9 : h'.objs.size < s3.heap.objs.size := (f3 _ z).2
      omega
    have st5 : tn 0 (h'.push go) := T.keep _ _ _ st2 fun b hb o e => kp5 b o (by rw [e3h]; exact keep3 b o (nP b hb) e)
    have loop := seg_gen (X := gcx X s3 H3 ce fp A0) (A₁ := X.A.in1.in1) (p0 := [(h'.objs.size, go)]) (dec := dec) (Q := Q) (σ0 := σ) (vs := own.map (·.2)) (W := W) (pos := gpos) (scope := scope) (iter := iter) (it := it)
      hc (by show ce.scope.isCoroutine = false; rw [cesc]; exact hco) hA0 T (hg s3 H3 ce fp A0 cesc hr0) (he s3 H3 ce fp A0 cesc hr0) rfl afp rfl rfl turn
    refine hQ (gcx X s3 H3 ce fp A0) [(h'.objs.size, go)] h'.objs.size s3.gens.size (m0 + 1) _ _ rfl rfl isg I6.nolimit hbr (isg _ fun p hp => by rw [List.mem_singleton.mp hp]; exact ega) (Array.getElem?_push_size ..) (fun G' hG' => ⟨rfl, ?_⟩) (fun s' σ' H' I' => ?_)
    · -- the generator's start
      have I7 := Inv.regen I6 hG'
      have hh' : (X.A.in1.in1.over (.compStart (.GeneratorExp elt [⟨tg, iter, [], 0⟩] scope gpos) 0 (.ref it) .none ce) []).handled = none := hr.hd
      have lp := loop (m0 + 1) m0 0 H3 { s3 with gens := G', toks := s3.toks + 1 + 1 + 1, heap := h'.push go } { s3 with gens := G', toks := s3.toks + 1 + 1 + 1, heap := h'.push go } (Nat.lt_succ_self _) w0 I7 st5 fun b hb => (f3 b hb).1.1
      show Seg _ X.A.in1.in1 _ _ _ _ _ ((compStart (.GeneratorExp elt [⟨tg, iter, [], 0⟩] scope gpos) 0 (.ref it) .none ce).onRaise (leaving ce)) [] _
      unfold compStart
      rw [Sem.onRaise_eq_wrap]
      show Seg _ X.A.in1.in1 _ _ _ _ _ ((ask >>= _).wrap _ _ _ _) [] _
      refine seg_bind_wrap (wpAny_askSetting ?_)
      split
      · exact seg_again rfl lp
      · first
          | exact seg_bind_wrap (wpAny_rule (seg_bind_wrap (wpAny_standAt (seg_bind_wrap (T.self _ 0 _ _ _ st5 (seg_again rfl lp))))))
          | (refine seg_bind_wrap (wpAny_rule ?_); show Seg _ X.A.in1.in1 _ _ _ _ _ ((standAt iter.pos >>= _).wrap _ _ _ _) [] _; exact seg_bind_wrap (wpAny_standAt (seg_bind_wrap (T.self _ 0 _ _ _ st5 (seg_again rfl lp)))))
    · -- back
      exact I3.call' (ch := fp) I'.os I'.base I'.hok I'.bare fun b hb => ⟨(f3 b hb).1.2.2.2.1, (f3 b hb).1.2.1, (f3 b hb).1.2.2.2.2.1, (f3 b hb).1.2.2.2.2.2⟩
  refine ⟨I2.nolimit, ?_⟩
  cases hf : codeAmong gpos ps.toList with
  | none =>
    refine wpAny_genexprCodeX hcode (cd.code hPs ht) (cd.tab hPs) hf fun c' h' tk hx hge hlt hco' _ htab' _ => ?_
    obtain ⟨o1, vs, f1, tf, fl, tg, inF, tx, tt, op, _, _, _, _, _, _, _, _, _, htr, _⟩ := hco'
    exact cont _ h' tk _ hx htab'.2 ⟨_, rfl⟩ htr
  | some cv =>
    refine wpAny_genexprCode_hit hcode (cd.code hPs ht) hf ?_
    exact cont cv s2.heap s2.toks ps (Heap.ExtBut.refl _ _) hPs ⟨#[], by simp⟩ ht
/-- any(elt for target in iter) -/
theorem pe_any {c P : Addr} {elt tg iter : Expr} {scope : Scope} {own : List (Str × Nat)} {p pos gpos : Pos} {wi : TI} {g : TG} {te : TE} {k : Nat}
    (hr : Room (k + 1) X.A) (hc : X.calm = true) (hN : X.N.Nodup) (hgl : Gl X "any") (hm : X.mg "any" = none) (TB : TabB X.base X.mg c P) (hcode : X.env.code = .ref c) (hi : PI X tg iter wi) (ok : BlkOk X.N X.env.scope scope own)
    (nc : ∀ y ∈ scope.names, y.2 ≠ .cell) (hco : scope.isCoroutine = false) (dot : scope.names.lookup (".0" : Str) = some NameKind.local)
    (hg : ∀ (s : Shared) (H : Hp) (env : Env) (fp : List Addr) (A : Around), env.scope = scope → Room k A → PG (gcx X s H env fp A) tg g)
    (he : ∀ (s : Shared) (H : Hp) (env : Env) (fp : List Addr) (A : Around), env.scope = scope → Room k A → PE (gcx X s H env fp A) elt te)
    (hs : ∀ v, genFold iter X.env v = pure v) :
    PE X (.Call (.Name "any" p) [.GeneratorExp elt [⟨tg, iter, [], 0⟩] scope gpos] [] pos) (tGen P true wi g te (own.map (·.2))) := by
  refine ⟨fun pins s σ H Q I h => ?_⟩
  have hse : starEach [.GeneratorExp elt [⟨tg, iter, [], 0⟩] scope gpos] X.env = (false, eval (.GeneratorExp elt [⟨tg, iter, [], 0⟩] scope gpos) X.env) :: starEach [] X.env := by rfl
  refine wpAny_Call_Name_kw (ld_blt I hgl hm boot_any ?_)
  refine PyProof.Rows.callWith_builtin1 ?_ hse (by rfl)
  rw [hse]
  show wpAny _ _ (spliced ((false, eval (.GeneratorExp elt [⟨tg, iter, [], 0⟩] scope gpos) X.env) :: backTo pos (starEach [] X.env))) _ _ s
  refine Calls.spliced_cons (gen_make hr hc hN TB hcode hi ok nc hco dot hg he hs I h fun Xg p0 a gn n gs s5 e1 e2 isg hl hb hgen hgs hgo back => ?_)
  refine Calls.spliced_nil ?_
  refine call_function_tree F.kind_any F.plain_any F.entry_any (F.args_any1 _) ?_
  unfold Builtin.«any»
  refine wpAny_bind (m := oneArg "any" _) (wpAny_pure ?_)
  refine wpAny_bind (wpAny_pyIter_gen hgen ?_)
  refine wpAny_pure ⟨plainId_quiet F.plain_any_loop _, ?_⟩
  rw [← e1, ← e2] at hgo ⊢
  refine any_loop (Xg := Xg) (p0 := p0) (dec := true) (Q := Q) (g := gn) rfl hr.hd hr.depth isg (fun b s₁ σ' H' I' q => ?_) n gs s5 hl hb hgen hgs hgo
  exact ⟨.bl b, H', back _ _ _ I', rfl, q⟩
/-- all(elt for target in iter) -/
theorem pe_all {c P : Addr} {elt tg iter : Expr} {scope : Scope} {own : List (Str × Nat)} {p pos gpos : Pos} {wi : TI} {g : TG} {te : TE} {k : Nat}
    (hr : Room (k + 1) X.A) (hc : X.calm = true) (hN : X.N.Nodup) (hgl : Gl X "all") (hm : X.mg "all" = none) (TB : TabB X.base X.mg c P) (hcode : X.env.code = .ref c) (hi : PI X tg iter wi) (ok : BlkOk X.N X.env.scope scope own)
    (nc : ∀ y ∈ scope.names, y.2 ≠ .cell) (hco : scope.isCoroutine = false) (dot : scope.names.lookup (".0" : Str) = some NameKind.local)
    (hg : ∀ (s : Shared) (H : Hp) (env : Env) (fp : List Addr) (A : Around), env.scope = scope → Room k A → PG (gcx X s H env fp A) tg g)
    (he : ∀ (s : Shared) (H : Hp) (env : Env) (fp : List Addr) (A : Around), env.scope = scope → Room k A → PE (gcx X s H env fp A) elt te)
    (hs : ∀ v, genFold iter X.env v = pure v) :
    PE X (.Call (.Name "all" p) [.GeneratorExp elt [⟨tg, iter, [], 0⟩] scope gpos] [] pos) (tGen P false wi g te (own.map (·.2))) := by
  refine ⟨fun pins s σ H Q I h => ?_⟩
  have hse : starEach [.GeneratorExp elt [⟨tg, iter, [], 0⟩] scope gpos] X.env = (false, eval (.GeneratorExp elt [⟨tg, iter, [], 0⟩] scope gpos) X.env) :: starEach [] X.env := by rfl
  refine wpAny_Call_Name_kw (ld_blt I hgl hm boot_all ?_)
  refine PyProof.Rows.callWith_builtin1 ?_ hse (by rfl)
  rw [hse]
  show wpAny _ _ (spliced ((false, eval (.GeneratorExp elt [⟨tg, iter, [], 0⟩] scope gpos) X.env) :: backTo pos (starEach [] X.env))) _ _ s
  refine Calls.spliced_cons (gen_make hr hc hN TB hcode hi ok nc hco dot hg he hs I h fun Xg p0 a gn n gs s5 e1 e2 isg hl hb hgen hgs hgo back => ?_)
  refine Calls.spliced_nil ?_
  refine call_function_tree F.kind_all F.plain_all F.entry_all (F.args_all1 _) ?_
  unfold Builtin.«all»
  refine wpAny_bind (m := oneArg "all" _) (wpAny_pure ?_)
  refine wpAny_bind (wpAny_pyIter_gen hgen ?_)
  refine wpAny_pure ⟨plainId_quiet F.plain_all_loop _, ?_⟩
  rw [← e1, ← e2] at hgo ⊢
  refine all_loop (Xg := Xg) (p0 := p0) (dec := false) (Q := Q) (g := gn) rfl hr.hd hr.depth isg (fun b s₁ σ' H' I' q => ?_) n gs s5 hl hb hgen hgs hgo
  exact ⟨.bl b, H', back _ _ _ I', rfl, q⟩
end
end Gx
set_option Elab.async false
set_option linter.all false
set_option maxRecDepth 100000
set_option maxHeartbeats 4000000
/-! t[::-1] of a tuple; t * k for any k from 0. -/
namespace HT
open PySem PySem.Spec PyProof.Rows
section
variable {prog : Program} {w : World} {A : Around} {E : Value → Shared → Prop} {s : Shared}
theorem sliceApplied_rev {sl : Addr} {vs : Value} {n : Nat} {Q : Int × Int × Nat → Shared → Prop} (hs : s.heap.IsSliceOf sl .none .none vs) (ps : IsPart vs (some (-1)))
    (h : Q ((n : Int) - 1, -1, n) s) : wpAny (model prog w) A (Builtin.Slice.sliceApplied (.ref sl) (pure (n : Int))) Q E s := by
  obtain ⟨os, hos, hcs, hds⟩ := id hs
  unfold Builtin.Slice.sliceApplied Builtin.Slice.sliceFields
  refine wpAny_bind (wpAny_bind (wpAny_field hos hds (x := .none) rfl (wpAny_bind (wpAny_field hos hds (x := .none) rfl (wpAny_bind (wpAny_field hos hds (x := vs) rfl (wpAny_pure ?_)))))))
  refine wpAny_bind (slicePart_ ps ?_)
  show wpAny _ _ (if ((-1 : Int) == 0) = true then _ else _) _ _ s
  rw [if_neg (by decide)]
  refine wpAny_bind (slicePart_none (wpAny_bind (slicePart_none (wpAny_bind (wpAny_pure ?_)))))
  show wpAny _ _ (match Builtin.Slice.sliceAdjust none none (-1) (n : Int) with | (lo, hi) => pure (lo, (-1 : Int), Builtin.Slice.slicePlaces lo hi (-1))) _ _ s
  have e : Builtin.Slice.sliceAdjust none none (-1) (n : Int) = ((n : Int) - 1, -1) := rfl
  rw [e]
  have e2 : Builtin.Slice.slicePlaces ((n : Int) - 1) (-1) (-1) = n := by
    unfold Builtin.Slice.slicePlaces
    have h1 : ¬ (-1 : Int) > 0 := by omega
    simp only [h1, if_false]
    split <;> (try simp) <;> omega
  show wpAny _ _ (pure ((n : Int) - 1, (-1 : Int), Builtin.Slice.slicePlaces ((n : Int) - 1) (-1) (-1))) _ _ s
  rw [e2]
  exact wpAny_pure h
theorem fm_congr {α β : Type} {f g : α → Option β} : ∀ {l : List α}, (∀ x ∈ l, f x = g x) → l.filterMap f = l.filterMap g
  | [], _ => rfl
  | x :: r, h => by
    rw [List.filterMap_cons, List.filterMap_cons, h x (List.mem_cons_self ..), fm_congr fun y hy => h y (List.mem_cons_of_mem _ hy)]
theorem pick_rev (xs : Array Value) : ((List.range xs.size).filterMap fun (m : Nat) => xs[(((xs.size : Nat) : Int) - 1 + (m : Int) * -1).toNat]?).toArray = xs.toList.reverse.toArray := by
  have h := PySem.W.krv_pick xs
  unfold slicePick at h
  rw [PySem.W.krv_bounds] at h
  have h : ((sliceRange (((xs.size : Nat) : Int) - 1) (-1) (-1)).filterMap (xs[·]?)).toArray = _ := h
  rw [PySem.W.krv_sliceRange, List.filterMap_map] at h
  rw [← h]
  congr 1
  apply fm_congr
  intro k hk
  have := List.mem_range.mp hk
  have e : (((xs.size : Nat) : Int) - 1 + (k : Int) * -1).toNat = xs.size - 1 - k := by omega
  rw [e]
  rfl
theorem getItem_tuple_rev {t sl : Addr} {items : Array Value} {vs : Value} {Q : Value → Shared → Prop} (ht : IsTup s.heap t items) (hs : s.heap.IsSliceOf sl .none .none vs) (ps : IsPart vs (some (-1)))
    (h : Q (.ref s.heap.objs.size) { s with heap := s.heap.push { cls := .type "tuple", data := .seq items.toList.reverse.toArray } })
    (hsz : items.size ≤ sizeLine) : wpAny (model prog w) A (getItem (.ref t) (.ref sl)) Q E s := by
  have htake : sizeOk (.seq items.toList.reverse.toArray) := by
    show items.toList.reverse.toArray.size ≤ sizeLine
    simpa using hsz
  obtain ⟨os, hos, hcs, hds⟩ := id hs
  have hTs : s.TypeIs (.ref sl) "slice" := ⟨os, hos, hcs⟩
  unfold getItem
  try with_reducible refine wpAny_holding ?_
  first | refine wpAny_bind (wpAny_pure ?_) | skip
  refine wpAny_bind (wpAny_sequenceKey ht.typeIs (by decide) ?_)
  refine wpAny_bind (wpAny_callSpecial?_slot (name := Str.ofString "__getitem__") ht.typeIs PyProof.Rows.slot_tuple_getitem
    (wpAny_call_entry PyProof.Rows.slot_tuple_getitem ht.typeIs entry_tuple_getitem ?_ (args_tuple_getitem _ _)))
  show wpAny _ _ (Builtin.Tuple.tupleItemsOf (.ref t) >>= _) _ _ s
  refine wpAny_bind (tupleItemsOf_ ht ?_)
  refine wpAny_bind (wpAny_typeOf hTs ?_)
  rw [if_pos (by decide)]
  refine wpAny_bind (sliceApplied_rev hs ps ?_)
  show wpAny _ _ (if ((((items.size : Nat) : Int) - 1) == 0 && (-1 : Int) == 1 && items.size == items.size) = true then _ else _) _ _ s
  rw [if_neg (by simp), pick_rev]
  first
    | exact wpAny_bind (m := Builtin.Tuple.tupleExact _) (wpAny_newObj_type (wpAny_pure ⟨_, rfl, wpAny_pure h⟩) htake)
    | exact wpAny_bind (m := Builtin.Tuple.tupleExact _) (wpAny_newObj_type (wpAny_bind (wpAny_pure (wpAny_pure ⟨_, rfl, wpAny_pure h⟩))) htake)
    | exact wpAny_bind (wpAny_bind (m := Builtin.Tuple.tupleExact _) (wpAny_newObj_type (wpAny_pure (wpAny_pure ⟨_, rfl, wpAny_pure h⟩)) htake))
    | exact wpAny_bind (wpAny_bind (m := Builtin.Tuple.tupleExact _) (wpAny_newObj_type (wpAny_pure ⟨_, rfl, wpAny_pure h⟩) htake))
end
end HT
namespace L2
open PySem PySem.Spec PyProof.Rows
def tRevT (K : PySem.W.Frag) (te : TE) : TE := fun σ H Q => te σ H fun x H1 => ∃ a xs, x = .ref a ∧ SqT K H1 a xs ∧ ∀ p, H1 p = none → Q (.ref p) (upd H1 p (.tup xs.reverse))
theorem pe_revT {X : Cx} {e : Expr} {te : TE} {k : Nat} {p1 p2 p3 pos : Pos} (he : PE X e te) : PE X (.Subscript e (.Slice none none (some (.UnaryOp .USub (.Constant (.int 1) k p1) p2)) p3) pos) (tRevT X.K te) := by
  refine ⟨fun pins s σ H Q I h => ?_⟩
  refine Subscript_ (thn (he.run pins s σ H _ I h) fun v s1 ⟨x, H1, I1, r1, q1⟩ => ?_)
  obtain ⟨a, xs, ex, hx, q⟩ := q1
  subst ex
  cases r1
  have hst : PO X (some (.UnaryOp .USub (.Constant (.int 1) k p1) p2)) (tPart (tUn (rU fun i => .int (-i)) (tC (.int 1)))) := po_some (pe_un un_neg pe_int)
  refine wpAny_Slice (thn (po_none.run pins s1 σ H1 (fun o H2 => o = none ∧ H2 = H1) I1 ⟨rfl, rfl⟩) fun vl s2 ⟨l, H2, I2, pl, el, e2⟩ => ?_)
  subst el e2
  refine thn (po_none.run pins s2 σ H2 (fun o H3 => o = none ∧ H3 = H2) I2 ⟨rfl, rfl⟩) fun vu s3 ⟨u, H3, I3, pu, eu, e3⟩ => ?_
  subst eu e3
  refine thn (hst.run pins s3 σ H3 (fun o H4 => o = some (-1) ∧ H4 = H3) I3 ⟨1, rfl, -1, rfl, rfl, rfl⟩) fun vs s4 ⟨o, H4, I4, ps, eo, e4⟩ => ?_
  subst eo e4
  cases pl
  cases pu
  have I5 : Inv X pins σ H4 { s4 with heap := s4.heap.push { cls := .type "slice", data := .fields #[.none, .none, vs] } } := I4.kept (t' := s4.toks) fun b ob q => Heap.get?_push_of_some _ q
  obtain ⟨its, r, ht, hz⟩ := I5.tuple hx
  have ht : IsTup (s4.heap.push { cls := .type "slice", data := .fields #[.none, .none, vs] }) a its.toArray := ht
  have hlen := r.length
  show wpAny (model X.prog X.w) X.A (subscriptTail e (.Slice none none (some (.UnaryOp .USub (.Constant (.int 1) k p1) p2)) p3) (.ref a) (.ref s4.heap.objs.size)) (EP X pins σ Q) X.xe { s4 with heap := s4.heap.push { cls := .type "slice", data := .fields #[.none, .none, vs] } }
  refine tail_any (ops := [.ref a, .ref s4.heap.objs.size]) (T := "tuple") ht.typeIs PyProof.Rows.slot_tuple_getitem.lookup ?_ (by with_unfolding_all rfl)
  refine HT.getItem_tuple_rev ht (Heap.IsSliceOf.new _ .none .none vs) ps ?_ (by rw [List.size_toArray]; omega)
  refine ⟨.ref _, _, I5.laid (t' := s4.toks) (o := .tup xs.reverse) (fun b ob q => Heap.get?_push_of_some _ q) (Nat.le_refl _) ?_, rfl, q _ (I5.hok.fresh (Nat.le_refl _))⟩
  exact ⟨by rw [List.length_reverse]; exact hz, _, r.reverse, IsTup.new _ _⟩
/-! ### t * k, k at most 1, or t empty -/
theorem tuple_mul1 (l : Addr) (items : Array Value) (n : Nat) (dd : Option Addr) (sl : Array (Option Value)) (x : Int) (u : Tok) (c0 : (decide (x < -(2 ^ 63)) || decide (x ≥ 2 ^ 63)) = false) (c1 : (items.isEmpty || x == 1) = true) :
    Meets (Builtin.«tuple.__mul__» ⟨[.ref l, .int x u], []⟩) (fun _ R s => s.heap.get? l = some { cls := .type "tuple", dict := dd, data := .seq items n, slots := sl } ∧ R (.ok (.ret (Value.ref l))) s) :=
  .of_wp fun prog w A R s h => by
    obtain ⟨hp, g, d, tk, os⟩ := s
    obtain ⟨hl, h⟩ := h
    have f1 := AutoSeq1.idx_int
    wp_walk using wpAny_loadPart' hl
    repeat (first
      | (refine wpAny_ite_false (decide_eq_false (by rw [c0]; exact Bool.false_ne_true)) ?_; wp_walk using wpAny_loadPart' hl)
      | (refine wpAny_ite_true (decide_eq_true c1) ?_; wp_walk using wpAny_loadPart' hl))
    exact ⟨_, rfl, h⟩
theorem tuple_mul0 (l : Addr) (items : Array Value) (n : Nat) (dd : Option Addr) (sl : Array (Option Value)) (u : Tok) (c1 : (items.isEmpty || (0 : Int) == 1) = false) :
    Meets (Builtin.«tuple.__mul__» ⟨[.ref l, .int 0 u], []⟩) (fun _ R s => s.heap.get? l = some { cls := .type "tuple", dict := dd, data := .seq items n, slots := sl } ∧
      R (.ok (.ret (Value.ref s.heap.objs.size))) { s with heap := s.heap.push { cls := Value.type "tuple", data := Data.seq #[] } }) :=
  .of_wp fun prog w A R s h => by
    obtain ⟨hp, g, d, tk, os⟩ := s
    obtain ⟨hl, h⟩ := h
    have f1 := AutoSeq1.idx_int
    wp_walk using wpAny_loadPart' hl
    repeat (first
      | (refine wpAny_ite_false (decide_eq_false (by rw [c1]; exact Bool.false_ne_true)) ?_; wp_walk using wpAny_loadPart' hl)
      | (refine wpAny_ite_false (decide_eq_false (by decide)) ?_; wp_walk using wpAny_loadPart' hl)
      | (refine wpAny_ite_true (decide_eq_true (by simp)) ?_; wp_walk using wpAny_loadPart' hl))
    exact ⟨_, rfl, h⟩
section
variable {X : Cx}
theorem op_rep1 : OpR X (binaryOp .Mult) (fun x y H Q => ∃ l k xs, x = .ref l ∧ y = .int k ∧ SqT X.K H l xs ∧ (xs = [] ∨ k = 1) ∧ 0 ≤ k ∧ k ≤ 1000 ∧ Q (.ref l) H) := by
  intro pins s σ H x y v u Q I rx ry h
  obtain ⟨l, k, xs, rfl, rfl, hT, hk, h1, h2, q⟩ := h
  cases rx
  obtain ⟨t, rfl⟩ := ry
  obtain ⟨its, r, ⟨⟨cls, dd, data, sl⟩, ho, hc, n, hd⟩, hs⟩ := I.tuple hT
  simp only at hc hd
  subst hc hd
  have hle : its.length = xs.length := r.length.symm
  have c0 : (decide (k < -(2 ^ 63)) || decide (k ≥ 2 ^ 63)) = false := by
    rw [decide_eq_false (by omega), decide_eq_false (by omega)] <;> rfl
  have c1 : (its.toArray.isEmpty || k == 1) = true := by
    rcases hk with rfl | rfl
    · have : its = [] := List.eq_nil_of_length_eq_zero hle
      subst this; rfl
    · simp
  exact wpAny_binaryOp_repeat_ref (T := "tuple") (U := "int") (by decide) ⟨_, ho, rfl⟩ (fun s' => typeIs_int s' k t) noFill_tuple_mul F.fills_int_mul F.slot_int_rmul repeat_tuple F.slot_int_index.lookup
    (call_meets F.slot_int_rmul (typeIs_int s k t) F.entry_int_rmul (F.args_int_rmul_2 _ _) (int_rmul_tuple k t l its.toArray n dd sl)
      ⟨ho, rfl, ⟨_, ho, rfl⟩, call_meets F.slot_tuple_mul ⟨_, ho, rfl⟩ F.entry_tuple_mul (F.args_tuple_mul_2 _ _) (tuple_mul1 l its.toArray n dd sl k t c0 c1) ⟨ho, ⟨.ref l, H, I, rfl, q⟩⟩⟩)
theorem op_rep0 : OpR X (binaryOp .Mult) (fun x y H Q => ∃ l xs, x = .ref l ∧ y = .int 0 ∧ SqT X.K H l xs ∧ xs ≠ [] ∧ ∀ p, H p = none → Q (.ref p) (upd H p (.tup []))) := by
  intro pins s σ H x y v u Q I rx ry h
  obtain ⟨l, xs, rfl, rfl, hT, hk, q⟩ := h
  cases rx
  obtain ⟨t, rfl⟩ := ry
  obtain ⟨its, r, ⟨⟨cls, dd, data, sl⟩, ho, hc, n, hd⟩, hs⟩ := I.tuple hT
  simp only at hc hd
  subst hc hd
  have hle : its.length = xs.length := r.length.symm
  have hn : its ≠ [] := fun e => hk (by
    rw [e] at hle
    exact List.eq_nil_of_length_eq_zero hle.symm)
  have c1 : (its.toArray.isEmpty || (0 : Int) == 1) = false := by
    cases its with
    | nil => exact absurd rfl hn
    | cons a b => rfl
  exact wpAny_binaryOp_repeat_ref (T := "tuple") (U := "int") (by decide) ⟨_, ho, rfl⟩ (fun s' => typeIs_int s' 0 t) noFill_tuple_mul F.fills_int_mul F.slot_int_rmul repeat_tuple F.slot_int_index.lookup
    (call_meets F.slot_int_rmul (typeIs_int s 0 t) F.entry_int_rmul (F.args_int_rmul_2 _ _) (int_rmul_tuple 0 t l its.toArray n dd sl)
      ⟨ho, rfl, ⟨_, ho, rfl⟩, call_meets F.slot_tuple_mul ⟨_, ho, rfl⟩ F.entry_tuple_mul (F.args_tuple_mul_2 _ _) (tuple_mul0 l its.toArray n dd sl t c1) ⟨ho,
        ⟨.ref s.heap.objs.size, _, I.laid (t' := s.toks) (o := .tup []) (fun b ob q => Heap.get?_push_of_some _ q) (Nat.le_refl _) ⟨Nat.zero_le _, [], .nil, IsTup.new _ _⟩, rfl, q _ (I.hok.fresh (Nat.le_refl _))⟩⟩⟩)
end
end L2
set_option Elab.async false
set_option linter.all false
set_option maxRecDepth 100000
set_option maxHeartbeats 4000000
/-! enumerate over a tuple. -/
namespace EnT
open PySem PySem.Spec PyProof.Rows L2

theorem meets_newT (l : Addr) (items : Array Value) :
    Meets (Builtin.«enumerate.__new__» ⟨[.type "enumerate", .ref l], []⟩) (fun _ R s => s.heap.IsTuple l items ∧
      R (.ok (.ret (.ref (s.heap.push { cls := .type "tuple_iterator", data := .fields #[.ref l, .int 0 0] }).objs.size)))
        { s with heap := (s.heap.push { cls := .type "tuple_iterator", data := .fields #[.ref l, .int 0 0] }).push { cls := .type "enumerate", data := .fields #[.none, .bool false, .ref s.heap.objs.size, rawInt 0, .none, .none] } }) :=
  .of_wp fun prog w A R s h => by
    obtain ⟨hp, g, d, tk, os⟩ := s; obtain ⟨hl, h⟩ := h
    have hsub := sub_enumerate
    have hL : Heap.IsTuple (Shared.heap ⟨hp, g, d, tk, os⟩) l items := hl
    wp_walk using wpAny_pyIter_tuple hL
    refine wpAny_stack_any fun st => wpAny_pure ?_
    split
    · rename_i c _ _ _ _ _
      cases (c == Value.type "enumerate")
      · wp_walk using wpAny_pyIter_tuple hL
        exact ⟨_, rfl, h⟩
      · wp_walk using wpAny_pyIter_tuple hL
        exact ⟨_, rfl, h⟩
    · wp_walk using wpAny_pyIter_tuple hL
      exact ⟨_, rfl, h⟩
section
variable {prog : Program} {w : World} {A : Around} {E : Value → Shared → Prop} {s : Shared}
theorem call_enumT {l : Addr} {items : Array Value} {Q : Value → Shared → Prop} (hL : s.heap.IsTuple l items)
    (h : ∀ h', IsEnum h' (s.heap.objs.size + 1) s.heap.objs.size 0 .none → h'.IsTupleIter s.heap.objs.size l 0 → h'.objs.size = s.heap.objs.size + 2 →
      (∀ b o, s.heap.get? b = some o → h'.get? b = some o) → Q (.ref (s.heap.objs.size + 1)) { s with heap := h' }) :
    wpAny (model prog w) A (call (.type "enumerate") [.ref l]) Q E s := by
  refine callType_new F.called_enumerate (by decide) (F.typeCall_enumerate_1 _) (F.newCall_enumerate_1 _) (fun obj => F.args_object_init_2 obj _) F.entry_enumerate_new
    (meets_newT l items) ⟨hL, ?_⟩
  have hz : (s.heap.push { cls := .type "tuple_iterator", data := .fields #[.ref l, .int 0 0] }).objs.size = s.heap.objs.size + 1 := Heap.size_push ..
  show _ ∧ _
  rw [hz]
  have he : IsEnum ((s.heap.push { cls := .type "tuple_iterator", data := .fields #[.ref l, .int 0 0] }).push
      { cls := .type "enumerate", data := .fields #[.none, .bool false, .ref s.heap.objs.size, rawInt 0, .none, .none] }) (s.heap.objs.size + 1) s.heap.objs.size 0 .none := by
    have := Heap.get?_push_size (s.heap.push { cls := .type "tuple_iterator", data := .fields #[.ref l, .int 0 0] })
      (o := { cls := .type "enumerate", data := .fields #[.none, .bool false, .ref s.heap.objs.size, rawInt 0, .none, .none] }) rfl
    rw [hz] at this; exact this
  refine ⟨⟨_, he, rfl⟩, h _ he ⟨_, Heap.get?_push_of_some _ (Heap.get?_push_size _ rfl), rfl, rfl⟩ (by rw [Heap.size_push, hz]) fun b o x => Heap.get?_push_of_some _ (Heap.get?_push_of_some _ x)⟩
end
/-- the tuple at a, each item in a new pair -/
def IteT (K : PySem.W.Frag) (a : Addr) : It :=
  ⟨fun i H => ∃ (xs : List V) (x : V), SqT K H a xs ∧ xs[i]? = some x, fun i H v H' => ∃ T x, v = .ref T ∧ H T = none ∧ H' = upd H T (.tup [.int (i : Nat), x]) ∧ ∀ xs, SqT K H a xs → xs[i]? = some x, fun i H => ∃ xs : List V, SqT K H a xs ∧ xs.length ≤ i⟩
theorem turn_enumT {P : Program} {w : World} {K : PySem.W.Frag} {elts : List Expr} {kk : Nat} {tpos : Pos} (a e it : Addr) (hae : a ≠ e) (hai : a ≠ it) :
    Turn P w K (.Tuple elts kk tpos) (IteT K a) [e, it] e (fun i h => (∃ old, IsEnum h e it ((i : Nat) : Int) old) ∧ h.IsTupleIter it a i ∧ e ≠ it) where
  mem := by simp
  obj := fun i h st b hb => by
    obtain ⟨⟨old, he⟩, ⟨o, ho, hc, hd⟩, _⟩ := st
    have e' : b = e ∨ b = it := by simpa using hb
    rcases e' with z | z
    · rw [z]; exact ⟨_, he, fun v q => nomatch q⟩
    · rw [z]; exact ⟨o, ho, fun v q => by rw [hd] at q; cases q⟩
  keep := fun i h h' st k => let ⟨⟨old, he⟩, hi, hne⟩ := st; ⟨⟨old, k e (by simp) _ he⟩, hi.at fun o q => k it (by simp) o q, hne⟩
  item := by
    intro X hP hw hK hc i pins s σ H E I hf st hg
    subst hP hw hK
    obtain ⟨⟨old, he⟩, hit, hne⟩ := st
    obtain ⟨xs, x, hq, hx⟩ := hg
    obtain ⟨its, rv, p, hz⟩ := I.tuple hq
    obtain ⟨u, hu, ru⟩ := rv.get hx
    have hel : e < s.heap.objs.size := Heap.lt_size he
    have hil : it < s.heap.objs.size := by obtain ⟨_, q, _⟩ := hit; exact Heap.lt_size q
    have p : s.heap.IsTuple a its.toArray := p
    have hl : i < its.toArray.size := by
      have := (List.getElem?_eq_some_iff.mp hu).1
      simpa using this
    have D : Draws X.prog X.w X.A.in1 it [it, a] its.toArray.size (fun i v => its.toArray[i]? = some v) (fun i h => h.IsTupleIter it a i ∧ h.IsTuple a its.toArray) := Draws.tuple (show X.A.in1.handled = none from I.ok.hd hc) it a hai its.toArray
    refine wpAny_pyNext_enum_itemD D he ⟨hit, p⟩ hl hne (fun z => by
      have z' : e = it ∨ e = a := by simpa using z
      rcases z' with z | z
      · exact hne z
      · exact hae z.symm) fun u' h' tk hu' ho st' hT hsz hk => ?_
    have eu : u' = u := by
      have : its[i]? = some u' := by simpa using hu'
      rw [hu] at this; cases this; rfl
    subst eu
    refine ⟨_, rfl, wpAny_letOwnedTupleGo_enum (s := { s with heap := h', toks := tk + 1 }) ho fun h'' he' sb => ?_⟩
    have hT2 : h''.get? s.heap.objs.size = some { cls := .type "tuple", data := .seq #[.int i tk, u'] } := (sb.2 _ (Nat.ne_of_gt hel)).trans hT
    have new : ObjOk X.prog X.w (upd H s.heap.objs.size (.tup [.int (i : Nat), x])) h'' s.heap.objs.size (.tup [.int (i : Nat), x]) :=
      ⟨by show 2 ≤ sizeLine; decide, [.int i tk, u'], .cons ⟨_, rfl⟩ (.cons ru .nil), ⟨_, hT2, rfl, _, rfl⟩⟩
    have I1 : Inv X pins σ (upd H s.heap.objs.size (.tup [.int (i : Nat), x])) { s with heap := h'', toks := tk + 1 } :=
      I.turnedNew (ch := [e, it]) (fun b ob hb q => (sb.2 b (fun z => hb (by simp [z]))).trans (hk b ob (fun z => hb (by simp [z])) (fun z => hb (by simp [z])) q)) hf (Nat.le_refl _) new
    refine ⟨.ref s.heap.objs.size, _, I1, rfl, ⟨_, x, rfl, I.hok.fresh (Nat.le_refl _), rfl, fun ys hy => by rw [I.tuple_inj hy hq]; exact hx⟩, ⟨⟨u', ?_⟩, st'.1.at fun o q => (sb.2 it (Ne.symm hne)).trans q, hne⟩, fun b hb => ?_⟩
    · have e1 : ((i + 1 : Nat) : Int) = (i : Int) + 1 := by omega
      rw [e1]; exact he'
    · have hb' : b < s.heap.objs.size := by
        have e' : b = e ∨ b = it := by simpa using hb
        rcases e' with z | z
        · rw [z]; exact hel
        · rw [z]; exact hil
      rw [upd_ne (Nat.ne_of_lt hb')]
      exact (hf b hb).1
  done := by
    intro X hP hw hK hc i pins s σ H E I hf st hg
    subst hP hw hK
    obtain ⟨⟨old, he⟩, hit, hne⟩ := st
    obtain ⟨xs, hq, hx⟩ := hg
    obtain ⟨its, rv, p, hz⟩ := I.tuple hq
    obtain ⟨f0, f1, f2, f3, f4, f5⟩ := hf it (by simp)
    have hl := rv.length
    have p : s.heap.IsTuple a its.toArray := p
    have hT : s.TypeIs (.ref e) "enumerate" := ⟨_, he, rfl⟩
    unfold pyNext
    refine wpAny_bind (wpAny_attempt (wpAny_callSpecial?_slot (name := Str.ofString "__next__") hT F.slot_enumerate_next
      (wpAny_call_entry F.slot_enumerate_next hT F.entry_enumerate_next ?_ (F.args_enumerate_next_1 _))))
    show wpAny _ _ (field (.ref e) 2 >>= _) _ _ _
    refine wpAny_bind (wpAny_field he rfl (x := .ref it) rfl ?_)
    refine wpAny_bind (wpAny_nextOf_tuple_end (I.ok.hd hc) hit p (by simp; omega) fun h' x he' hx' => ?_)
    obtain ⟨o, ho, hc'⟩ := hx'
    refine wpAny_bind (wpAny_isInstance (T := "StopIteration") (b := true) ⟨o, ho, hc'⟩ isSubtype_stop ?_)
    exact wpAny_pure ⟨rfl, I.turned (t' := s.toks) (fun b o hb q => he' b o hb q) f0 f1 f3 f4 f5⟩
  self := fun A i s Q E st h => let ⟨⟨_, he⟩, _⟩ := st; wpAny_pyIter_enum he h
/-- over a list or a tuple -/
def iEnumA (K : PySem.W.Frag) (ta : TA) : TI := fun σ H R => ta σ H fun vs H1 => ∃ a, vs = [.ref a] ∧ ((∃ xs, SqL K H1 a xs ∧ R (Ite K a) H1) ∨ (∃ xs, SqT K H1 a xs ∧ R (IteT K a) H1))
theorem pi_enumA {X : Cx} {e : Expr} {ta : TA} {p pos tpos : Pos} {elts : List Expr} {kk : Nat} (hg : Gl X "enumerate") (hm : X.mg "enumerate" = none) (ha : PA X [e] ta) (hs : starEach [e] X.env = [(false, eval e X.env)] := by rfl) :
    PI X (.Tuple elts kk tpos) (.Call (.Name "enumerate" p) [e] [] pos) (iEnumA X.K ta) := by
  refine ⟨fun pins s σ H R I h => ?_⟩
  refine Call_ (ld_blt I hg hm boot_enumerate (PyProof.Rows.callWith_type1 (thn (ha.run pos pins s σ H _ I h) fun us s1 ⟨vs, H1, I1, r1, q1⟩ => ?_) hs rfl))
  obtain ⟨a, ex, q1⟩ := q1
  subst ex
  cases r1 with
  | cons r rr =>
    cases rr
    cases r
    have fr : ∀ b ∈ [s1.heap.objs.size + 1, s1.heap.objs.size], FpOk X pins H1 b := fun b hb => by
      have e' : b = s1.heap.objs.size + 1 ∨ b = s1.heap.objs.size := by simpa using hb
      have hle : s1.heap.objs.size ≤ b := by
        rcases e' with z | z
        · rw [z]; exact Nat.le_add_right _ _
        · rw [z]; exact Nat.le_refl _
      exact I1.fpOk hle (I1.hok.fresh hle)
    rcases q1 with ⟨xs, hq, q⟩ | ⟨xs, hq, q⟩
    · obtain ⟨its, rv, p', hz⟩ := I1.list hq
      refine call_enumerate_list p'.isList fun h' he hit hsz hk => wpAny_pyIter_enum he ?_
      have I2 : Inv X pins σ H1 { s1 with heap := h' } := I1.kept (t' := s1.toks) hk
      exact ⟨s1.heap.objs.size + 1, [s1.heap.objs.size + 1, s1.heap.objs.size], _, _, H1, rfl, I2, turn_enum a (s1.heap.objs.size + 1) s1.heap.objs.size, ⟨⟨.none, he⟩, hit, Nat.succ_ne_self _⟩, fr, q⟩
    · obtain ⟨its, rv, p', hz⟩ := I1.tuple hq
      have p' : s1.heap.IsTuple a its.toArray := p'
      have la : a < s1.heap.objs.size := by obtain ⟨_, q, _⟩ := p'; exact Heap.lt_size q
      refine call_enumT p' fun h' he hit hsz hk => wpAny_pyIter_enum he ?_
      have I2 : Inv X pins σ H1 { s1 with heap := h' } := I1.kept (t' := s1.toks) hk
      exact ⟨s1.heap.objs.size + 1, [s1.heap.objs.size + 1, s1.heap.objs.size], _, _, H1, rfl, I2, turn_enumT a (s1.heap.objs.size + 1) s1.heap.objs.size (Nat.ne_of_lt (Nat.lt_succ_of_lt la)) (Nat.ne_of_lt la), ⟨⟨.none, he⟩, hit, Nat.succ_ne_self _⟩, fr, q⟩
end EnT
set_option Elab.async false
set_option linter.all false
set_option maxRecDepth 100000
set_option maxHeartbeats 4000000
/-! Data by value; how it lies in the abstract heap. -/
namespace Py
open PySem PySem.Spec PyProof.Rows L2 GxR

/-- data: tuples and lists by their items, an object that may change by its number -/
inductive D where
  | non | bl (b : Bool) | int (i : Int) | str (x : Str) | tup (ds : List D) | lst (ds : List D) | obj (n : Nat) | scr (ns : List Int) | cel (n : Nat)
/-- what a slot holds: nothing known; data that stays; a list of its own, which may still change -/
inductive Sl where
  | un | v (d : D) | own (ds : List D)
/-- an object that may change -/
inductive Cell where
  | box (k : Nat)
abbrev Gs := List (Addr × Addr)
abbrev Ro := List Sl
abbrev Ss := List Cell

def getS : Ro → Nat → Sl
  | [], _ => .un
  | x :: _, 0 => x
  | _ :: r, n + 1 => getS r n
theorem getS_set : ∀ (ρ : Ro) (i j : Nat) (x : Sl), getS (ρ.set i x) j = if i = j ∧ i < ρ.length then x else getS ρ j
  | [], i, j, x => by simp [getS]
  | y :: r, 0, 0, x => by simp [getS]
  | y :: r, 0, j + 1, x => by simp [getS]
  | y :: r, i + 1, 0, x => by simp [getS]
  | y :: r, i + 1, j + 1, x => by
    show getS (r.set i x) j = _
    rw [getS_set r i j x]
    by_cases h : i = j ∧ i < r.length
    · rw [if_pos h, if_pos ⟨by omega, by simp; omega⟩]
    · rw [if_neg h, if_neg (fun z => h ⟨by omega, by simp at z; omega⟩)]; rfl
theorem getS_lt : ∀ {ρ : Ro} {i : Nat}, getS ρ i ≠ .un → i < ρ.length
  | [], i, h => by simp [getS] at h
  | _ :: _, 0, _ => by simp
  | _ :: r, i + 1, h => by
    have := getS_lt (ρ := r) (i := i) h
    simp; omega

/-! ### how data lies -/
mutual
inductive Rp (K : PySem.W.Frag) (F : Hp) (G : Gs) : V → D → Prop
  | non : Rp K F G .non .non
  | bl (b : Bool) : Rp K F G (.bl b) (.bl b)
  | int (i : Int) : Rp K F G (.int i) (.int i)
  | str (x : Str) : Rp K F G (.str x) (.str x)
  | tup {a : Addr} {xs : List V} {ds : List D} : SqT K F a xs → RpAll K F G xs ds → Rp K F G (.ref a) (.tup ds)
  | lst {a : Addr} {xs : List V} {ds : List D} : F a = some (.lst xs) → RpAll K F G xs ds → Rp K F G (.ref a) (.lst ds)
  | obj {n : Nat} {p : Addr × Addr} : G[n]? = some p → Rp K F G (.ref p.1) (.obj n)
  | scr {a : Addr} {ns : List Int} : SqL K F a (ns.map V.int) → Rp K F G (.ref a) (.scr ns)
  | cel {n : Nat} {p : Addr × Addr} : G[n]? = some p → Rp K F G (.ref p.2) (.cel n)
inductive RpAll (K : PySem.W.Frag) (F : Hp) (G : Gs) : List V → List D → Prop
  | nil : RpAll K F G [] []
  | cons {v : V} {vs : List V} {d : D} {ds : List D} : Rp K F G v d → RpAll K F G vs ds → RpAll K F G (v :: vs) (d :: ds)
end
structure Ext (F : Hp) (G : Gs) (F' : Hp) (G' : Gs) : Prop where
  f : ∀ a o, F a = some o → F' a = some o
  g : ∃ g, G' = G ++ g
theorem Ext.refl (F : Hp) (G : Gs) : Ext F G F G := ⟨fun _ _ h => h, [], by simp⟩
theorem Ext.trans {F G F' G' F'' G''} (a : Ext F G F' G') (b : Ext F' G' F'' G'') : Ext F G F'' G'' :=
  ⟨fun x o h => b.f x o (a.f x o h), let ⟨g, h⟩ := a.g; let ⟨g', h'⟩ := b.g; ⟨g ++ g', by rw [h', h, List.append_assoc]⟩⟩
theorem Ext.get {F G F' G'} (x : Ext F G F' G') {n : Nat} {p : Addr × Addr} (h : G[n]? = some p) : G'[n]? = some p := by
  obtain ⟨g, rfl⟩ := x.g
  have := (List.getElem?_eq_some_iff.mp h).1
  rw [List.getElem?_append_left this, h]
theorem SqT.ext {K : PySem.W.Frag} {F F' : Hp} {a : Addr} {xs : List V} (f : ∀ a o, F a = some o → F' a = some o) : SqT K F a xs → SqT K F' a xs
  | .inl (.inl h) => .inl (.inl (f _ _ h))
  | .inl (.inr ⟨o, h⟩) => .inl (.inr ⟨o, f _ _ h⟩)
  | .inr h => .inr h
theorem SqL.ext {K : PySem.W.Frag} {F F' : Hp} {a : Addr} {xs : List V} (f : ∀ a o, F a = some o → F' a = some o) : SqL K F a xs → SqL K F' a xs
  | .inl (.inl h) => .inl (.inl (f _ _ h))
  | .inl (.inr ⟨o, h⟩) => .inl (.inr ⟨o, f _ _ h⟩)
  | .inr h => .inr h
mutual
theorem Rp.ext {K : PySem.W.Frag} {F F' : Hp} {G G' : Gs} (x : Ext F G F' G') : ∀ {v : V} {d : D}, Rp K F G v d → Rp K F' G' v d
  | _, _, .non => .non
  | _, _, .bl b => .bl b
  | _, _, .int i => .int i
  | _, _, .str s => .str s
  | _, _, .tup h r => .tup (SqT.ext x.f h) (RpAll.ext x r)
  | _, _, .lst h r => .lst (x.f _ _ h) (RpAll.ext x r)
  | _, _, .obj h => .obj (x.get h)
  | _, _, .scr h => .scr (SqL.ext x.f h)
  | _, _, .cel h => .cel (x.get h)
theorem RpAll.ext {K : PySem.W.Frag} {F F' : Hp} {G G' : Gs} (x : Ext F G F' G') : ∀ {vs : List V} {ds : List D}, RpAll K F G vs ds → RpAll K F' G' vs ds
  | _, _, .nil => .nil
  | _, _, .cons h r => .cons (Rp.ext x h) (RpAll.ext x r)
end
section
variable {K : PySem.W.Frag} {F : Hp} {G : Gs}
theorem RpAll.length : ∀ {vs : List V} {ds : List D}, RpAll K F G vs ds → vs.length = ds.length
  | _, _, .nil => rfl
  | _, _, .cons _ r => by simp [RpAll.length r]
theorem RpAll.get : ∀ {vs : List V} {ds : List D} {i : Nat} {v : V}, RpAll K F G vs ds → vs[i]? = some v → ∃ d, ds[i]? = some d ∧ Rp K F G v d
  | _, _, _, _, .nil, h => by simp at h
  | _, _, 0, _, .cons h _, e => by simp at e; subst e; exact ⟨_, rfl, h⟩
  | _, _, i + 1, _, .cons _ r, e => by
    obtain ⟨d, h1, h2⟩ := RpAll.get (i := i) r (by simpa using e)
    exact ⟨d, by simpa using h1, h2⟩
theorem RpAll.getD : ∀ {vs : List V} {ds : List D} {i : Nat} {d : D}, RpAll K F G vs ds → ds[i]? = some d → ∃ v, vs[i]? = some v ∧ Rp K F G v d
  | _, _, _, _, .nil, h => by simp at h
  | _, _, 0, _, .cons h _, e => by simp at e; subst e; exact ⟨_, rfl, h⟩
  | _, _, i + 1, _, .cons _ r, e => by
    obtain ⟨d, h1, h2⟩ := RpAll.getD (i := i) r (by simpa using e)
    exact ⟨d, by simpa using h1, h2⟩
theorem RpAll.append : ∀ {vs ws : List V} {ds es : List D}, RpAll K F G vs ds → RpAll K F G ws es → RpAll K F G (vs ++ ws) (ds ++ es)
  | _, _, _, _, .nil, h => h
  | _, _, _, _, .cons a r, h => .cons a (RpAll.append r h)
theorem RpAll.one {v : V} {d : D} (h : Rp K F G v d) : RpAll K F G [v] [d] := .cons h .nil
theorem RpAll.take : ∀ {vs : List V} {ds : List D} (n : Nat), RpAll K F G vs ds → RpAll K F G (vs.take n) (ds.take n)
  | _, _, 0, _ => by simp; exact .nil
  | _, _, n + 1, .nil => by simp; exact .nil
  | _, _, n + 1, .cons a r => by simp; exact .cons a (RpAll.take n r)
theorem RpAll.drop : ∀ {vs : List V} {ds : List D} (n : Nat), RpAll K F G vs ds → RpAll K F G (vs.drop n) (ds.drop n)
  | _, _, 0, h => by simpa using h
  | _, _, n + 1, .nil => by simp; exact .nil
  | _, _, n + 1, .cons a r => by simp; exact RpAll.drop n r
theorem RpAll.reverse : ∀ {vs : List V} {ds : List D}, RpAll K F G vs ds → RpAll K F G vs.reverse ds.reverse
  | _, _, .nil => .nil
  | _, _, .cons a r => by simp; exact (RpAll.reverse r).append (.one a)
theorem RpAll.set : ∀ {vs : List V} {ds : List D} (n : Nat) {v : V} {d : D}, RpAll K F G vs ds → Rp K F G v d → RpAll K F G (vs.set n v) (ds.set n d)
  | _, _, _, _, _, .nil, _ => .nil
  | _, _, 0, _, _, .cons _ r, h => .cons h r
  | _, _, n + 1, _, _, .cons a r, h => .cons a (RpAll.set n r h)
theorem RpAll.eraseIdx : ∀ {vs : List V} {ds : List D} (n : Nat), RpAll K F G vs ds → RpAll K F G (vs.eraseIdx n) (ds.eraseIdx n)
  | _, _, _, .nil => .nil
  | _, _, 0, .cons _ r => r
  | _, _, n + 1, .cons a r => .cons a (RpAll.eraseIdx n r)
theorem RpAll.ints : ∀ ns : List Int, RpAll K F G (ns.map V.int) (ns.map D.int)
  | [] => .nil
  | n :: r => .cons (.int n) (RpAll.ints r)
end

/-! ### the state -/
def inFoot (G : Gs) (a : Addr) : Prop := ∃ p ∈ G, a = p.1 ∨ a = p.2
def BoxOk (H : Hp) (p : Addr × Addr) (k : Nat) : Prop := ∃ (ns : List Int) (d s : Int), k ≤ ns.length ∧ H p.1 = some (.lst [.ref p.2, .int d, .int s]) ∧ H p.2 = some (.lst (ns.map V.int)) ∧ p.1 ≠ p.2 ∧ 0 ≤ d ∧ 0 ≤ s
def CellOk (K : PySem.W.Frag) (F : Hp) (G : Gs) (H : Hp) (p : Addr × Addr) : Cell → Prop
  | .box k => BoxOk H p k
theorem CellOk.there {K F G H p} : ∀ {c : Cell}, CellOk K F G H p c → (∃ o, H p.1 = some o ∧ ∀ ps, o ≠ .tbl ps) ∧ ∃ o, H p.2 = some o ∧ ∀ ps, o ≠ .tbl ps
  | .box _, ⟨_, _, _, _, h1, h2, _⟩ => ⟨⟨_, h1, fun _ z => nomatch z⟩, _, h2, fun _ z => nomatch z⟩
/-- a cell stays as it is while its own places do -/
theorem CellOk.same {K F G H F' G' H' p} (x : Ext F G F' G') (h1 : H' p.1 = H p.1) (h2 : H' p.2 = H p.2) : ∀ {c : Cell}, CellOk K F G H p c → CellOk K F' G' H' p c
  | .box _, ⟨ns, d, s, hk, e1, e2, r⟩ => ⟨ns, d, s, hk, h1.trans e1, h2.trans e2, r⟩
/-- how all stood at a def's entry: the written part, the tables of code objects, the heap, what stays, the objects -/
structure Ent where
  K : PySem.W.Frag
  T : List Addr
  H₀ : Hp
  F₀ : Hp
  G₀ : Gs
structure GR (e : Ent) (S : Ss) (F : Hp) (G : Gs) (H : Hp) : Prop where
  sub : ∀ a o, F a = some o → H a = some o
  base : ∀ a o, e.H₀ a = some o → ¬ inFoot e.G₀ a → a ∉ e.T → H a = some o
  fnew : ∀ a o, F a = some o → e.F₀ a = some o ∨ e.H₀ a = none
  fold : ∀ a o, e.F₀ a = some o → F a = some o
  gpre : ∃ g, G = e.G₀ ++ g ∧ ∀ p ∈ g, e.H₀ p.1 = none ∧ e.H₀ p.2 = none
  slen : S.length = G.length
  cells : ∀ (n : Nat) (p : Addr × Addr) (c : Cell), G[n]? = some p → S[n]? = some c → CellOk e.K F G H p c
  gap : ∀ (i j : Nat) (p q : Addr × Addr), i ≠ j → G[i]? = some p → G[j]? = some q → p.1 ≠ q.1 ∧ p.1 ≠ q.2 ∧ p.2 ≠ q.1 ∧ p.2 ≠ q.2
  gF : ∀ p ∈ G, F p.1 = none ∧ F p.2 = none
  tabs : ∀ P ∈ e.T, TabG H P ∧ F P = none
section
variable {e : Ent} {S S' : Ss} {F F' : Hp} {G G' : Gs} {H H' : Hp}
theorem GR.foot_there (g : GR e S F G H) {a : Addr} (h : inFoot G a) : ∃ o, H a = some o ∧ ∀ ps, o ≠ .tbl ps := by
  obtain ⟨p, hp, e⟩ := h
  obtain ⟨n, hn, ep⟩ := List.getElem_of_mem hp
  have hs : n < S.length := by rw [g.slen]; exact hn
  have c := g.cells n p S[n] (by rw [List.getElem?_eq_getElem hn, ep]) (List.getElem?_eq_getElem hs)
  rcases e with rfl | rfl
  · exact c.there.1
  · exact c.there.2
theorem inFoot.mono {g : Gs} {a : Addr} (h : inFoot G a) : inFoot (G ++ g) a := let ⟨p, hp, e⟩ := h; ⟨p, List.mem_append_left _ hp, e⟩
theorem GR.foot₀ (g : GR e S F G H) {a : Addr} (h : inFoot e.G₀ a) : inFoot G a := by
  obtain ⟨x, hx, _⟩ := g.gpre
  rw [hx]; exact h.mono
theorem GR.none₀ (g : GR e S F G H) {a : Addr} (h : H a = none) : e.H₀ a = none := by
  cases q : e.H₀ a with
  | none => rfl
  | some o =>
    by_cases h1 : inFoot e.G₀ a
    · obtain ⟨o', h', _⟩ := g.foot_there (g.foot₀ h1)
      rw [h] at h'; cases h'
    · by_cases h2 : a ∈ e.T
      · obtain ⟨⟨ps, h', _⟩, _⟩ := g.tabs a h2
        rw [h] at h'; cases h'
      · have := g.base a o q h1 h2
        rw [h] at this; cases this
theorem GR.noneF (g : GR e S F G H) {a : Addr} (h : H a = none) : F a = none := by
  cases q : F a with
  | none => rfl
  | some o => rw [g.sub a o q] at h; cases h
theorem GR.noneG (g : GR e S F G H) {a : Addr} (h : H a = none) : ¬ inFoot G a := fun z => by
  obtain ⟨o, h', _⟩ := g.foot_there z
  rw [h] at h'; cases h'
theorem GR.noneT (g : GR e S F G H) {a : Addr} (h : H a = none) : a ∉ e.T := fun z => by
  obtain ⟨⟨ps, h', _⟩, _⟩ := g.tabs a z
  rw [h] at h'; cases h'
/-- the heap changes, but nothing that stays, no object, no table, nothing of the entry -/
theorem GR.heap (g : GR e S F G H) (k : ∀ a, (∃ o, F a = some o) ∨ inFoot G a ∨ a ∈ e.T ∨ (∃ o, e.H₀ a = some o) → H' a = H a) : GR e S F G H' where
  sub := fun a o h => (k a (.inl ⟨o, h⟩)).trans (g.sub a o h)
  base := fun a o h h1 h2 => (k a (.inr (.inr (.inr ⟨o, h⟩)))).trans (g.base a o h h1 h2)
  fnew := g.fnew
  fold := g.fold
  gpre := g.gpre
  slen := g.slen
  cells := fun n p c h1 h2 => (g.cells n p c h1 h2).same (Ext.refl _ _) (k _ (.inr (.inl ⟨p, List.mem_of_getElem? h1, .inl rfl⟩))) (k _ (.inr (.inl ⟨p, List.mem_of_getElem? h1, .inr rfl⟩)))
  gap := g.gap
  gF := g.gF
  tabs := fun P hP => by
    obtain ⟨⟨ps, h1, h2⟩, h3⟩ := g.tabs P hP
    exact ⟨⟨ps, (k P (.inr (.inr (.inl hP)))).trans h1, h2⟩, h3⟩
/-- something that stands there is, from now on, to stay -/
theorem GR.frz (g : GR e S F G H) {a : Addr} {o : HO} (h : H a = some o) (h0 : e.H₀ a = none) (hf : F a = none) (hg : ¬ inFoot G a) (ht : a ∉ e.T) : GR e S (upd F a o) G H where
  sub := fun b u q => by
    by_cases hb : b = a
    · subst hb; rw [upd_same] at q; cases q; exact h
    · rw [upd_ne hb] at q; exact g.sub b u q
  base := g.base
  fnew := fun b u q => by
    by_cases hb : b = a
    · subst hb; exact .inr h0
    · rw [upd_ne hb] at q; exact g.fnew b u q
  fold := fun b u q => by
    have hb : b ≠ a := fun z => by subst z; rw [g.fold b u q] at hf; cases hf
    rw [upd_ne hb]; exact g.fold b u q
  gpre := g.gpre
  slen := g.slen
  cells := fun n p c h1 h2 => (g.cells n p c h1 h2).same ⟨fun b u q => by
    have hb : b ≠ a := fun z => by subst z; rw [q] at hf; cases hf
    rw [upd_ne hb]; exact q, [], by simp⟩ rfl rfl
  gap := g.gap
  gF := fun p hp => by
    rw [upd_ne (fun z => hg ⟨p, hp, .inl z.symm⟩), upd_ne (fun z => hg ⟨p, hp, .inr z.symm⟩)]
    exact g.gF p hp
  tabs := fun P hP => by
    have hne : P ≠ a := fun z => ht (by rw [← z]; exact hP)
    rw [upd_ne hne]
    exact g.tabs P hP
theorem Ext.frz {a : Addr} {o : HO} (hf : F a = none) : Ext F G (upd F a o) G := ⟨fun b u q => by
    have hb : b ≠ a := fun z => by subst z; rw [q] at hf; cases hf
    rw [upd_ne hb]; exact q, [], by simp⟩
/-- a new object is laid -/
theorem GR.new (g : GR e S F G H) {a : Addr} {o : HO} (h : H a = none) : GR e S F G (upd H a o) :=
  g.heap fun b hb => upd_ne fun z => by
    subst z
    rcases hb with ⟨u, q⟩ | q | q | ⟨u, q⟩
    · rw [g.noneF h] at q; cases q
    · exact g.noneG h q
    · exact g.noneT h q
    · rw [g.none₀ h] at q; cases q
/-- .. that is to stay -/
theorem GR.newF (g : GR e S F G H) {a : Addr} {o : HO} (h : H a = none) : GR e S (upd F a o) G (upd H a o) :=
  (g.new (o := o) h).frz upd_same (g.none₀ h) (g.noneF h) (g.noneG h) (g.noneT h)
end
/-- an address of a list that a slot owns -/
structure OwnA (e : Ent) (F : Hp) (G : Gs) (a : Addr) : Prop where
  h0 : e.H₀ a = none
  f : F a = none
  g : ¬ inFoot G a
  t : a ∉ e.T
def SlOk (e : Ent) (F : Hp) (G : Gs) (H : Hp) (o : Option (Option V)) : Sl → Prop
  | .un => True
  | .v d => ∃ x, o = some (some x) ∧ Rp e.K F G x d
  | .own ds => ∃ a vs, o = some (some (.ref a)) ∧ H a = some (.lst vs) ∧ RpAll e.K F G vs ds ∧ OwnA e F G a
structure SR (e : Ent) (ρ : Ro) (S : Ss) (F : Hp) (G : Gs) (σ : L2.St) (H : Hp) : Prop where
  g : GR e S F G H
  sl : ∀ i, SlOk e F G H σ[i]? (getS ρ i)
  ap : ∀ (i j : Nat) (a : Addr) (ds es : List D), i ≠ j → getS ρ i = .own ds → getS ρ j = .own es → σ[i]? = some (some (.ref a)) → σ[j]? ≠ some (some (.ref a))
  len : ρ.length = σ.length
section
variable {e : Ent} {ρ : Ro} {S S' : Ss} {F F' : Hp} {G G' : Gs} {σ : L2.St} {H H' : Hp}
/-- all may change but what the slots own -/
theorem SR.step (s : SR e ρ S F G σ H) (g' : GR e S' F' G' H') (x : Ext F G F' G') (k : ∀ a vs, H a = some (.lst vs) → OwnA e F G a → (∃ i ds, getS ρ i = .own ds ∧ σ[i]? = some (some (.ref a))) → H' a = some (.lst vs) ∧ OwnA e F' G' a) : SR e ρ S' F' G' σ H' where
  g := g'
  sl := fun i => by
    have h := s.sl i
    cases q : getS ρ i with
    | un => trivial
    | v d =>
      rw [q] at h
      obtain ⟨v, h1, h2⟩ := h
      exact ⟨v, h1, h2.ext x⟩
    | own ds =>
      rw [q] at h
      obtain ⟨a, vs, h1, h2, h3, h4⟩ := h
      obtain ⟨k1, k2⟩ := k a vs h2 h4 ⟨i, ds, q, h1⟩
      exact ⟨a, vs, h1, k1, h3.ext x, k2⟩
  ap := s.ap
  len := s.len
theorem OwnA.newF {a b : Addr} {o : HO} (h : OwnA e F G a) (hb : a ≠ b) : OwnA e (upd F b o) G a := ⟨h.h0, by rw [upd_ne hb]; exact h.f, h.g, h.t⟩
/-- a new object that is to stay -/
theorem SR.newF (s : SR e ρ S F G σ H) {a : Addr} {o : HO} (h : H a = none) : SR e ρ S (upd F a o) G σ (upd H a o) :=
  s.step (s.g.newF h) (Ext.frz (s.g.noneF h)) fun b vs h1 h2 _ => ⟨by rw [upd_ne (ne_of_none h1 h)]; exact h1, h2.newF (ne_of_none h1 h)⟩
/-- a new object that may change -/
theorem SR.new (s : SR e ρ S F G σ H) {a : Addr} {o : HO} (h : H a = none) : SR e ρ S F G σ (upd H a o) :=
  s.step (s.g.new h) (Ext.refl _ _) fun b vs h1 h2 _ => ⟨by rw [upd_ne (ne_of_none h1 h)]; exact h1, h2⟩
theorem SR.ownNew (s : SR e ρ S F G σ H) {a : Addr} (h : H a = none) : OwnA e F G a := ⟨s.g.none₀ h, s.g.noneF h, s.g.noneG h, s.g.noneT h⟩
/-- the slots are set -/
theorem set_get (σ : L2.St) (i j : Nat) (x : Option V) : (σ.set i x)[j]? = if i = j ∧ i < σ.length then some x else σ[j]? := by
  rw [List.getElem?_set]
  by_cases h : i = j
  · subst h
    by_cases h2 : i < σ.length
    · simp [h2]
    · simp [h2]
  · simp [h]
theorem SR.setV (s : SR e ρ S F G σ H) (i : Nat) {v : V} {d : D} (r : Rp e.K F G v d) : SR e (ρ.set i (.v d)) S F G (σ.set i (some v)) H where
  g := s.g
  sl := fun j => by
    rw [getS_set, set_get, s.len]
    by_cases h : i = j ∧ i < σ.length
    · rw [if_pos h, if_pos h]; exact ⟨v, rfl, r⟩
    · rw [if_neg h, if_neg h]; exact s.sl j
  ap := fun j k a ds es hjk h1 h2 => by
    rw [getS_set, s.len] at h1 h2
    rw [set_get, set_get]
    by_cases c1 : i = j ∧ i < σ.length
    · rw [if_pos c1] at h1; cases h1
    · by_cases c2 : i = k ∧ i < σ.length
      · rw [if_pos c2] at h2; cases h2
      · rw [if_neg c1] at h1 ⊢; rw [if_neg c2] at h2 ⊢
        exact s.ap j k a ds es hjk h1 h2
  len := by simp [s.len]
theorem SR.setOwn (s : SR e ρ S F G σ H) (i : Nat) {a : Addr} {vs : List V} {ds : List D} (h : H a = some (.lst vs)) (r : RpAll e.K F G vs ds) (o : OwnA e F G a) (fresh : ∀ j es, getS ρ j = .own es → j ≠ i → σ[j]? ≠ some (some (.ref a))) :
    SR e (ρ.set i (.own ds)) S F G (σ.set i (some (.ref a))) H where
  g := s.g
  sl := fun j => by
    rw [getS_set, set_get, s.len]
    by_cases c : i = j ∧ i < σ.length
    · rw [if_pos c, if_pos c]; exact ⟨a, vs, rfl, h, r, o⟩
    · rw [if_neg c, if_neg c]; exact s.sl j
  ap := fun j k b ds' es hjk h1 h2 => by
    rw [getS_set, s.len] at h1 h2
    rw [set_get, set_get]
    by_cases c1 : i = j ∧ i < σ.length
    · have c2 : ¬ (i = k ∧ i < σ.length) := fun z => hjk (c1.1.symm.trans z.1)
      rw [if_neg c2] at h2 ⊢
      rw [if_pos c1]
      intro z1 z2
      have : b = a := by cases z1; rfl
      subst this
      exact fresh k es h2 (fun z => hjk (by rw [← c1.1, z])) z2
    · rw [if_neg c1] at h1 ⊢
      by_cases c2 : i = k ∧ i < σ.length
      · rw [if_pos c2]
        intro z1 z2
        have : b = a := by cases z2; rfl
        subst this
        exact fresh j ds' h1 (fun z => hjk (by rw [← c2.1, z])) z1
      · rw [if_neg c2] at h2 ⊢
        exact s.ap j k b ds' es hjk h1 h2
  len := by simp [s.len]
/-- what a slot owns is, from now on, to stay -/
theorem SR.freeze (s : SR e ρ S F G σ H) {i : Nat} {ds : List D} (h : getS ρ i = .own ds) :
    ∃ a F', σ[i]? = some (some (.ref a)) ∧ Ext F G F' G ∧ Rp e.K F' G (.ref a) (.lst ds) ∧ SR e (ρ.set i (.v (.lst ds))) S F' G σ H := by
  have q := s.sl i
  rw [h] at q
  obtain ⟨a, vs, h1, h2, h3, h4⟩ := q
  have x : Ext F G (upd F a (.lst vs)) G := Ext.frz h4.f
  have rp : Rp e.K (upd F a (.lst vs)) G (.ref a) (.lst ds) := .lst upd_same (h3.ext x)
  refine ⟨a, upd F a (.lst vs), h1, x, rp, ?_, fun j => ?_, fun j k b ds' es hjk h5 h6 => ?_, by simp [s.len]⟩
  · exact s.g.frz h2 h4.h0 h4.f h4.g h4.t
  · have hi : i < ρ.length := getS_lt (by rw [h]; intro z; cases z)
    rw [getS_set]
    by_cases c : i = j
    · subst c
      rw [if_pos ⟨rfl, hi⟩]
      exact ⟨.ref a, h1, rp⟩
    · rw [if_neg (fun z => c z.1)]
      have q := s.sl j
      cases e2 : getS ρ j with
      | un => trivial
      | v d => rw [e2] at q; obtain ⟨y, q1, q2⟩ := q; exact ⟨y, q1, q2.ext x⟩
      | own es =>
        rw [e2] at q
        obtain ⟨b, ws, q1, q2, q3, q4⟩ := q
        have hb : b ≠ a := fun z => by
          subst z
          exact s.ap i j b ds es c h e2 h1 q1
        exact ⟨b, ws, q1, q2, q3.ext x, q4.newF hb⟩
  · rw [getS_set] at h5 h6
    by_cases c1 : i = j ∧ i < ρ.length
    · rw [if_pos c1] at h5; cases h5
    · by_cases c2 : i = k ∧ i < ρ.length
      · rw [if_pos c2] at h6; cases h6
      · rw [if_neg c1] at h5; rw [if_neg c2] at h6
        exact s.ap j k b ds' es hjk h5 h6
/-- what a slot owns changes -/
theorem SR.write (s : SR e ρ S F G σ H) {i : Nat} {ds ds' : List D} {a : Addr} {vs' : List V} (h : getS ρ i = .own ds) (ha : σ[i]? = some (some (.ref a))) (r : RpAll e.K F G vs' ds') : SR e (ρ.set i (.own ds')) S F G σ (upd H a (.lst vs')) := by
  have q := s.sl i
  rw [h] at q
  obtain ⟨b, vs, h1, h2, h3, h4⟩ := q
  have eb : b = a := by rw [ha] at h1; cases h1; rfl
  subst eb
  have hi : i < ρ.length := getS_lt (by rw [h]; intro z; cases z)
  refine ⟨s.g.heap fun c hc => upd_ne fun z => ?_, fun j => ?_, fun j k b' ds₁ es hjk h5 h6 => ?_, by simp [s.len]⟩
  · subst z
    rcases hc with ⟨u, q⟩ | q | q | ⟨u, q⟩
    · rw [h4.f] at q; cases q
    · exact h4.g q
    · exact h4.t q
    · rw [h4.h0] at q; cases q
  · rw [getS_set]
    by_cases c : i = j
    · subst c
      rw [if_pos ⟨rfl, hi⟩]
      exact ⟨b, vs', ha, upd_same, r, h4⟩
    · rw [if_neg (fun z => c z.1)]
      have q := s.sl j
      cases e2 : getS ρ j with
      | un => trivial
      | v d => rw [e2] at q; exact q
      | own es =>
        rw [e2] at q
        obtain ⟨b', ws, q1, q2, q3, q4⟩ := q
        have hb : b' ≠ b := fun z => by
          subst z
          exact s.ap i j b' ds es c h e2 h1 q1
        exact ⟨b', ws, q1, by rw [upd_ne hb]; exact q2, q3, q4⟩
  · rw [getS_set] at h5 h6
    have h5' : ∃ ds₂, getS ρ j = .own ds₂ := by
      by_cases c1 : i = j ∧ i < ρ.length
      · exact ⟨ds, by rw [← c1.1]; exact h⟩
      · rw [if_neg c1] at h5; exact ⟨_, h5⟩
    have h6' : ∃ ds₂, getS ρ k = .own ds₂ := by
      by_cases c1 : i = k ∧ i < ρ.length
      · exact ⟨ds, by rw [← c1.1]; exact h⟩
      · rw [if_neg c1] at h6; exact ⟨_, h6⟩
    obtain ⟨x1, y1⟩ := h5'
    obtain ⟨x2, y2⟩ := h6'
    exact s.ap j k b' x1 x2 hjk y1 y2
/-- a slot that owns -/
theorem SR.own (s : SR e ρ S F G σ H) {i : Nat} {ds : List D} (h : getS ρ i = .own ds) : ∃ a vs, σ[i]? = some (some (.ref a)) ∧ H a = some (.lst vs) ∧ RpAll e.K F G vs ds ∧ OwnA e F G a := by
  have q := s.sl i
  rw [h] at q
  exact q
theorem SR.val (s : SR e ρ S F G σ H) {i : Nat} {d : D} (h : getS ρ i = .v d) : ∃ v, σ[i]? = some (some v) ∧ Rp e.K F G v d := by
  have q := s.sl i
  rw [h] at q
  exact q
/-- the table of a code object has grown -/
theorem SR.tab (s : SR e ρ S F G σ H) {P : Addr} (hP : P ∈ e.T) (t : Tabbed P H H') : SR e ρ S F G σ H' := by
  have no : ∀ b o, H b = some o → (∀ ps, o ≠ .tbl ps) → b ≠ P := fun b o h z q => by
    obtain ⟨⟨ps, h1, _⟩, _⟩ := s.g.tabs P hP
    rw [q, h1] at h; cases h
    exact z ps rfl
  have hF : ∀ b o, F b = some o → b ≠ P := fun b o h q => by
    rw [q, (s.g.tabs P hP).2] at h; cases h
  refine s.step ⟨fun a o h => (t.2 a (hF a o h)).trans (s.g.sub a o h), fun a o h h1 h2 => (t.2 a (fun z => h2 (z ▸ hP))).trans (s.g.base a o h h1 h2), s.g.fnew, s.g.fold, s.g.gpre, s.g.slen, fun n p c h1 h2 => ?_, s.g.gap, s.g.gF, fun Q hQ => ?_⟩ (Ext.refl _ _) fun a vs h1 h2 _ => ⟨(t.2 a (fun z => h2.t (z ▸ hP))).trans h1, h2⟩
  · have c' := s.g.cells n p c h1 h2
    obtain ⟨⟨o1, q1, z1⟩, o2, q2, z2⟩ := c'.there
    exact c'.same (Ext.refl _ _) (t.2 _ (no _ _ q1 z1)) (t.2 _ (no _ _ q2 z2))
  · by_cases c : Q = P
    · subst c; exact ⟨t.1, (s.g.tabs Q hQ).2⟩
    · obtain ⟨⟨ps, h1, h2⟩, h3⟩ := s.g.tabs Q hQ
      exact ⟨⟨ps, (t.2 Q c).trans h1, h2⟩, h3⟩
end
/-- what a call leaves, from the caller's F, G, H -/
structure Post (K : PySem.W.Frag) (T : List Addr) (F : Hp) (G : Gs) (H : Hp) (S' : Ss) (F' : Hp) (G' : Gs) (H' : Hp) : Prop where
  gr : GR ⟨K, T, H, F, G⟩ S' F' G' H'
theorem Post.ext {K T F G H S' F' G' H'} (p : Post K T F G H S' F' G' H') : Ext F G F' G' := ⟨fun a o h => p.gr.fold a o h, let ⟨g, h, _⟩ := p.gr.gpre; ⟨g, h⟩⟩
/-- behind a call the caller's state -/
theorem SR.call {e : Ent} {ρ : Ro} {S S' : Ss} {F F' : Hp} {G G' : Gs} {σ : L2.St} {H H' : Hp} (s : SR e ρ S F G σ H) (p : Post e.K e.T F G H S' F' G' H') : SR e ρ S' F' G' σ H' := by
  obtain ⟨gn, hgn, hnew⟩ := p.gr.gpre
  have hgn : G' = G ++ gn := hgn
  have hnew : ∀ p ∈ gn, H p.1 = none ∧ H p.2 = none := hnew
  have hin : ∀ a, inFoot G' a → inFoot G a ∨ H a = none := fun a ⟨q, hq, z⟩ => by
    rw [hgn] at hq
    rcases List.mem_append.mp hq with hq | hq
    · exact .inl ⟨q, hq, z⟩
    · rcases z with rfl | rfl
      · exact .inr (hnew q hq).1
      · exact .inr (hnew q hq).2
  refine s.step ⟨p.gr.sub, fun a o h h1 h2 => ?_, fun a o h => ?_, fun a o h => p.gr.fold a o (s.g.fold a o h), ?_, p.gr.slen, p.gr.cells, p.gr.gap, p.gr.gF, p.gr.tabs⟩ p.ext fun a vs h1 h2 _ => ?_
  · refine p.gr.base a o (s.g.base a o h h1 h2) (fun z => ?_) h2
    obtain ⟨g, hg, hn⟩ := s.g.gpre
    obtain ⟨q, hq, hz⟩ := z
    have hq : q ∈ G := hq
    rw [hg] at hq
    rcases List.mem_append.mp hq with hq | hq
    · exact h1 ⟨q, hq, hz⟩
    · rcases hz with rfl | rfl
      · rw [(hn q hq).1] at h; cases h
      · rw [(hn q hq).2] at h; cases h
  · rcases p.gr.fnew a o h with q | q
    · exact s.g.fnew a o q
    · exact .inr (s.g.none₀ q)
  · obtain ⟨g, hg, hn⟩ := s.g.gpre
    refine ⟨g ++ gn, by rw [hgn, hg, List.append_assoc], fun q hq => ?_⟩
    rcases List.mem_append.mp hq with hq | hq
    · exact hn q hq
    · exact ⟨s.g.none₀ (hnew q hq).1, s.g.none₀ (hnew q hq).2⟩
  · refine ⟨p.gr.base a _ h1 h2.g h2.t, h2.h0, ?_, fun z => ?_, h2.t⟩
    · cases q : F' a with
      | none => rfl
      | some o =>
        rcases p.gr.fnew a o q with q' | q'
        · have q' : F a = some o := q'
          rw [h2.f] at q'; cases q'
        · have q' : H a = none := q'
          rw [h1] at q'; cases q'
    · rcases hin a z with z | z
      · exact h2.g z
      · rw [h1] at z; cases z
end Py
set_option Elab.async false
set_option linter.all false
set_option maxRecDepth 100000
set_option maxHeartbeats 4000000
/-! The small syntax, and what each piece of it asks. -/
namespace Py
open PySem PySem.Spec PyProof.Rows L2 GxR

abbrev KD := D → Ro → Ss → Prop
abbrev KL := List D → Ro → Ss → Prop
/-- what a def is worth: how many arguments; from arguments and objects, what is wanted of its value and the objects behind it -/
structure Ct where
  n : Nat
  run : List D → Ss → (D → Ss → Prop) → Prop

/-- built-in functions of values -/
inductive Bi where
  | len | int | tuple | list | max1 | min1 | max2 | min2 | sum | all | any | sorted | abs | sset

/-- the targets of a for: a name, or some names -/
inductive Tg where
  | name (i : Nat) | tup (is : List Nat)

mutual
inductive E where
  | var (i : Nat)
  | int (i : Int) | str (x : Str) | bl (b : Bool) | non
  | glo (x : Str) (d : D)
  | bin (o : Operator) (a b : E)
  | neg (a : E)
  | not (a : E)
  | cmp (o : CmpOp) (a b : E)
  | chain (o p : CmpOp) (a b c : E)
  | bop (isAnd : Bool) (es : Es)
  | ite (t : T) (a b : E)
  | tup (es : Es)
  | lst (es : Es)
  | ix (a b : E)
  | ixo (i : Nat) (b : E)
  | sl (a : E) (lo hi : Oe)
  | slo (i : Nat) (lo hi : Oe)
  | rev (a : E)
  | leno (i : Nat)
  | call (x : Str) (C : Ct) (es : Es)
  | bc (f : Bi) (es : Es)
  | isi (a : E) (ty : String)
  | inr (a lo hi : E)
  | comp (elt : E) (tg : Tg) (it : It) (ifs : Ts) (own : List (Str × Nat))
  | gen (isAll : Bool) (elt : E) (tg : Tg) (it : It) (own : List (Str × Nat))
  | popo (i : Nat) (k : E)
  | popl (i : Nat)
  | bx (i k : Nat) | bxl (i : Nat) | bxp (i : Nat)
inductive Es where
  | nil | cons (e : E) (es : Es)
/-- tests -/
inductive T where
  | of (e : E)
  | not (t : T)
  | bop (isAnd : Bool) (ts : Ts)
inductive Ts where
  | nil | cons (t : T) (ts : Ts)
inductive Oe where
  | no | so (e : E)
inductive It where
  | of (e : E)
  | own (i : Nat)
  | range1 (a : E) | range2 (a b : E)
  | enum (a : E)
  | zip (a b : E)
end

/-! ### values -/
def atD (xs : List D) (i : Int) : Option D := atI xs i
def cutD (xs : List D) (lo hi : Option Int) : List D := (xs.drop (HT.sIx xs.length 0 lo)).take (HT.sIx xs.length xs.length hi - HT.sIx xs.length 0 lo)
mutual
def toPy : D → Option PyData
  | .non => some .none
  | .bl b => some (.bool b)
  | .int i => some (.int i)
  | .str x => some (.str x)
  | .tup ds => (toPys ds).map .tuple
  | .lst ds => (toPys ds).map .list
  | .obj _ => none
  | .scr _ => none
  | .cel _ => none
def toPys : List D → Option (List PyData)
  | [] => some []
  | d :: ds => match toPy d, toPys ds with
    | some x, some xs => some (x :: xs)
    | _, _ => none
end
/-- what a partial thing asks: its condition, and what is wanted of its value -/
def optW {α : Type} (o : Option (Prop × α)) (Q : α → Prop) : Prop := match o with
  | some (c, z) => c ∧ Q z
  | none => False
/-- x == y -/
def dEq (x y : D) : Option (Prop × Bool) := match toPy x, toPy y with
  | some a, some b => some (SeqAt.shaped a = true ∧ SeqAt.shaped b = true, PyData.eqv a b)
  | _, _ => none
def binV : Operator → D → D → Option (Prop × D)
  | .Add, .int i, .int j => some (True, .int (i + j))
  | .Sub, .int i, .int j => some (True, .int (i - j))
  | .Mult, .int i, .int j => some (CMul i j, .int (i * j))
  | .FloorDiv, .int i, .int j => some (CDiv i j, .int (i / j))
  | .Mod, .int i, .int j => some (0 < j, .int (i % j))
  | .Add, .str x, .str y => some (x.length + y.length ≤ sizeLine, .str (x ++ y))
  | .Add, .tup xs, .tup ys => some (xs.length + ys.length ≤ sizeLine, .tup (xs ++ ys))
  | .Add, .lst xs, .lst ys => some (xs.length ≤ sizeLine ∧ ys.length ≤ sizeLine ∧ xs.length + ys.length ≤ sizeLine, .lst (xs ++ ys))
  | .Mult, .tup xs, .int k => some (0 ≤ k ∧ k ≤ 1000 ∧ xs.length ≤ 1000, .tup (List.replicate k.toNat xs).flatten)
  | _, _, _ => none
def isN : D → Bool
  | .non => true
  | _ => false
def flatD : D → Bool
  | .non => true | .bl _ => true | .int _ => true | .str _ => true | _ => false
def flatEq : D → D → Bool
  | .non, .non => true
  | .bl a, .bl b => a == b
  | .bl a, .int j => (if a then 1 else 0) == j
  | .int i, .bl b => i == (if b then 1 else 0)
  | .int i, .int j => i == j
  | .str x, .str y => x == y
  | _, _ => false
def mapB (f : Bool → Bool) : Option (Prop × Bool) → Option (Prop × Bool)
  | some (c, b) => some (c, f b)
  | none => none
def cmpV : CmpOp → D → D → Option (Prop × Bool)
  | .Eq, x, y => dEq x y
  | .NotEq, x, y => mapB (!·) (dEq x y)
  | .Lt, .int i, .int j => some (True, decide (i < j))
  | .LtE, .int i, .int j => some (True, decide (i ≤ j))
  | .Gt, .int i, .int j => some (True, decide (j < i))
  | .GtE, .int i, .int j => some (True, decide (j ≤ i))
  | .Is, x, .non => some (True, isN x)
  | .IsNot, x, .non => some (True, !isN x)
  | .Is, .bl a, .bl b => some (True, a == b)
  | .IsNot, .bl a, .bl b => some (True, !(a == b))
  | .In, x, .tup ys => some (flatD x = true ∧ ys.all flatD = true, ys.any fun y => flatEq y x)
  | .In, x, .lst ys => some (flatD x = true ∧ ys.all flatD = true, ys.any fun y => flatEq y x)
  | .NotIn, x, .tup ys => some (flatD x = true ∧ ys.all flatD = true, !ys.any fun y => flatEq y x)
  | .NotIn, x, .lst ys => some (flatD x = true ∧ ys.all flatD = true, !ys.any fun y => flatEq y x)
  | .In, .str x, .str y => some (True, !(Builtin.Str.occurrences y x 0 y.length 1).isEmpty)
  | .NotIn, .str x, .str y => some (True, !(!(Builtin.Str.occurrences y x 0 y.length 1).isEmpty))
  | _, _, _ => none
/-- the truth of a value -/
def truV : D → Option (Prop × Bool)
  | .non => some (True, false)
  | .bl b => some (True, b)
  | .int i => some (True, i != 0)
  | .str x => some (x.length ≤ sizeLine, x.length != 0)
  | .tup ds => some (True, !ds.isEmpty)
  | .lst ds => some (True, !ds.isEmpty)
  | .obj _ => none
  | .scr _ => none
  | .cel _ => none
def someT {α : Type} : Option α → Option (Prop × α)
  | some x => some (True, x)
  | none => none
def ixV : D → D → Option (Prop × D)
  | .tup xs, .int i => someT (atD xs i)
  | .lst xs, .int i => someT (atD xs i)
  | .str z, .int i => match atI z.cps.toList i with
    | some c => some (z.length ≤ sizeLine, .str ⟨#[c]⟩)
    | none => none
  | _, _ => none
def slV : D → Option Int → Option Int → Option (Prop × D)
  | .tup xs, lo, hi => some (True, .tup (cutD xs lo hi))
  | .lst xs, lo, hi => some (True, .lst (cutD xs lo hi))
  | .str z, lo, hi => some (z.length ≤ sizeLine, .str (cutS z lo hi))
  | _, _, _ => none
/-- the ints of data -/
def intsD : List D → Option (List Int)
  | [] => some []
  | .int i :: r => (intsD r).map (i :: ·)
  | _ :: _ => none
def boolsD : List D → Option (List Bool)
  | [] => some []
  | .bl i :: r => (boolsD r).map (i :: ·)
  | _ :: _ => none
def seqD : D → Option (List D)
  | .tup ds => some ds
  | .lst ds => some ds
  | _ => none
def intsOf (x : D) : Option (List Int) := (seqD x).bind intsD
def maxI : List Int → Int
  | [] => 0
  | x :: r => r.foldl max x
def minI : List Int → Int
  | [] => 0
  | x :: r => r.foldl min x
def sortI (ns : List Int) : List Int := ns.mergeSort fun a b => decide (a ≤ b)
/-- into a rising list -/
def insI (x : Int) : List Int → List Int
  | [] => [x]
  | y :: r => if x < y then x :: y :: r else if x = y then y :: r else y :: insI x r
/-- the different ints, rising -/
def ssetI (ns : List Int) : List Int := ns.foldr insI []
def bcV : Bi → List D → Option (Prop × D)
  | .len, [.tup ds] => some (True, .int ds.length)
  | .len, [.lst ds] => some (True, .int ds.length)
  | .len, [.str x] => some (x.length ≤ sizeLine, .int x.length)
  | .int, [.int i] => some (True, .int i)
  | .int, [.bl b] => some (True, .int (if b then 1 else 0))
  | .tuple, [.tup ds] => some (True, .tup ds)
  | .tuple, [.lst ds] => some (True, .tup ds)
  | .list, [.tup ds] => some (True, .lst ds)
  | .list, [.lst ds] => some (True, .lst ds)
  | .max1, [x] => (intsOf x).map fun ns => (ns ≠ [], .int (maxI ns))
  | .min1, [x] => (intsOf x).map fun ns => (ns ≠ [], .int (minI ns))
  | .max2, [.int i, .int j] => some (True, .int (if j > i then j else i))
  | .min2, [.int i, .int j] => some (True, .int (if j < i then j else i))
  | .sum, [.lst ds] => (intsD ds).map fun ns => (True, .int ns.sum)
  | .all, [.lst ds] => (boolsD ds).map fun bs => (True, .bl (bs.all id))
  | .any, [.lst ds] => (boolsD ds).map fun bs => (True, .bl (bs.any id))
  | .sorted, [.lst ds] => (intsD ds).map fun ns => (True, .lst ((sortI ns).map .int))
  | .sset, [.tup ds] => (intsD ds).map fun ns => (ns.length < 4000 ∧ (ssetI ns).length < 64, .lst ((ssetI ns).map .int))
  | .abs, [.int i] => some (True, .int (if i < 0 then -i else i))
  | _, _ => none
def tyB : D → String → Option Bool
  | .non, t => kitB' "NoneType" t
  | .bl _, t => kitB' "bool" t
  | .int _, t => kitB' "int" t
  | .str _, t => kitB' "str" t
  | .tup _, t => kitB' "tuple" t
  | .lst _, t => kitB' "list" t
  | .obj _, _ => none
  | .scr _, _ => none
  | .cel _, _ => none
where kitB' (a b : String) : Option Bool :=
  if a = b then some true
  else if a = "bool" ∧ b = "int" then some true
  else if b = "int" ∨ b = "bool" ∨ b = "str" ∨ b = "tuple" ∨ b = "list" then some false
  else none

/-! ### slots -/
/-- the slots of a comprehension's own names are forgotten -/
def wipeR (ρ : Ro) : List Nat → Ro
  | [] => ρ
  | v :: vs => (wipeR ρ vs).set v .un
def noOwn (ρ : Ro) : List Nat → Prop
  | [] => True
  | v :: vs => (match getS ρ v with | .own _ => False | _ => True) ∧ noOwn ρ vs
/-- behind it they are as they were -/
def backR (ρ₀ ρ : Ro) : List Nat → Ro
  | [] => ρ
  | v :: vs => (backR ρ₀ ρ vs).set v (getS ρ₀ v)
def setAll : List Nat → List D → Ro → Ro
  | i :: is, d :: ds, ρ => setAll is ds (ρ.set i (.v d))
  | _, _, ρ => ρ
def tgW : Tg → D → Ro → (Ro → Prop) → Prop
  | .name i, d, ρ, Q => Q (ρ.set i (.v d))
  | .tup is, .tup ds, ρ, Q => ds.length = is.length ∧ Q (setAll is ds ρ)
  | _, _, _, _ => False
/-- a list comprehension's turns -/
def lcW (tg : D → Ro → (Ro → Prop) → Prop) (t : Ro → Ss → (Bool → Ro → Ss → Prop) → Prop) (w : Ro → Ss → KD → Prop) : List D → List D → Ro → Ss → KL → Prop
  | [], acc, ρ, S, Q => Q acc ρ S
  | x :: xs, acc, ρ, S, Q => tg x ρ fun ρ1 => t ρ1 S fun b ρ2 S2 =>
    if b = true then w ρ2 S2 fun y ρ3 S3 => acc.length < sizeLine ∧ lcW tg t w xs (acc ++ [y]) ρ3 S3 Q else lcW tg t w xs acc ρ2 S2 Q
/-- a generator expression's, in all or any -/
def gnW (isAll : Bool) (tg : D → Ro → (Ro → Prop) → Prop) (w : Ro → Ss → KD → Prop) : List D → Ro → Ss → KD → Prop
  | [], ρ, S, Q => Q (.bl isAll) ρ S
  | x :: xs, ρ, S, Q => tg x ρ fun ρ1 => w ρ1 S fun y ρ2 S2 => ∃ b, y = .bl b ∧ if b = isAll then gnW isAll tg w xs ρ2 S2 Q else Q (.bl b) ρ2 S2
/-- what a slot holds, as data -/
def slD : Sl → Option D
  | .own ds => some (.lst ds)
  | .v d => some d
  | .un => none
def pairsD : Nat → List D → List D
  | _, [] => []
  | i, d :: r => .tup [.int i, d] :: pairsD (i + 1) r
def zipD (ds es : List D) : List D := (ds.zip es).map fun p => .tup [p.1, p.2]
def rangeD (lo : Int) : Nat → List D
  | 0 => []
  | n + 1 => .int lo :: rangeD (lo + 1) n
def small62 (i : Int) : Prop := -(2 ^ 62) ≤ i ∧ i < 2 ^ 62

mutual
def wpE : E → Ro → Ss → KD → Prop
  | .var i, ρ, S, Q => match getS ρ i with
    | .v d => Q d ρ S
    | .own ds => Q (.lst ds) (ρ.set i (.v (.lst ds))) S
    | .un => False
  | .int i, ρ, S, Q => Q (.int i) ρ S
  | .str x, ρ, S, Q => Q (.str x) ρ S
  | .bl b, ρ, S, Q => Q (.bl b) ρ S
  | .non, ρ, S, Q => Q .non ρ S
  | .glo _ d, ρ, S, Q => Q d ρ S
  | .bin o a b, ρ, S, Q => wpE a ρ S fun x ρ1 S1 => wpE b ρ1 S1 fun y ρ2 S2 => optW (binV o x y) fun z => Q z ρ2 S2
  | .neg a, ρ, S, Q => wpE a ρ S fun x ρ1 S1 => ∃ i, x = .int i ∧ Q (.int (-i)) ρ1 S1
  | .not a, ρ, S, Q => wpE a ρ S fun x ρ1 S1 => ∃ b, x = .bl b ∧ Q (.bl (!b)) ρ1 S1
  | .cmp o a b, ρ, S, Q => wpE a ρ S fun x ρ1 S1 => wpE b ρ1 S1 fun y ρ2 S2 => optW (cmpV o x y) fun z => Q (.bl z) ρ2 S2
  | .chain o p a b c, ρ, S, Q => wpE a ρ S fun x ρ1 S1 => wpE b ρ1 S1 fun y ρ2 S2 => optW (cmpV o x y) fun z =>
    if z = true then wpE c ρ2 S2 fun u ρ3 S3 => optW (cmpV p y u) fun z' => Q (.bl z') ρ3 S3 else Q (.bl false) ρ2 S2
  | .bop k es, ρ, S, Q => wpB k es ρ S Q
  | .ite t a b, ρ, S, Q => wpT t ρ S fun c ρ1 S1 => if c = true then wpE a ρ1 S1 Q else wpE b ρ1 S1 Q
  | .tup es, ρ, S, Q => wpEs es ρ S fun ds ρ1 S1 => ds.length ≤ sizeLine ∧ Q (.tup ds) ρ1 S1
  | .lst es, ρ, S, Q => wpEs es ρ S fun ds ρ1 S1 => ds.length ≤ sizeLine ∧ Q (.lst ds) ρ1 S1
  | .ix a b, ρ, S, Q => wpE a ρ S fun x ρ1 S1 => wpE b ρ1 S1 fun y ρ2 S2 => optW (ixV x y) fun z => Q z ρ2 S2
  | .ixo i b, ρ, S, Q => (slD (getS ρ i)).isSome = true ∧ wpE b ρ S fun y ρ1 S1 => ∃ z, slD (getS ρ1 i) = some z ∧ optW (ixV z y) fun z => Q z ρ1 S1
  | .sl a lo hi, ρ, S, Q => wpE a ρ S fun x ρ1 S1 => wpO lo ρ1 S1 fun l ρ2 S2 => wpO hi ρ2 S2 fun h ρ3 S3 => optW (slV x l h) fun z => Q z ρ3 S3
  | .slo i lo hi, ρ, S, Q => (slD (getS ρ i)).isSome = true ∧ wpO lo ρ S fun l ρ1 S1 => wpO hi ρ1 S1 fun h ρ2 S2 => ∃ z, slD (getS ρ2 i) = some z ∧ optW (slV z l h) fun r => Q r ρ2 S2
  | .rev a, ρ, S, Q => wpE a ρ S fun x ρ1 S1 => ∃ ds, x = .tup ds ∧ Q (.tup ds.reverse) ρ1 S1
  | .leno i, ρ, S, Q => ∃ z, slD (getS ρ i) = some z ∧ optW (bcV .len [z]) fun r => Q r ρ S
  | .call _ C es, ρ, S, Q => wpEs es ρ S fun ds ρ1 S1 => ds.length = C.n ∧ ∃ Q0, C.run ds S1 Q0 ∧ ∀ d S', Q0 d S' → Q d ρ1 S'
  | .bc f es, ρ, S, Q => wpEs es ρ S fun ds ρ1 S1 => optW (bcV f ds) fun z => Q z ρ1 S1
  | .isi a ty, ρ, S, Q => wpE a ρ S fun x ρ1 S1 => ∃ b, tyB x ty = some b ∧ Q (.bl b) ρ1 S1
  | .inr a lo hi, ρ, S, Q => wpE a ρ S fun x ρ1 S1 => wpE lo ρ1 S1 fun y ρ2 S2 => wpE hi ρ2 S2 fun z ρ3 S3 => ∃ i j k, x = .int i ∧ y = .int j ∧ z = .int k ∧ small62 j ∧ small62 k ∧ Q (.bl (decide (j ≤ i ∧ i < k))) ρ3 S3
  | .comp elt tg it ifs own, ρ, S, Q => wpI it ρ S fun items ρ1 S1 => noOwn ρ1 (own.map (·.2)) ∧
    lcW (fun d r => tgW tg d (wipeR r (own.map (·.2)))) (wpTs ifs) (wpE elt) items [] ρ1 S1 fun ds ρ2 S2 => Q (.lst ds) (backR ρ1 ρ2 (own.map (·.2))) S2
  | .gen k elt tg it own, ρ, S, Q => wpI it ρ S fun items ρ1 S1 => noOwn ρ1 (own.map (·.2)) ∧
    gnW k (fun d r => tgW tg d (wipeR r (own.map (·.2)))) (wpE elt) items ρ1 S1 fun d ρ2 S2 => Q d (backR ρ1 ρ2 (own.map (·.2))) S2
  | .popo i k, ρ, S, Q => (∃ ds, getS ρ i = .own ds) ∧ wpE k ρ S fun y ρ1 S1 => ∃ (ds : List D) (j : Nat) (d : D), getS ρ1 i = .own ds ∧ y = .int j ∧ ds[j]? = some d ∧ j < 2 ^ 62 ∧ Q d (ρ1.set i (.own (ds.eraseIdx j))) S1
  | .bx i k, ρ, S, Q => ∃ n j, getS ρ i = .v (.obj n) ∧ S[n]? = some (.box j) ∧ ((k = 0 ∧ Q (.cel n) ρ S) ∨ ((k = 1 ∨ k = 2) ∧ ∀ d : Int, 0 ≤ d → Q (.int d) ρ S))
  | .bxl i, ρ, S, Q => ∃ n j, getS ρ i = .v (.cel n) ∧ S[n]? = some (.box j) ∧ ∀ m : Nat, Q (.int m) ρ (S.set n (.box m))
  | .bxp i, ρ, S, Q => ∃ n j, getS ρ i = .v (.cel n) ∧ S[n]? = some (.box j) ∧ 0 < j ∧ ∀ z : Int, Q (.int z) ρ (S.set n (.box 0))
  | .popl i, ρ, S, Q => ∃ ds d, getS ρ i = .own ds ∧ ds[ds.length - 1]? = some d ∧ Q d (ρ.set i (.own ds.dropLast)) S
def wpEs : Es → Ro → Ss → KL → Prop
  | .nil, ρ, S, Q => Q [] ρ S
  | .cons e es, ρ, S, Q => wpE e ρ S fun x ρ1 S1 => wpEs es ρ1 S1 fun xs ρ2 S2 => Q (x :: xs) ρ2 S2
def wpO : Oe → Ro → Ss → (Option Int → Ro → Ss → Prop) → Prop
  | .no, ρ, S, Q => Q none ρ S
  | .so e, ρ, S, Q => wpE e ρ S fun x ρ1 S1 => ∃ i, x = .int i ∧ Q (some i) ρ1 S1
/-- and, or, as values: all but the last True or False -/
def wpB (k : Bool) : Es → Ro → Ss → KD → Prop
  | .nil, _, _, _ => False
  | .cons e .nil, ρ, S, Q => wpE e ρ S Q
  | .cons e (.cons e' es), ρ, S, Q => wpE e ρ S fun x ρ1 S1 => ∃ b, x = .bl b ∧ if b = k then wpB k (.cons e' es) ρ1 S1 Q else Q (.bl b) ρ1 S1
/-- as a test -/
def wpT : T → Ro → Ss → (Bool → Ro → Ss → Prop) → Prop
  | .of e, ρ, S, Q => wpE e ρ S fun x ρ1 S1 => optW (truV x) fun b => Q b ρ1 S1
  | .not a, ρ, S, Q => wpT a ρ S fun c ρ1 S1 => Q (!c) ρ1 S1
  | .bop k ts, ρ, S, Q => wpTB k ts ρ S Q
def wpTB (k : Bool) : Ts → Ro → Ss → (Bool → Ro → Ss → Prop) → Prop
  | .nil, _, _, _ => False
  | .cons t .nil, ρ, S, Q => wpT t ρ S Q
  | .cons t (.cons t' ts), ρ, S, Q => wpT t ρ S fun c ρ1 S1 => if c = k then wpTB k (.cons t' ts) ρ1 S1 Q else Q c ρ1 S1
/-- a comprehension's tests: one at most -/
def wpTs : Ts → Ro → Ss → (Bool → Ro → Ss → Prop) → Prop
  | .nil, ρ, S, Q => Q true ρ S
  | .cons t .nil, ρ, S, Q => wpT t ρ S Q
  | .cons _ (.cons _ _), _, _, _ => False
def wpI : It → Ro → Ss → KL → Prop
  | .of e, ρ, S, Q => wpE e ρ S fun x ρ1 S1 => ∃ ds, seqD x = some ds ∧ Q ds ρ1 S1
  | .own i, ρ, S, Q => ∃ ds, getS ρ i = .own ds ∧ Q ds ρ S
  | .range1 a, ρ, S, Q => wpE a ρ S fun x ρ1 S1 => ∃ i, x = .int i ∧ small62 i ∧ Q (rangeD 0 i.toNat) ρ1 S1
  | .range2 a b, ρ, S, Q => wpE a ρ S fun x ρ1 S1 => wpE b ρ1 S1 fun y ρ2 S2 => ∃ i j, x = .int i ∧ y = .int j ∧ small62 i ∧ small62 j ∧ Q (rangeD i (j - i).toNat) ρ2 S2
  | .enum a, ρ, S, Q => wpE a ρ S fun x ρ1 S1 => ∃ ds, seqD x = some ds ∧ Q (pairsD 0 ds) ρ1 S1
  | .zip a b, ρ, S, Q => wpE a ρ S fun x ρ1 S1 => wpE b ρ1 S1 fun y ρ2 S2 => (∃ ds es, x = .lst ds ∧ y = .lst es ∧ Q (zipD ds es) ρ2 S2) ∨ ∃ ds es, x = .tup ds ∧ y = .tup es ∧ Q (zipD ds es) ρ2 S2
end

/-! ### monotony -/
theorem optW_mono {α : Type} {o : Option (Prop × α)} {Q Q' : α → Prop} (h : optW o Q) (k : ∀ z, Q z → Q' z) : optW o Q' := by
  unfold optW at *
  split at h
  · exact ⟨h.1, k _ h.2⟩
  · exact h
theorem tgW_mono {t : Tg} {d : D} {ρ : Ro} {Q Q' : Ro → Prop} (h : tgW t d ρ Q) (k : ∀ r, Q r → Q' r) : tgW t d ρ Q' := by
  unfold tgW at *
  split at h
  · exact k _ h
  · exact ⟨h.1, k _ h.2⟩
  · exact h
def MonoT (t : Ro → Ss → (Bool → Ro → Ss → Prop) → Prop) : Prop := ∀ ρ S (Q Q' : Bool → Ro → Ss → Prop), t ρ S Q → (∀ d ρ' S', Q d ρ' S' → Q' d ρ' S') → t ρ S Q'
def MonoE (t : Ro → Ss → KD → Prop) : Prop := ∀ ρ S (Q Q' : KD), t ρ S Q → (∀ d ρ' S', Q d ρ' S' → Q' d ρ' S') → t ρ S Q'
def MonoG (t : D → Ro → (Ro → Prop) → Prop) : Prop := ∀ d ρ (Q Q' : Ro → Prop), t d ρ Q → (∀ ρ', Q ρ' → Q' ρ') → t d ρ Q'
theorem lcW_mono {tg} {t} {w} (hg : MonoG tg) (ht : MonoT t) (hw : MonoE w) : ∀ (xs acc : List D) {ρ : Ro} {S : Ss} {Q Q' : KL}, lcW tg t w xs acc ρ S Q → (∀ d ρ' S', Q d ρ' S' → Q' d ρ' S') → lcW tg t w xs acc ρ S Q'
  | [], acc, ρ, S, Q, Q', h, k => k _ _ _ h
  | x :: xs, acc, ρ, S, Q, Q', h, k => hg _ _ _ _ h fun ρ1 h1 => ht _ _ _ _ h1 fun b ρ2 S2 h2 => by
    cases b with
    | true =>
      simp only [if_true] at h2 ⊢
      exact hw _ _ _ _ h2 fun y ρ3 S3 h3 => ⟨h3.1, lcW_mono hg ht hw xs _ h3.2 k⟩
    | false =>
      simp only [Bool.false_eq_true, if_false] at h2 ⊢
      exact lcW_mono hg ht hw xs _ h2 k
theorem gnW_mono {c : Bool} {tg} {w} (hg : MonoG tg) (hw : MonoE w) : ∀ (xs : List D) {ρ : Ro} {S : Ss} {Q Q' : KD}, gnW c tg w xs ρ S Q → (∀ d ρ' S', Q d ρ' S' → Q' d ρ' S') → gnW c tg w xs ρ S Q'
  | [], ρ, S, Q, Q', h, k => k _ _ _ h
  | x :: xs, ρ, S, Q, Q', h, k => hg _ _ _ _ h fun ρ1 h1 => hw _ _ _ _ h1 fun y ρ2 S2 ⟨b, e, h2⟩ => ⟨b, e, by
    by_cases hb : b = c
    · rw [if_pos hb] at h2 ⊢
      exact gnW_mono hg hw xs h2 k
    · rw [if_neg hb] at h2 ⊢
      exact k _ _ _ h2⟩
theorem mono_if {c : Prop} [Decidable c] {A B A' B' : Prop} (h : if c then A else B) (ha : A → A') (hb : B → B') : if c then A' else B' := by
  by_cases hc : c
  · rw [if_pos hc] at h ⊢; exact ha h
  · rw [if_neg hc] at h ⊢; exact hb h
mutual
theorem monoE : ∀ (m : E) {ρ S} {Q Q' : KD}, wpE m ρ S Q → (∀ d ρ' S', Q d ρ' S' → Q' d ρ' S') → wpE m ρ S Q'
  | .var i, ρ, S, Q, Q', h, k => by
    unfold wpE at *
    split at h
    · exact k _ _ _ h
    · exact k _ _ _ h
    · exact h
  | .int i, ρ, S, Q, Q', h, k => k _ _ _ h
  | .str i, ρ, S, Q, Q', h, k => k _ _ _ h
  | .bl i, ρ, S, Q, Q', h, k => k _ _ _ h
  | .non, ρ, S, Q, Q', h, k => k _ _ _ h
  | .glo _ _, ρ, S, Q, Q', h, k => k _ _ _ h
  | .bin o a b, ρ, S, Q, Q', h, k => monoE a h fun x ρ1 S1 h1 => monoE b h1 fun y ρ2 S2 h2 => optW_mono h2 fun z => k z ρ2 S2
  | .neg a, ρ, S, Q, Q', h, k => monoE a h fun x ρ1 S1 ⟨i, e, q⟩ => ⟨i, e, k _ _ _ q⟩
  | .not a, ρ, S, Q, Q', h, k => monoE a h fun x ρ1 S1 ⟨i, e, q⟩ => ⟨i, e, k _ _ _ q⟩
  | .cmp o a b, ρ, S, Q, Q', h, k => monoE a h fun x ρ1 S1 h1 => monoE b h1 fun y ρ2 S2 h2 => optW_mono h2 fun z => k (.bl z) ρ2 S2
  | .chain o p a b c, ρ, S, Q, Q', h, k => monoE a h fun x ρ1 S1 h1 => monoE b h1 fun y ρ2 S2 h2 => optW_mono h2 fun z h3 => mono_if h3
      (fun h4 => monoE c h4 fun u ρ3 S3 h5 => optW_mono h5 fun z' => k (.bl z') ρ3 S3) (fun h4 => k _ _ _ h4)
  | .bop c es, ρ, S, Q, Q', h, k => monoB c es h k
  | .ite t a b, ρ, S, Q, Q', h, k => monoT t h fun c ρ1 S1 h1 => mono_if h1 (fun h2 => monoE a h2 k) (fun h2 => monoE b h2 k)
  | .tup es, ρ, S, Q, Q', h, k => monoEs es h fun ds ρ1 S1 h1 => ⟨h1.1, k _ _ _ h1.2⟩
  | .lst es, ρ, S, Q, Q', h, k => monoEs es h fun ds ρ1 S1 h1 => ⟨h1.1, k _ _ _ h1.2⟩
  | .ix a b, ρ, S, Q, Q', h, k => monoE a h fun x ρ1 S1 h1 => monoE b h1 fun y ρ2 S2 h2 => optW_mono h2 fun z => k z ρ2 S2
  | .ixo i b, ρ, S, Q, Q', h, k => ⟨h.1, monoE b h.2 fun y ρ1 S1 ⟨ds, h0, h1⟩ => ⟨ds, h0, optW_mono h1 fun z => k z ρ1 S1⟩⟩
  | .sl a lo hi, ρ, S, Q, Q', h, k => monoE a h fun x ρ1 S1 h1 => monoO lo h1 fun l ρ2 S2 h2 => monoO hi h2 fun u ρ3 S3 h3 => optW_mono h3 fun z => k z ρ3 S3
  | .slo i lo hi, ρ, S, Q, Q', h, k => ⟨h.1, monoO lo h.2 fun l ρ2 S2 h2 => monoO hi h2 fun u ρ3 S3 ⟨ds, h0, h3⟩ => ⟨ds, h0, optW_mono h3 fun z => k z ρ3 S3⟩⟩
  | .rev a, ρ, S, Q, Q', h, k => monoE a h fun x ρ1 S1 ⟨i, e, q⟩ => ⟨i, e, k _ _ _ q⟩
  | .leno i, ρ, S, Q, Q', ⟨ds, h0, h⟩, k => ⟨ds, h0, optW_mono h fun z => k z ρ S⟩
  | .call _ C es, ρ, S, Q, Q', h, k => monoEs es h fun ds ρ1 S1 ⟨h0, Q0, h1, h2⟩ => ⟨h0, Q0, h1, fun d S' q => k _ _ _ (h2 d S' q)⟩
  | .bc f es, ρ, S, Q, Q', h, k => monoEs es h fun ds ρ1 S1 h1 => optW_mono h1 fun z => k z ρ1 S1
  | .isi a ty, ρ, S, Q, Q', h, k => monoE a h fun x ρ1 S1 ⟨i, e, q⟩ => ⟨i, e, k _ _ _ q⟩
  | .inr a lo hi, ρ, S, Q, Q', h, k => monoE a h fun x ρ1 S1 h1 => monoE lo h1 fun y ρ2 S2 h2 => monoE hi h2 fun z ρ3 S3 ⟨i, j, l, e1, e2, e3, s1, s2, q⟩ => ⟨i, j, l, e1, e2, e3, s1, s2, k _ _ _ q⟩
  | .comp elt tg it ifs own, ρ, S, Q, Q', h, k => monoI it h fun items ρ1 S1 ⟨h0, h1⟩ => ⟨h0, lcW_mono (tg := fun d r => tgW tg d (wipeR r (own.map (·.2)))) (t := wpTs ifs) (w := wpE elt) (fun _ _ _ _ a b => tgW_mono a b) (fun _ _ _ _ a b => monoTs ifs a b) (fun _ _ _ _ a b => monoE elt a b) _ _ h1 fun ds ρ2 S2 h2 => k (.lst ds) _ S2 h2⟩
  | .gen c elt tg it own, ρ, S, Q, Q', h, k => monoI it h fun items ρ1 S1 ⟨h0, h1⟩ => ⟨h0, gnW_mono (tg := fun d r => tgW tg d (wipeR r (own.map (·.2)))) (w := wpE elt) (fun _ _ _ _ a b => tgW_mono a b) (fun _ _ _ _ a b => monoE elt a b) _ h1 fun ds ρ2 S2 h2 => k ds _ S2 h2⟩
  | .popo i e, ρ, S, Q, Q', h, k => ⟨h.1, monoE e h.2 fun y ρ1 S1 ⟨ds, j, d, e0, e1, e2, e3, q⟩ => ⟨ds, j, d, e0, e1, e2, e3, k _ _ _ q⟩⟩
  | .bx i _, ρ, S, Q, Q', ⟨n, j, e0, e1, q⟩, k => ⟨n, j, e0, e1, q.imp (fun ⟨h, q⟩ => ⟨h, k _ _ _ q⟩) fun ⟨h, q⟩ => ⟨h, fun d hd => k _ _ _ (q d hd)⟩⟩
  | .bxl i, ρ, S, Q, Q', ⟨n, j, e0, e1, q⟩, k => ⟨n, j, e0, e1, fun m => k _ _ _ (q m)⟩
  | .bxp i, ρ, S, Q, Q', ⟨n, j, e0, e1, e2, q⟩, k => ⟨n, j, e0, e1, e2, fun m => k _ _ _ (q m)⟩
  | .popl i, ρ, S, Q, Q', ⟨ds, d, e0, e1, q⟩, k => ⟨ds, d, e0, e1, k _ _ _ q⟩
theorem monoEs : ∀ (m : Es) {ρ S} {Q Q' : KL}, wpEs m ρ S Q → (∀ d ρ' S', Q d ρ' S' → Q' d ρ' S') → wpEs m ρ S Q'
  | .nil, ρ, S, Q, Q', h, k => k _ _ _ h
  | .cons e es, ρ, S, Q, Q', h, k => monoE e h fun x ρ1 S1 h1 => monoEs es h1 fun xs ρ2 S2 h2 => k _ _ _ h2
theorem monoO : ∀ (m : Oe) {ρ S} {Q Q' : Option Int → Ro → Ss → Prop}, wpO m ρ S Q → (∀ d ρ' S', Q d ρ' S' → Q' d ρ' S') → wpO m ρ S Q'
  | .no, ρ, S, Q, Q', h, k => k _ _ _ h
  | .so e, ρ, S, Q, Q', h, k => monoE e h fun x ρ1 S1 ⟨i, e, q⟩ => ⟨i, e, k _ _ _ q⟩
theorem monoB (c : Bool) : ∀ (m : Es) {ρ S} {Q Q' : KD}, wpB c m ρ S Q → (∀ d ρ' S', Q d ρ' S' → Q' d ρ' S') → wpB c m ρ S Q'
  | .nil, ρ, S, Q, Q', h, k => h
  | .cons e .nil, ρ, S, Q, Q', h, k => monoE e h k
  | .cons e (.cons e' es), ρ, S, Q, Q', h, k => monoE e h fun x ρ1 S1 ⟨b, eb, q⟩ => ⟨b, eb, mono_if q (fun q => monoB c (.cons e' es) q k) (fun q => k _ _ _ q)⟩
theorem monoT : ∀ (m : T) {ρ S} {Q Q' : Bool → Ro → Ss → Prop}, wpT m ρ S Q → (∀ d ρ' S', Q d ρ' S' → Q' d ρ' S') → wpT m ρ S Q'
  | .of e, ρ, S, Q, Q', h, k => monoE e h fun x ρ1 S1 h1 => optW_mono h1 fun z => k z ρ1 S1
  | .not a, ρ, S, Q, Q', h, k => monoT a h fun c ρ1 S1 h1 => k _ _ _ h1
  | .bop c ts, ρ, S, Q, Q', h, k => monoTB c ts h k
theorem monoTB (c : Bool) : ∀ (m : Ts) {ρ S} {Q Q' : Bool → Ro → Ss → Prop}, wpTB c m ρ S Q → (∀ d ρ' S', Q d ρ' S' → Q' d ρ' S') → wpTB c m ρ S Q'
  | .nil, ρ, S, Q, Q', h, k => h
  | .cons e .nil, ρ, S, Q, Q', h, k => monoT e h k
  | .cons e (.cons e' es), ρ, S, Q, Q', h, k => monoT e h fun x ρ1 S1 q => mono_if q (fun q => monoTB c (.cons e' es) q k) (fun q => k _ _ _ q)
theorem monoTs : ∀ (m : Ts) {ρ S} {Q Q' : Bool → Ro → Ss → Prop}, wpTs m ρ S Q → (∀ d ρ' S', Q d ρ' S' → Q' d ρ' S') → wpTs m ρ S Q'
  | .nil, ρ, S, Q, Q', h, k => k _ _ _ h
  | .cons e .nil, ρ, S, Q, Q', h, k => monoT e h k
  | .cons e (.cons e' es), ρ, S, Q, Q', h, k => h
theorem monoI : ∀ (m : It) {ρ S} {Q Q' : KL}, wpI m ρ S Q → (∀ d ρ' S', Q d ρ' S' → Q' d ρ' S') → wpI m ρ S Q'
  | .of e, ρ, S, Q, Q', h, k => monoE e h fun x ρ1 S1 ⟨ds, e, q⟩ => ⟨ds, e, k _ _ _ q⟩
  | .own i, ρ, S, Q, Q', ⟨ds, e0, h⟩, k => ⟨ds, e0, k _ _ _ h⟩
  | .range1 a, ρ, S, Q, Q', h, k => monoE a h fun x ρ1 S1 ⟨i, e, s, q⟩ => ⟨i, e, s, k _ _ _ q⟩
  | .range2 a b, ρ, S, Q, Q', h, k => monoE a h fun x ρ1 S1 h1 => monoE b h1 fun y ρ2 S2 ⟨i, j, e1, e2, s1, s2, q⟩ => ⟨i, j, e1, e2, s1, s2, k _ _ _ q⟩
  | .enum a, ρ, S, Q, Q', h, k => monoE a h fun x ρ1 S1 ⟨ds, e, q⟩ => ⟨ds, e, k _ _ _ q⟩
  | .zip a b, ρ, S, Q, Q', h, k => monoE a h fun x ρ1 S1 h1 => monoE b h1 fun y ρ2 S2 h2 => h2.elim (fun ⟨ds, es, e1, e2, q⟩ => .inl ⟨ds, es, e1, e2, k _ _ _ q⟩) (fun ⟨ds, es, e1, e2, q⟩ => .inr ⟨ds, es, e1, e2, k _ _ _ q⟩)
end
end Py
set_option Elab.async false
set_option linter.all false
set_option maxRecDepth 100000
set_option maxHeartbeats 4000000
/-! Each construct's rule, over data by value. -/
namespace Py
open PySem PySem.Spec PyProof.Rows L2 GxR

/-! ### readings -/
def tW (e : Ent) (w : Ro → Ss → KD → Prop) : TE := fun σ H Q => ∃ ρ S F G, SR e ρ S F G σ H ∧ w ρ S fun d ρ' S' => ∀ v F' G' H', SR e ρ' S' F' G' σ H' → Rp e.K F' G' v d → Ext F G F' G' → Q v H'
def tWs (e : Ent) (w : Ro → Ss → KL → Prop) : TA := fun σ H Q => ∃ ρ S F G, SR e ρ S F G σ H ∧ w ρ S fun ds ρ' S' => ∀ vs F' G' H', SR e ρ' S' F' G' σ H' → RpAll e.K F' G' vs ds → Ext F G F' G' → Q vs H'
def tWt (e : Ent) (w : Ro → Ss → (Bool → Ro → Ss → Prop) → Prop) : TT := fun σ H Q => ∃ ρ S F G, SR e ρ S F G σ H ∧ w ρ S fun b ρ' S' => ∀ F' G' H', SR e ρ' S' F' G' σ H' → Ext F G F' G' → Q b H'
def tWo (e : Ent) (w : Ro → Ss → (Option Int → Ro → Ss → Prop) → Prop) : TO := fun σ H Q => ∃ ρ S F G, SR e ρ S F G σ H ∧ w ρ S fun b ρ' S' => ∀ F' G' H', SR e ρ' S' F' G' σ H' → Ext F G F' G' → Q b H'
/-- a fresh list -/
structure Fr1 (e : Ent) (ρ : Ro) (σ : L2.St) (F : Hp) (G : Gs) (H : Hp) (a : Addr) (ds : List D) : Prop where
  own : OwnA e F G a
  lst : ∃ vs, H a = some (.lst vs) ∧ RpAll e.K F G vs ds
  no : ∀ j es, getS ρ j = .own es → σ[j]? ≠ some (some (.ref a))
def tL (e : Ent) (w : Ro → Ss → KL → Prop) : TE := fun σ H Q => ∃ ρ S F G, SR e ρ S F G σ H ∧ w ρ S fun ds ρ' S' => ∀ a F' G' H', SR e ρ' S' F' G' σ H' → Fr1 e ρ' σ F' G' H' a ds → Ext F G F' G' → Q (.ref a) H'

section
variable {X : Cx} {x : Expr}
theorem PE.imp {t t' : TE} (h : PE X x t) (k : ∀ σ H Q, t' σ H Q → t σ H Q) : PE X x t' := ⟨fun pins s σ H Q I hw => h.run pins s σ H Q I (k σ H Q hw)⟩
theorem PT.imp {t t' : TT} (h : PT X x t) (k : ∀ σ H Q, t' σ H Q → t σ H Q) : PT X x t' := ⟨fun pins s σ H Q I hw => h.run pins s σ H Q I (k σ H Q hw)⟩
theorem PA.imp {xs : List Expr} {t t' : TA} (h : PA X xs t) (k : ∀ σ H Q, t' σ H Q → t σ H Q) : PA X xs t' := ⟨fun pos pins s σ H Q I hw => h.run pos pins s σ H Q I (k σ H Q hw)⟩
theorem PI.imp {tg : Expr} {t t' : TI} (h : PI X tg x t) (k : ∀ σ H R, t' σ H R → t σ H R) : PI X tg x t' := ⟨fun pins s σ H R I hw => h.run pins s σ H R I (k σ H R hw)⟩
theorem PG.imp {t t' : TG} (h : PG X x t) (k : ∀ v σ H Q, t' v σ H Q → t v σ H Q) : PG X x t' := ⟨fun pins s σ H v u Q I r hw => h.run pins s σ H v u Q I r (k v σ H Q hw)⟩
theorem PS.imp {st : Stmt} {t t' : TS} (h : PS X st t) (k : ∀ D σ H, t' D σ H → t D σ H) : PS X st t' := ⟨fun pins s σ H D I hw => h.run pins s σ H D I (k D σ H hw)⟩
theorem PSs.imp {st : List Stmt} {t t' : TS} (h : PSs X st t) (k : ∀ D σ H, t' D σ H → t D σ H) : PSs X st t' := ⟨fun pins s σ H D I hw => h.run pins s σ H D I (k D σ H hw)⟩
end
section
variable {e : Ent} {ρ : Ro} {S S' : Ss} {F F' : Hp} {G G' : Gs} {σ : L2.St} {H H' : Hp}
/-- a fresh list is made -/
theorem SR.fresh (s : SR e ρ S F G σ H) {p : Addr} {vs : List V} {ds : List D} (h : H p = none) (r : RpAll e.K F G vs ds) : SR e ρ S F G σ (upd H p (.lst vs)) ∧ Fr1 e ρ σ F G (upd H p (.lst vs)) p ds :=
  ⟨s.new h, s.ownNew h, ⟨vs, upd_same, r⟩, fun j es hj z => by
    obtain ⟨a, ws, h1, h2, _⟩ := s.own hj
    rw [h1] at z
    cases z
    rw [h] at h2; cases h2⟩
/-- a fresh list is, from now on, to stay -/
theorem Fr1.freeze {a : Addr} {ds : List D} (f : Fr1 e ρ σ F G H a ds) (s : SR e ρ S F G σ H) : ∃ F', SR e ρ S F' G σ H ∧ Rp e.K F' G (.ref a) (.lst ds) ∧ Ext F G F' G := by
  obtain ⟨vs, h1, h2⟩ := f.lst
  have x : Ext F G (upd F a (.lst vs)) G := Ext.frz f.own.f
  refine ⟨upd F a (.lst vs), s.step (s.g.frz h1 f.own.h0 f.own.f f.own.g f.own.t) x (fun b ws q1 q2 ⟨j, es, q3, q4⟩ => ⟨q1, q2.newF fun z => ?_⟩), .lst upd_same (h2.ext x), x⟩
  subst z
  exact f.no j es q3 q4
theorem Rp.there {K : PySem.W.Frag} {v : V} {d : D} (h : Rp K F G v d) (f : ∀ a o, F a = some o → H a = some o) : ∀ {py}, toPy d = some py → Dp K H v py := fun {py} hp => by
  have key : (∀ (d : D) (v : V) (py : PyData), Rp K F G v d → toPy d = some py → Dp K H v py) := by
    intro d
    exact D.rec (motive_1 := fun d => ∀ (v : V) (py : PyData), Rp K F G v d → toPy d = some py → Dp K H v py)
      (motive_2 := fun ds => ∀ (vs : List V) (ps : List PyData), RpAll K F G vs ds → toPys ds = some ps → DpAll K H vs ps)
      (fun v py h e => by cases h; cases e; exact .non) (fun b v py h e => by cases h; cases e; exact .bl b) (fun i v py h e => by cases h; cases e; exact .int i) (fun x v py h e => by cases h; cases e; exact .str x)
      (fun ds ih v py h e => by
        cases h with
        | tup h1 h2 =>
          unfold toPy at e
          cases q : toPys ds with
          | none => rw [q] at e; cases e
          | some ps => rw [q] at e; cases e; exact .tup (SqT.ext f h1) (ih _ _ h2 q))
      (fun ds ih v py h e => by
        cases h with
        | lst h1 h2 =>
          unfold toPy at e
          cases q : toPys ds with
          | none => rw [q] at e; cases e
          | some ps => rw [q] at e; cases e; exact .lst (.inl (.inl (f _ _ h1))) (ih _ _ h2 q))
      (fun n v py h e => by cases e) (fun n v py h e => by cases e) (fun n v py h e => by cases e)
      (fun vs ps h e => by cases h; cases e; exact .nil)
      (fun d ds ihd ihs vs ps h e => by
        cases h with
        | cons h1 h2 =>
          unfold toPys at e
          cases q : toPy d with
          | none => rw [q] at e; cases e
          | some p =>
            cases q2 : toPys ds with
            | none => rw [q, q2] at e; cases e
            | some ps' => rw [q, q2] at e; cases e; exact .cons (ihd _ _ h1 q) (ihs _ _ h2 q2)) d
  exact key d v py h hp
theorem Rp.flat {K : PySem.W.Frag} {v : V} {d : D} (h : Rp K F G v d) (f : flatD d = true) : flatV v = true := by
  cases h <;> first | rfl | cases f
theorem flatEq_ok {K : PySem.W.Frag} {v u : V} {d c : D} (h : Rp K F G v d) (h' : Rp K F G u c) (f : flatD d = true) (f' : flatD c = true) : eqV v u = flatEq d c := by
  cases h <;> cases h' <;> first | rfl | cases f | cases f'
theorem inD_ok {K : PySem.W.Frag} {v : V} {d : D} (h : Rp K F G v d) (f : flatD d = true) : ∀ {us : List V} {cs : List D}, RpAll K F G us cs → cs.all flatD = true → us.all flatV = true ∧ inV v us = cs.any fun y => flatEq y d
  | _, _, .nil, _ => ⟨rfl, rfl⟩
  | _, _, .cons a r, q => by
    rw [List.all_cons, Bool.and_eq_true] at q
    obtain ⟨h1, h2⟩ := inD_ok h f r q.2
    refine ⟨by rw [List.all_cons, a.flat q.1, h1]; rfl, ?_⟩
    show (List.any _ _) = _
    rw [List.any_cons, List.any_cons, flatEq_ok a h q.1 f]
    have : inV v _ = _ := h2
    unfold inV at this
    rw [this]
end

/-! ### any rule of an operator, at will -/
section
variable {X : Cx}
def rAny (X : Cx) (f : Value → Value → Sem Value) : R2 := fun x y H Q => ∃ r, OpR X f r ∧ r x y H Q
theorem rAny_ok (f : Value → Value → Sem Value) : OpR X f (rAny X f) := fun pins s σ H x y v u Q I rx ry ⟨r, hr, h⟩ => hr pins s σ H x y v u Q I rx ry h
def cAny (X : Cx) (f : Value) : List V → Hp → VK → Prop := fun xs H Q => ∃ r, CallR X f r ∧ r xs H Q
theorem cAny_ok (f : Value) : CallR X f (cAny X f) := fun pins s σ H xs us Q I r ⟨q, hq, h⟩ => hq pins s σ H xs us Q I r h
def iAny (X : Cx) : R2 := fun x y H Q => ∃ r, IxR X r ∧ r x y H Q
theorem iAny_ok : IxR X (iAny X) := fun a b pins s σ H x y v u Q I rx ry ⟨r, hr, h⟩ => hr a b pins s σ H x y v u Q I rx ry h
def sAny (X : Cx) : V → Option Int → Option Int → Hp → VK → Prop := fun x lo hi H Q => ∃ r, SlR X r ∧ r x lo hi H Q
theorem sAny_ok : SlR X (sAny X) := fun pins s σ H x v vl vu lo hi sl Q I rx hs pl pu ⟨r, hr, h⟩ => hr pins s σ H x v vl vu lo hi sl Q I rx hs pl pu h
end

/-- what behind an operation holds: data, some of it new -/
def Beh (e : Ent) (ρ : Ro) (S : Ss) (σ : L2.St) (F : Hp) (G : Gs) (Q : VK) (d : D) : Prop := ∀ v F' G' H', SR e ρ S F' G' σ H' → Rp e.K F' G' v d → Ext F G F' G' → Q v H'
section
variable {e : Ent} {ρ : Ro} {S : Ss} {F : Hp} {G : Gs} {σ : L2.St} {H : Hp} {Q : VK}
theorem Beh.here {d : D} {v : V} (b : Beh e ρ S σ F G Q d) (s : SR e ρ S F G σ H) (r : Rp e.K F G v d) : Q v H := b v F G H s r (Ext.refl _ _)
theorem Beh.tup {ds : List D} {vs : List V} {p : Addr} (b : Beh e ρ S σ F G Q (.tup ds)) (s : SR e ρ S F G σ H) (h : H p = none) (r : RpAll e.K F G vs ds) : Q (.ref p) (upd H p (.tup vs)) := by
  have x : Ext F G (upd F p (.tup vs)) G := Ext.frz (s.g.noneF h)
  exact b _ _ G _ (s.newF h) (.tup (.inl (.inl upd_same)) (r.ext x)) x
theorem Beh.lst {ds : List D} {vs : List V} {p : Addr} (b : Beh e ρ S σ F G Q (.lst ds)) (s : SR e ρ S F G σ H) (h : H p = none) (r : RpAll e.K F G vs ds) : Q (.ref p) (upd H p (.lst vs)) := by
  have x : Ext F G (upd F p (.lst vs)) G := Ext.frz (s.g.noneF h)
  exact b _ _ G _ (s.newF h) (.lst upd_same (r.ext x)) x
theorem SR.sqT {a : Addr} {vs : List V} (s : SR e ρ S F G σ H) (h : SqT e.K F a vs) : SqT e.K H a vs := SqT.ext s.g.sub h
theorem SR.sqL {a : Addr} {vs : List V} (s : SR e ρ S F G σ H) (h : SqL e.K F a vs) : SqL e.K H a vs := SqL.ext s.g.sub h
end

/-! ### the operators -/
theorem rep_flat {α β : Type} {R : List α → List β → Prop} (h0 : R [] []) (ha : ∀ a b c d, R a b → R c d → R (a ++ c) (b ++ d)) {xs : List α} {ys : List β} (h : R xs ys) : ∀ n : Nat, R (List.replicate n xs).flatten (List.replicate n ys).flatten
  | 0 => h0
  | n + 1 => by
    rw [List.replicate_succ, List.replicate_succ, List.flatten_cons, List.flatten_cons]
    exact ha _ _ _ _ h (rep_flat h0 ha h n)
section
variable {X : Cx} {e : Ent} {ρ : Ro} {S : Ss} {F : Hp} {G : Gs} {σ : L2.St} {H : Hp} {Q : VK} {v u : V} {x y : D}
theorem nil_of {K : PySem.W.Frag} : ∀ {vs : List V} {ds : List D}, RpAll K F G vs ds → (vs = [] ↔ ds = [])
  | _, _, .nil => by simp
  | _, _, .cons _ _ => by simp
/-- list + list, whatever the tracked parts -/
theorem bin_ok (hK : X.K = e.K) {o : Operator} (s : SR e ρ S F G σ H) (rx : Rp e.K F G v x) (ry : Rp e.K F G u y) (h : optW (binV o x y) (Beh e ρ S σ F G Q)) : rAny X (binaryOp o) v u H Q := by
  unfold optW at h
  split at h
  · rename_i c z hz
    obtain ⟨hc, b⟩ := h
    unfold binV at hz
    split at hz <;> cases hz
    · cases rx; cases ry; exact ⟨_, op_add, _, _, rfl, rfl, b.here s (.int _)⟩
    · cases rx; cases ry; exact ⟨_, op_sub, _, _, rfl, rfl, b.here s (.int _)⟩
    · cases rx; cases ry; exact ⟨_, op_mul, _, _, rfl, rfl, hc, b.here s (.int _)⟩
    · cases rx; cases ry; exact ⟨_, op_fdiv, _, _, rfl, rfl, hc, b.here s (.int _)⟩
    · cases rx; cases ry; exact ⟨_, op_mod, _, _, rfl, rfl, hc, b.here s (.int _)⟩
    · cases rx; cases ry; exact ⟨_, op_add_str, _, _, rfl, rfl, hc, b.here s (.str _)⟩
    · cases rx with
      | @tup a xs _ h1 h2 =>
        cases ry with
        | @tup a2 ys _ h3 h4 =>
          refine ⟨_, op_catA, a, a2, xs, ys, rfl, rfl, ?_, ?_, ?_, fun q => ?_, fun q1 q2 => ?_, fun q1 q2 p hp => ?_⟩
          · rw [hK]; exact s.sqT h1
          · rw [hK]; exact s.sqT h3
          · rw [h2.length, h4.length]; exact hc
          · have := (nil_of h2).mp q
            subst this
            exact b.here s (.tup h3 h4)
          · have := (nil_of h4).mp q2
            subst this
            rw [List.append_nil] at b
            exact b.here s (.tup h1 h2)
          · exact b.tup s hp (h2.append h4)
    · cases rx with
      | @lst a xs _ h1 h2 =>
        cases ry with
        | @lst a2 ys _ h3 h4 =>
          refine ⟨_, op_cat, a, a2, xs, ys, rfl, rfl, s.g.sub _ _ h1, s.g.sub _ _ h3, ?_, fun p hp => b.lst s hp (h2.append h4)⟩
          rw [h2.length, h4.length]; exact hc.2.2
    · rename_i xs k
      cases rx with
      | @tup a us _ h1 h2 =>
        cases ry
        have hT : SqT X.K H a us := by rw [hK]; exact s.sqT h1
        by_cases c1 : us = [] ∨ k = 1
        · refine ⟨_, op_rep1, a, k, us, rfl, rfl, hT, c1, hc.1, hc.2.1, ?_⟩
          have e : (List.replicate k.toNat xs).flatten = xs := by
            rcases c1 with c | c
            · have := (nil_of h2).mp c
              subst this
              induction k.toNat with
              | zero => rfl
              | succ n ih => rw [List.replicate_succ, List.flatten_cons, ih]; rfl
            · subst c; simp
          rw [e] at b
          exact b.here s (.tup h1 h2)
        · have n1 : us ≠ [] := fun z => c1 (.inl z)
          have n2 : k ≠ 1 := fun z => c1 (.inr z)
          by_cases c0 : k = 0
          · subst c0
            exact ⟨_, op_rep0, a, us, rfl, rfl, hT, n1, fun p hp => b.tup s hp (by simp; exact .nil)⟩
          · refine ⟨_, op_repT, a, k, us, rfl, rfl, hT, n1, by have := hc.1; omega, hc.2.1, by rw [h2.length]; exact hc.2.2, fun p hp => b.tup s hp ?_⟩
            exact rep_flat (R := RpAll e.K F G) .nil (fun _ _ _ _ a b => a.append b) h2 _
  · exact h.elim
end

theorem op_isB {X : Cx} : OpR X (compareOp .Is) (fun x y H Q => ∃ a b, x = .bl a ∧ y = .bl b ∧ Q (.bl (a == b)) H) := by
  intro pins s σ H x y v u Q I rx ry h
  obtain ⟨a, b, rfl, rfl, q⟩ := h
  cases rx; cases ry
  exact is_bool (fin_bl I q rfl)
theorem op_isnotB {X : Cx} : OpR X (compareOp .IsNot) (fun x y H Q => ∃ a b, x = .bl a ∧ y = .bl b ∧ Q (.bl (!(a == b))) H) := by
  intro pins s σ H x y v u Q I rx ry h
  obtain ⟨a, b, rfl, rfl, q⟩ := h
  cases rx; cases ry
  exact isnot_bool (fin_bl I q rfl)
theorem mapB_some {f : Bool → Bool} {o : Option (Prop × Bool)} {c : Prop} {z : Bool} (h : mapB f o = some (c, z)) : ∃ b, o = some (c, b) ∧ z = f b := by
  unfold mapB at h
  split at h
  · cases h; exact ⟨_, rfl, rfl⟩
  · cases h
theorem dEq_some {x y : D} {c : Prop} {z : Bool} (h : dEq x y = some (c, z)) : ∃ a b, toPy x = some a ∧ toPy y = some b ∧ c = (SeqAt.shaped a = true ∧ SeqAt.shaped b = true) ∧ z = PyData.eqv a b := by
  unfold dEq at h
  split at h
  · cases h; exact ⟨_, _, by assumption, by assumption, rfl, rfl⟩
  · cases h
section
variable {X : Cx} {e : Ent} {ρ : Ro} {S : Ss} {F : Hp} {G : Gs} {σ : L2.St} {H : Hp} {v u : V} {x y : D}
theorem isN_ok {K : PySem.W.Frag} (r : Rp K F G v x) : decide (v = .non) = isN x := by
  cases r <;> first | rfl | exact decide_eq_false (fun z => nomatch z)
theorem cmp_ok (hK : X.K = e.K) (hu : X.A.units + 64 < cLine) {o : CmpOp} {Q : VK} (s : SR e ρ S F G σ H) (rx : Rp e.K F G v x) (ry : Rp e.K F G u y) (h : optW (cmpV o x y) fun z => Q (.bl z) H) : rAny X (compareOp o) v u H Q := by
  unfold optW at h
  split at h
  · rename_i c z hz
    obtain ⟨hc, b⟩ := h
    have key : ∀ (ys : List D), flatD x = true ∧ ys.all flatD = true → (∃ p us, u = .ref p ∧ (SqL e.K H p us ∨ SqT e.K H p us) ∧ RpAll e.K F G us ys) → ∃ p us, u = .ref p ∧ (SqL X.K H p us ∨ SqT X.K H p us) ∧ flatV v = true ∧ us.all flatV = true ∧ inV v us = ys.any fun y => flatEq y x := fun ys hf ⟨p, us, e1, e2, e3⟩ => by
      obtain ⟨q1, q2⟩ := inD_ok rx hf.1 e3 hf.2
      exact ⟨p, us, e1, by rw [hK]; exact e2, rx.flat hf.1, q1, q2⟩
    unfold cmpV at hz
    split at hz
    · obtain ⟨a, a2, h1, h2, rfl, rfl⟩ := dEq_some hz
      exact ⟨_, op_eqD hu, a, a2, by rw [hK]; exact rx.there s.g.sub h1, by rw [hK]; exact ry.there s.g.sub h2, hc.1, hc.2, b⟩
    · obtain ⟨z', h0, rfl⟩ := mapB_some hz
      obtain ⟨a, a2, h1, h2, rfl, rfl⟩ := dEq_some h0
      exact ⟨_, op_neD hu, a, a2, by rw [hK]; exact rx.there s.g.sub h1, by rw [hK]; exact ry.there s.g.sub h2, hc.1, hc.2, b⟩
    · cases hz; cases rx; cases ry; exact ⟨_, op_lt, _, _, rfl, rfl, b⟩
    · cases hz; cases rx; cases ry; exact ⟨_, op_le, _, _, rfl, rfl, b⟩
    · cases hz; cases rx; cases ry; exact ⟨_, op_gt, _, _, rfl, rfl, b⟩
    · cases hz; cases rx; cases ry; exact ⟨_, op_ge, _, _, rfl, rfl, b⟩
    · cases hz; cases ry; exact ⟨_, op_isN, rfl, by rw [isN_ok rx]; exact b⟩
    · cases hz; cases ry; exact ⟨_, op_notN, rfl, by rw [isN_ok rx]; exact b⟩
    · cases hz; cases rx; cases ry; exact ⟨_, op_isB, _, _, rfl, rfl, b⟩
    · cases hz; cases rx; cases ry; exact ⟨_, op_isnotB, _, _, rfl, rfl, b⟩
    · cases hz
      cases ry with
      | @tup p us _ h1 h2 =>
        obtain ⟨p, us, e1, e2, e3, e4, e5⟩ := key _ hc ⟨p, us, rfl, .inr (s.sqT h1), h2⟩
        refine ⟨_, op_in_seq, p, us, e1, e2, e3, e4, ?_⟩
        rw [if_neg Bool.false_ne_true, e5]; exact b
    · cases hz
      cases ry with
      | @lst p us _ h1 h2 =>
        obtain ⟨p, us, e1, e2, e3, e4, e5⟩ := key _ hc ⟨p, us, rfl, .inl (.of (s.g.sub _ _ h1)), h2⟩
        refine ⟨_, op_in_seq, p, us, e1, e2, e3, e4, ?_⟩
        rw [if_neg Bool.false_ne_true, e5]; exact b
    · cases hz
      cases ry with
      | @tup p us _ h1 h2 =>
        obtain ⟨p, us, e1, e2, e3, e4, e5⟩ := key _ hc ⟨p, us, rfl, .inr (s.sqT h1), h2⟩
        refine ⟨_, op_notIn_seq, p, us, e1, e2, e3, e4, ?_⟩
        rw [if_pos rfl, e5]; exact b
    · cases hz
      cases ry with
      | @lst p us _ h1 h2 =>
        obtain ⟨p, us, e1, e2, e3, e4, e5⟩ := key _ hc ⟨p, us, rfl, .inl (.of (s.g.sub _ _ h1)), h2⟩
        refine ⟨_, op_notIn_seq, p, us, e1, e2, e3, e4, ?_⟩
        rw [if_pos rfl, e5]; exact b
    · cases hz; cases rx; cases ry; exact ⟨_, op_in_str, _, _, rfl, rfl, b⟩
    · cases hz; cases rx; cases ry; exact ⟨_, op_notIn_str, _, _, rfl, rfl, b⟩
    · cases hz
  · exact h.elim
theorem tru_okD {K : PySem.W.Frag} {k : Bool → Prop} (s : SR e ρ S F G σ H) (hK : K = e.K) (rx : Rp e.K F G v x) (h : optW (truV x) k) : ∃ b, TruV K v H b ∧ k b := by
  subst hK
  unfold optW at h
  split at h
  · rename_i c z hz
    obtain ⟨hc, q⟩ := h
    cases rx with
    | non => cases hz; exact ⟨_, rfl, q⟩
    | bl b => cases hz; exact ⟨_, rfl, q⟩
    | int i => cases hz; exact ⟨_, rfl, q⟩
    | str x => cases hz; refine ⟨_, ⟨hc, rfl⟩, ?_⟩; (have : ((x.length : Int) != 0) = (x.length != 0) := by (rw [Bool.eq_iff_iff]; simp)); rw [this]; exact q
    | @tup a us ds h1 h2 =>
      cases hz
      refine ⟨_, .inr (.inl ⟨us, s.sqT h1, rfl⟩), ?_⟩
      cases h2 <;> exact q
    | @lst a us ds h1 h2 =>
      cases hz
      refine ⟨_, .inl ⟨us, .of (s.g.sub _ _ h1), rfl⟩, ?_⟩
      cases h2 <;> exact q
    | obj h => cases hz
    | scr h => cases hz
    | cel h => cases hz
  · exact h.elim
theorem someT_some {α : Type} {o : Option α} {c : Prop} {z : α} (h : someT o = some (c, z)) : o = some z := by
  unfold someT at h
  split at h <;> cases h
  rfl
theorem atD_ok {K : PySem.W.Frag} {us : List V} {ds : List D} (r : RpAll K F G us ds) {i : Int} {d : D} (h : atD ds i = some d) : ∃ w, atI us i = some w ∧ Rp K F G w d := by
  unfold atD atI at h
  cases q : ixN ds.length i with
  | none => rw [q] at h; cases h
  | some j =>
    rw [q] at h
    obtain ⟨w, h1, h2⟩ := r.getD (i := j) h
    refine ⟨w, ?_, h2⟩
    unfold atI
    rw [r.length, q]
    exact h1
theorem ix_ok (hK : X.K = e.K) {Q : VK} (s : SR e ρ S F G σ H) (rx : Rp e.K F G v x) (ry : Rp e.K F G u y) (h : optW (ixV x y) (Beh e ρ S σ F G Q)) : iAny X v u H Q := by
  unfold optW at h
  split at h
  · rename_i c z hz
    obtain ⟨hc, b⟩ := h
    unfold ixV at hz
    split at hz
    · have hz := someT_some hz
      cases ry
      cases rx with
      | @tup p us _ h1 h2 =>
        obtain ⟨w, q1, q2⟩ := atD_ok h2 hz
        exact ⟨_, ix_tup, p, us, _, w, rfl, rfl, by rw [hK]; exact s.sqT h1, q1, b.here s q2⟩
    · have hz := someT_some hz
      cases ry
      cases rx with
      | @lst p us _ h1 h2 =>
        obtain ⟨w, q1, q2⟩ := atD_ok h2 hz
        exact ⟨_, ix_list, p, us, _, w, rfl, rfl, .of (s.g.sub _ _ h1), q1, b.here s q2⟩
    · split at hz
      · cases hz; cases rx; cases ry
        exact ⟨_, ix_str, _, _, _, rfl, rfl, hc, by assumption, b.here s (.str _)⟩
      · cases hz
    · cases hz
  · exact h.elim
theorem cut_ok {K : PySem.W.Frag} {us : List V} {ds : List D} (r : RpAll K F G us ds) (lo hi : Option Int) : RpAll K F G (cutV us lo hi) (cutD ds lo hi) := by
  unfold cutV cutD
  rw [r.length]
  exact (r.drop _).take _
theorem sl_ok (hK : X.K = e.K) {Q : VK} {lo hi : Option Int} (s : SR e ρ S F G σ H) (rx : Rp e.K F G v x) (h : optW (slV x lo hi) (Beh e ρ S σ F G Q)) : sAny X v lo hi H Q := by
  unfold optW at h
  split at h
  · rename_i c z hz
    obtain ⟨hc, b⟩ := h
    unfold slV at hz
    split at hz <;> cases hz
    · cases rx with
      | @tup p us _ h1 h2 =>
        refine ⟨_, sl_tupA, p, us, rfl, by rw [hK]; exact s.sqT h1, fun q => ?_, fun q p' hp => b.tup s hp (cut_ok h2 lo hi)⟩
        have : cutD _ lo hi = _ := show cutD _ lo hi = _ from by
          unfold cutD
          rw [← h2.length, q.1, q.2, List.drop_zero, Nat.sub_zero, List.take_of_length_le (Nat.le_of_eq h2.length.symm)]
        rw [this] at b
        exact b.here s (.tup h1 h2)
    · cases rx with
      | @lst p us _ h1 h2 =>
        exact ⟨_, sl_list, p, us, rfl, .of (s.g.sub _ _ h1), fun p' hp => b.lst s hp (cut_ok h2 lo hi)⟩
    · cases rx
      exact ⟨_, sl_str, _, rfl, hc, b.here s (.str _)⟩
  · exact h.elim
theorem ints_ok {K : PySem.W.Frag} : ∀ {us : List V} {ds : List D} {ns : List Int}, RpAll K F G us ds → intsD ds = some ns → us = ns.map V.int
  | _, [], _, .nil, h => by cases h; rfl
  | _, d :: ds, ns, .cons a r, h => by
    unfold intsD at h
    split at h
    · rename_i hh; cases hh
    · rename_i i r' hr
      cases hr
      cases q : intsD ds with
      | none => rw [q] at h; cases h
      | some ms =>
        rw [q] at h; cases h
        cases a
        rw [ints_ok r q]; rfl
    · cases h
theorem bools_ok {K : PySem.W.Frag} : ∀ {us : List V} {ds : List D} {ns : List Bool}, RpAll K F G us ds → boolsD ds = some ns → us = ns.map V.bl
  | _, [], _, .nil, h => by cases h; rfl
  | _, d :: ds, ns, .cons a r, h => by
    unfold boolsD at h
    split at h
    · rename_i hh; cases hh
    · rename_i i r' hr
      cases hr
      cases q : boolsD ds with
      | none => rw [q] at h; cases h
      | some ms =>
        rw [q] at h; cases h
        cases a
        rw [bools_ok r q]; rfl
    · cases h
end

/-! ### greatest and least of a tuple of ints -/
section
variable {prog : Program} {w : World} {A : Around} {E : Value → Shared → Prop} {s : Shared} {l : Addr} {its : List Value} {ns : List Int} {Q : Value → Shared → Prop}
theorem iter_intTup {xs : Array (Int × Tok)} (hl : s.heap.IsTuple l (intItems xs))
    (h : ∀ s₂ : Shared, s₂ = { s with heap := s.heap.push { cls := .type "tuple_iterator", data := .fields #[.ref l, .int 0 0] } } →
      (s₂.heap.IsTupleIter s.heap.objs.size l 0 ∧ s₂.heap.IsTuple l (intItems xs)) → (∀ b ∈ [s.heap.objs.size, l], b < s₂.heap.objs.size) → l ≠ s.heap.objs.size → Q (.ref s.heap.objs.size) s₂) :
    wpAny (model prog w) A (pyIter (.ref l)) Q E s := by
  have hlt : l < s.heap.objs.size := by obtain ⟨_, e, _⟩ := hl; exact Heap.lt_size e
  refine wpAny_pyIter_tuple hl (h _ rfl ⟨⟨_, Heap.get?_push_size _ rfl, rfl, rfl⟩, hl.push _⟩ (fun b hb => ?_) (Nat.ne_of_lt hlt))
  show b < (s.heap.push _).objs.size
  rw [Heap.size_push]
  rcases List.mem_cons.mp hb with rfl | hb
  · exact Nat.lt_succ_self _
  · rcases List.mem_cons.mp hb with rfl | hb
    · exact Nat.lt_succ_of_lt hlt
    · cases hb
theorem old_keptT {h' : Heap} (hk : ∀ b o, b ∉ [s.heap.objs.size] → (s.heap.push { cls := .type "tuple_iterator", data := .fields #[.ref l, .int 0 0] }).get? b = some o → h'.get? b = some o) :
    ∀ b o, s.heap.get? b = some o → h'.get? b = some o := fun b o e => by
  refine hk b o (fun hm => ?_) (Heap.get?_push_of_some _ e)
  rcases List.mem_cons.mp hm with e1 | hm
  · exact absurd (e1 ▸ Heap.lt_size e) (Nat.lt_irrefl _)
  · cases hm
theorem max_rawT (hh : A.handled = none) (hl : s.heap.IsTuple l its.toArray) (hi : IntsAre its ns) (hne : 0 < ns.length)
    (h : ∀ h' tk M t', (∀ b o, s.heap.get? b = some o → h'.get? b = some o) → M ∈ ns → (∀ a, a ∈ ns → a ≤ M) → Q (.int M t') { s with heap := h', toks := tk }) : wpAny (model prog w) A (call (.builtin "max") [.ref l]) Q E s := by
  obtain ⟨xs, e⟩ := hi.allInts.items
  have hn : numsOf (intItems xs).toList = ns := by rw [← e]; exact hi.numsOf
  rw [nums_intItems] at hn
  subst hn
  rw [e] at hl
  have hsz : 0 < xs.size := by simpa using hne
  refine call_max_walk (iter_intTup hl fun s₂ e st hfp hlI => ?_)
  subst e
  refine ⟨_, _, _, _, _, _, _, rfl, Walks.tuple (A := A.in1) hh _ l hlI (intItems xs), st, hfp, by simpa [intItems] using hsz, CmpOf.ints_gt (numAt xs) (fun _ _ => intItems_at), fun v h' tk hP hk => ?_⟩
  have hv : (intItems xs)[argBest (fun i j => decide (numAt xs i > numAt xs j)) (xs.size - 1)]? = some v := by simpa [intItems] using hP
  obtain ⟨t, rfl⟩ := intItems_at hv
  obtain ⟨h1, h2⟩ := argBest_gt (numAt xs) (xs.size - 1)
  refine h h' tk _ t (old_keptT hk) ?_ fun a ha => ?_
  · rw [numAt_eq]; exact PySem.getD_mem (by rw [List.length_map, Array.length_toList]; omega)
  · obtain ⟨j, hj, rfl⟩ := mem_getD ha
    rw [List.length_map, Array.length_toList] at hj
    rw [← numAt_eq]; exact h2 j (by omega)
theorem min_rawT (hh : A.handled = none) (hl : s.heap.IsTuple l its.toArray) (hi : IntsAre its ns) (hne : 0 < ns.length)
    (h : ∀ h' tk M t', (∀ b o, s.heap.get? b = some o → h'.get? b = some o) → M ∈ ns → (∀ a, a ∈ ns → M ≤ a) → Q (.int M t') { s with heap := h', toks := tk }) : wpAny (model prog w) A (call (.builtin "min") [.ref l]) Q E s := by
  obtain ⟨xs, e⟩ := hi.allInts.items
  have hn : numsOf (intItems xs).toList = ns := by rw [← e]; exact hi.numsOf
  rw [nums_intItems] at hn
  subst hn
  rw [e] at hl
  have hsz : 0 < xs.size := by simpa using hne
  refine call_min_walk (iter_intTup hl fun s₂ e st hfp hlI => ?_)
  subst e
  refine ⟨_, _, _, _, _, _, _, rfl, Walks.tuple (A := A.in1) hh _ l hlI (intItems xs), st, hfp, by simpa [intItems] using hsz, CmpOf.ints_lt (numAt xs) (fun _ _ => intItems_at), fun v h' tk hP hk => ?_⟩
  have hv : (intItems xs)[argBest (fun i j => decide (numAt xs i < numAt xs j)) (xs.size - 1)]? = some v := by simpa [intItems] using hP
  obtain ⟨t, rfl⟩ := intItems_at hv
  obtain ⟨h1, h2⟩ := argBest_lt (numAt xs) (xs.size - 1)
  refine h h' tk _ t (old_keptT hk) ?_ fun a ha => ?_
  · rw [numAt_eq]; exact PySem.getD_mem (by rw [List.length_map, Array.length_toList]; omega)
  · obtain ⟨j, hj, rfl⟩ := mem_getD ha
    rw [List.length_map, Array.length_toList] at hj
    rw [← numAt_eq]; exact h2 j (by omega)
end
section
variable {X : Cx}
theorem cr_maxT (hc : X.calm = true) : CallR X (.builtin "max") (fun vs H Q => ∃ (a : Addr) (ns : List Int), vs = [V.ref a] ∧ SqT X.K H a (ns.map V.int) ∧ 0 < ns.length ∧ ∀ m, m ∈ ns → (∀ y, y ∈ ns → y ≤ m) → Q (.int m) H) := by
  intro pins s σ H vs us Q I r h
  obtain ⟨a, ns, rfl, hs, hne, q⟩ := h
  obtain ⟨its, rv, hl, _⟩ := I.tuple hs
  rw [Vals.ref1 r]
  exact max_rawT (I.ok.hd hc) (show s.heap.IsTuple a its.toArray from hl) rv.ints hne fun h' tk m t' hk h1 h2 => ⟨.int _, H, I.kept hk, ⟨_, rfl⟩, q m h1 h2⟩
theorem cr_minT (hc : X.calm = true) : CallR X (.builtin "min") (fun vs H Q => ∃ (a : Addr) (ns : List Int), vs = [V.ref a] ∧ SqT X.K H a (ns.map V.int) ∧ 0 < ns.length ∧ ∀ m, m ∈ ns → (∀ y, y ∈ ns → m ≤ y) → Q (.int m) H) := by
  intro pins s σ H vs us Q I r h
  obtain ⟨a, ns, rfl, hs, hne, q⟩ := h
  obtain ⟨its, rv, hl, _⟩ := I.tuple hs
  rw [Vals.ref1 r]
  exact min_rawT (I.ok.hd hc) (show s.heap.IsTuple a its.toArray from hl) rv.ints hne fun h' tk m t' hk h1 h2 => ⟨.int _, H, I.kept hk, ⟨_, rfl⟩, q m h1 h2⟩
end
theorem foldl_max_le : ∀ (r : List Int) (x : Int), x ≤ r.foldl max x ∧ (∀ y ∈ r, y ≤ r.foldl max x) ∧ (r.foldl max x = x ∨ r.foldl max x ∈ r)
  | [], x => ⟨Int.le_refl _, fun _ h => (by cases h), .inl rfl⟩
  | y :: r, x => by
    obtain ⟨h1, h2, h3⟩ := foldl_max_le r (max x y)
    show x ≤ r.foldl max (max x y) ∧ _ ∧ _
    refine ⟨by omega, fun z hz => ?_, ?_⟩
    · rcases List.mem_cons.mp hz with rfl | hz
      · show _ ≤ r.foldl max (max x _); omega
      · exact h2 z hz
    · show r.foldl max (max x y) = x ∨ r.foldl max (max x y) ∈ y :: r
      rcases h3 with h3 | h3
      · rw [h3]
        by_cases h : x ≤ y
        · right; rw [Int.max_eq_right h]; exact List.mem_cons_self
        · left; exact Int.max_eq_left (by omega)
      · right; exact List.mem_cons_of_mem _ h3
theorem foldl_min_le : ∀ (r : List Int) (x : Int), r.foldl min x ≤ x ∧ (∀ y ∈ r, r.foldl min x ≤ y) ∧ (r.foldl min x = x ∨ r.foldl min x ∈ r)
  | [], x => ⟨Int.le_refl _, fun _ h => (by cases h), .inl rfl⟩
  | y :: r, x => by
    obtain ⟨h1, h2, h3⟩ := foldl_min_le r (min x y)
    show r.foldl min (min x y) ≤ x ∧ _ ∧ _
    refine ⟨by omega, fun z hz => ?_, ?_⟩
    · rcases List.mem_cons.mp hz with rfl | hz
      · show r.foldl min (min x _) ≤ _; omega
      · exact h2 z hz
    · show r.foldl min (min x y) = x ∨ r.foldl min (min x y) ∈ y :: r
      rcases h3 with h3 | h3
      · rw [h3]
        by_cases h : x ≤ y
        · left; exact Int.min_eq_left h
        · right; rw [Int.min_eq_right (by omega)]; exact List.mem_cons_self
      · right; exact List.mem_cons_of_mem _ h3
theorem maxI_mem {ns : List Int} (h : ns ≠ []) : maxI ns ∈ ns ∧ ∀ y ∈ ns, y ≤ maxI ns := by
  cases ns with
  | nil => exact absurd rfl h
  | cons x r =>
    obtain ⟨h1, h2, h3⟩ := foldl_max_le r x
    refine ⟨?_, fun y hy => ?_⟩
    · show r.foldl max x ∈ x :: r
      rcases h3 with h3 | h3
      · rw [h3]; exact List.mem_cons_self
      · exact List.mem_cons_of_mem _ h3
    · rcases List.mem_cons.mp hy with rfl | hy
      · exact h1
      · exact h2 y hy
theorem minI_mem {ns : List Int} (h : ns ≠ []) : minI ns ∈ ns ∧ ∀ y ∈ ns, minI ns ≤ y := by
  cases ns with
  | nil => exact absurd rfl h
  | cons x r =>
    obtain ⟨h1, h2, h3⟩ := foldl_min_le r x
    refine ⟨?_, fun y hy => ?_⟩
    · show r.foldl min x ∈ x :: r
      rcases h3 with h3 | h3
      · rw [h3]; exact List.mem_cons_self
      · exact List.mem_cons_of_mem _ h3
    · rcases List.mem_cons.mp hy with rfl | hy
      · exact h1
      · exact h2 y hy
theorem maxI_unique {ns : List Int} {m : Int} (h1 : m ∈ ns) (h2 : ∀ y ∈ ns, y ≤ m) : m = maxI ns := by
  have hn : ns ≠ [] := fun z => by rw [z] at h1; cases h1
  obtain ⟨a, b⟩ := maxI_mem hn
  have := h2 _ a
  have := b _ h1
  omega
theorem minI_unique {ns : List Int} {m : Int} (h1 : m ∈ ns) (h2 : ∀ y ∈ ns, m ≤ y) : m = minI ns := by
  have hn : ns ≠ [] := fun z => by rw [z] at h1; cases h1
  obtain ⟨a, b⟩ := minI_mem hn
  have := h2 _ a
  have := b _ h1
  omega
theorem sortI_perm (ns : List Int) : (sortI ns).Perm ns := List.mergeSort_perm _ _
theorem sortI_pw (ns : List Int) : (sortI ns).Pairwise (· ≤ ·) := by
  have := List.pairwise_mergeSort (le := fun a b : Int => decide (a ≤ b)) (fun a b c h1 h2 => by simp at *; omega) (fun a b => by simp; omega) ns
  exact this.imp fun h => by simpa using h
theorem sorted_unique : ∀ {l l' : List Int}, l.Perm l' → l.Pairwise (· ≤ ·) → l'.Pairwise (· ≤ ·) → l = l'
  | [], l', p, _, _ => by simpa using p.symm
  | x :: r, [], p, _, _ => by simpa using p
  | x :: r, y :: r', p, h1, h2 => by
    have e : x = y := by
      have hx : x ∈ y :: r' := p.mem_iff.mp List.mem_cons_self
      have hy : y ∈ x :: r := p.mem_iff.mpr List.mem_cons_self
      have a1 : x ≤ y := by
        rcases List.mem_cons.mp hy with e | h
        · omega
        · exact (List.pairwise_cons.mp h1).1 y h
      have a2 : y ≤ x := by
        rcases List.mem_cons.mp hx with e | h
        · omega
        · exact (List.pairwise_cons.mp h2).1 x h
      omega
    subst e
    rw [sorted_unique ((List.perm_cons x).mp p) (List.pairwise_cons.mp h1).2 (List.pairwise_cons.mp h2).2]
theorem RpAll.vals {K : PySem.W.Frag} {F : Hp} {G : Gs} (r : RpAll K F G vs ds) : vs.length = ds.length := r.length
section
variable {X : Cx} {e : Ent} {ρ : Ro} {S : Ss} {F : Hp} {G : Gs} {σ : L2.St} {H : Hp}
def biName : Bi → Str × Value
  | .len => ("len", .builtin "len")
  | .int => ("int", .type "int")
  | .tuple => ("tuple", .type "tuple")
  | .list => ("list", .type "list")
  | .max1 => ("max", .builtin "max")
  | .min1 => ("min", .builtin "min")
  | .max2 => ("max", .builtin "max")
  | .min2 => ("min", .builtin "min")
  | .sum => ("sum", .builtin "sum")
  | .all => ("all", .builtin "all")
  | .any => ("any", .builtin "any")
  | .sorted => ("sorted", .builtin "sorted")
  | .sset => ("sorted", .builtin "sorted")
  | .abs => ("abs", .builtin "abs")
theorem intsOf_some {x : D} {ns : List Int} (h : intsOf x = some ns) : (∃ ds, x = .tup ds ∧ intsD ds = some ns) ∨ ∃ ds, x = .lst ds ∧ intsD ds = some ns := by
  unfold intsOf at h
  cases x with
  | tup ds => exact .inl ⟨ds, rfl, h⟩
  | lst ds => exact .inr ⟨ds, rfl, h⟩
  | _ => cases h
theorem bc_ok (hK : X.K = e.K) (hcalm : X.calm = true) {f : Bi} (hf : f ≠ .sset) {Q : VK} {vs : List V} {ds : List D} (s : SR e ρ S F G σ H) (r : RpAll e.K F G vs ds) (h : optW (bcV f ds) (Beh e ρ S σ F G Q)) : cAny X (biName f).2 vs H Q := by
  unfold optW at h
  split at h
  · rename_i c z hz
    obtain ⟨hc, b⟩ := h
    unfold bcV at hz
    split at hz
    · cases hz; cases r with
      | cons a r => cases r; cases a with
        | @tup p us _ h1 h2 => exact ⟨_, call_len_seq, p, us, rfl, .inr (by rw [hK]; exact s.sqT h1), by rw [h2.length]; exact b.here s (.int _)⟩
    · cases hz; cases r with
      | cons a r => cases r; cases a with
        | @lst p us _ h1 h2 => exact ⟨_, call_len_seq, p, us, rfl, .inl (.of (s.g.sub _ _ h1)), by rw [h2.length]; exact b.here s (.int _)⟩
    · cases hz; cases r with
      | cons a r => cases r; cases a; exact ⟨_, call_len_str, _, rfl, hc, b.here s (.int _)⟩
    · cases hz; cases r with
      | cons a r => cases r; cases a; exact ⟨_, call_int1, .inl ⟨_, rfl, b.here s (.int _)⟩⟩
    · cases hz; cases r with
      | cons a r => cases r; cases a; exact ⟨_, call_int1, .inr ⟨_, rfl, b.here s (.int _)⟩⟩
    · cases hz; cases r with
      | cons a r => cases r; cases a with
        | @tup p us _ h1 h2 => exact ⟨_, call_tuple_of, p, us, rfl, .inr ⟨by rw [hK]; exact s.sqT h1, b.here s (.tup h1 h2)⟩⟩
    · cases hz; cases r with
      | cons a r => cases r; cases a with
        | @lst p us _ h1 h2 => exact ⟨_, call_tuple_of, p, us, rfl, .inl ⟨.of (s.g.sub _ _ h1), fun l hl => b.tup s hl h2⟩⟩
    · cases hz; cases r with
      | cons a r => cases r; cases a with
        | @tup p us _ h1 h2 => exact ⟨_, call_list_of, p, us, rfl, .inr (by rw [hK]; exact s.sqT h1), fun l hl => b.lst s hl h2⟩
    · cases hz; cases r with
      | cons a r => cases r; cases a with
        | @lst p us _ h1 h2 => exact ⟨_, call_list_of, p, us, rfl, .inl (.of (s.g.sub _ _ h1)), fun l hl => b.lst s hl h2⟩
    · rename_i x
      cases q : intsOf x with
      | none => rw [q] at hz; cases hz
      | some ns =>
        rw [q] at hz; cases hz
        have hl : 0 < ns.length := List.length_pos_iff.mpr hc
        cases r with
        | cons a r => cases r; rcases intsOf_some q with ⟨ds, rfl, hd⟩ | ⟨ds, rfl, hd⟩
                      · cases a with
                        | @tup p us _ h1 h2 =>
                          have := ints_ok h2 hd
                          subst this
                          exact ⟨_, cr_maxT hcalm, p, ns, rfl, by rw [hK]; exact s.sqT h1, hl, fun m q1 q2 => by rw [maxI_unique q1 q2]; exact b.here s (.int _)⟩
                      · cases a with
                        | @lst p us _ h1 h2 =>
                          have := ints_ok h2 hd
                          subst this
                          exact ⟨_, cr_max hcalm, p, ns, rfl, .of (s.g.sub _ _ h1), hl, fun m q1 q2 => by rw [maxI_unique q1 q2]; exact b.here s (.int _)⟩
    · rename_i x
      cases q : intsOf x with
      | none => rw [q] at hz; cases hz
      | some ns =>
        rw [q] at hz; cases hz
        have hl : 0 < ns.length := List.length_pos_iff.mpr hc
        cases r with
        | cons a r => cases r; rcases intsOf_some q with ⟨ds, rfl, hd⟩ | ⟨ds, rfl, hd⟩
                      · cases a with
                        | @tup p us _ h1 h2 =>
                          have := ints_ok h2 hd
                          subst this
                          exact ⟨_, cr_minT hcalm, p, ns, rfl, by rw [hK]; exact s.sqT h1, hl, fun m q1 q2 => by rw [minI_unique q1 q2]; exact b.here s (.int _)⟩
                      · cases a with
                        | @lst p us _ h1 h2 =>
                          have := ints_ok h2 hd
                          subst this
                          exact ⟨_, cr_min hcalm, p, ns, rfl, .of (s.g.sub _ _ h1), hl, fun m q1 q2 => by rw [minI_unique q1 q2]; exact b.here s (.int _)⟩
    · cases hz; cases r with
      | cons a r => cases r with
        | cons a' r => cases r; cases a; cases a'; exact ⟨_, call_max2 hcalm, _, _, rfl, b.here s (.int _)⟩
    · cases hz; cases r with
      | cons a r => cases r with
        | cons a' r => cases r; cases a; cases a'; exact ⟨_, call_min2 hcalm, _, _, rfl, b.here s (.int _)⟩
    · rename_i ds
      cases q : intsD ds with
      | none => rw [q] at hz; cases hz
      | some ns =>
        rw [q] at hz; cases hz
        cases r with
        | cons a r => cases r; cases a with
                        | @lst p us _ h1 h2 =>
                          have := ints_ok h2 q
                          subst this
                          exact ⟨_, cr_sum hcalm, p, ns, rfl, .of (s.g.sub _ _ h1), b.here s (.int _)⟩
    · rename_i ds
      cases q : boolsD ds with
      | none => rw [q] at hz; cases hz
      | some ns =>
        rw [q] at hz; cases hz
        cases r with
        | cons a r => cases r; cases a with
                        | @lst p us _ h1 h2 =>
                          have := bools_ok h2 q
                          subst this
                          exact ⟨_, cr_all hcalm, p, ns, rfl, .of (s.g.sub _ _ h1), b.here s (.bl _)⟩
    · rename_i ds
      cases q : boolsD ds with
      | none => rw [q] at hz; cases hz
      | some ns =>
        rw [q] at hz; cases hz
        cases r with
        | cons a r => cases r; cases a with
                        | @lst p us _ h1 h2 =>
                          have := bools_ok h2 q
                          subst this
                          exact ⟨_, cr_any hcalm, p, ns, rfl, .of (s.g.sub _ _ h1), b.here s (.bl _)⟩
    · rename_i ds
      cases q : intsD ds with
      | none => rw [q] at hz; cases hz
      | some ns =>
        rw [q] at hz; cases hz
        cases r with
        | cons a r => cases r; cases a with
                        | @lst p us _ h1 h2 =>
                          have := ints_ok h2 q
                          subst this
                          refine ⟨_, cr_sortedI, p, ns, rfl, .of (s.g.sub _ _ h1), fun ns' p' e1 e2 hp => ?_⟩
                          have e3 : ns' = sortI ns := sorted_unique (e1.trans (sortI_perm ns).symm) e2 (sortI_pw ns)
                          subst e3
                          exact b.lst s hp (.ints _)
    · exact absurd rfl hf
    · cases hz; cases r with
      | cons a r => cases r; cases a; exact ⟨_, call_abs, _, rfl, b.here s (.int _)⟩
    · cases hz
  · exact h.elim
end
end Py
set_option Elab.async false
set_option linter.all false
set_option maxRecDepth 100000
set_option maxHeartbeats 4000000
/-! Each expression's rule. -/
namespace Py
open PySem PySem.Spec PyProof.Rows L2 GxR

section
variable {X : Cx} {e : Ent} {pos : Pos}
theorem pe_varD {i : Nat} {x : Str} (hN : X.N[i]? = some x) (hv : Vis X.env.scope x) (hd : (x == ("__debug__" : Str)) = false) (hcd : (x == ("__classdict__" : Str)) = false) : PE X (.Name x pos) (tW e (wpE (.var i))) := by
  refine PE.imp (pe_var hN hv hd hcd) fun σ H Q ⟨ρ, S, F, G, s, h⟩ => ?_
  unfold wpE at h
  split at h
  · rename_i d hd
    obtain ⟨v, h1, h2⟩ := s.val hd
    exact ⟨v, h1, h v F G H s h2 (Ext.refl _ _)⟩
  · rename_i ds hd
    obtain ⟨a, F', h1, h2, h3, h4⟩ := s.freeze hd
    exact ⟨.ref a, h1, h _ F' G H h4 h3 h2⟩
  · exact h.elim
theorem pe_k {x : Expr} {v : V} {d : D} {m : E} (h : PE X x (tC v)) (r : ∀ F G, Rp e.K F G v d) (hm : ∀ ρ S Q, wpE m ρ S Q → Q d ρ S) : PE X x (tW e (wpE m)) :=
  PE.imp h fun σ H Q ⟨ρ, S, F, G, s, h⟩ => hm _ _ _ h v F G H s (r _ _) (Ext.refl _ _)
theorem pe_intD {i : Int} {j} : PE X (.Constant (.int i) j pos) (tW e (wpE (.int i))) := pe_k pe_int (fun _ _ => .int _) fun _ _ _ h => h
theorem pe_strD {i : Str} {j} : PE X (.Constant (.str i) j pos) (tW e (wpE (.str i))) := pe_k pe_str (fun _ _ => .str _) fun _ _ _ h => h
theorem pe_blD {i : Bool} {j} : PE X (.Constant (.bool i) j pos) (tW e (wpE (.bl i))) := pe_k pe_bl (fun _ _ => .bl _) fun _ _ _ h => h
theorem pe_nonD {j} : PE X (.Constant .none j pos) (tW e (wpE .non)) := pe_k pe_non (fun _ _ => .non) fun _ _ _ h => h
theorem pe_gloD {x : Str} {d : D} {v : V} {u : Value} (hg : Gl X x) (hm : X.mg x = some u) (r : RelV v u) (rd : ∀ F G, Rp e.K F G v d) (hd : (x == ("__debug__" : Str)) = false) : PE X (.Name x pos) (tW e (wpE (.glo x d))) := pe_k (pe_glob hg hm r hd) rd fun _ _ _ h => h
variable {a b c : Expr} {ma mb mc : E}
/-- two in a row -/
theorem two_ok {σ : L2.St} {H : Hp} {R : V → V → Hp → Prop} {wa wb : Ro → Ss → KD → Prop} (ka : MonoE wa) (kb : MonoE wb) {ρ : Ro} {S : Ss} {F : Hp} {G : Gs} (s : SR e ρ S F G σ H) {K2 : D → D → Ro → Ss → Prop} (h : wa ρ S fun x ρ1 S1 => wb ρ1 S1 fun y ρ2 S2 => K2 x y ρ2 S2)
    (k : ∀ x y ρ2 S2, K2 x y ρ2 S2 → ∀ v u F2 G2 H2, SR e ρ2 S2 F2 G2 σ H2 → Rp e.K F2 G2 v x → Rp e.K F2 G2 u y → Ext F G F2 G2 → R v u H2) :
    tW e wa σ H fun v H1 => tW e wb σ H1 fun u H2 => R v u H2 :=
  ⟨ρ, S, F, G, s, ka _ _ _ _ h fun x ρ1 S1 h1 v F1 G1 H1 s1 r1 x1 => ⟨ρ1, S1, F1, G1, s1, kb _ _ _ _ h1 fun y ρ2 S2 h2 u F2 G2 H2 s2 r2 x2 => k x y ρ2 S2 h2 v u F2 G2 H2 s2 (r1.ext x2) r2 (x1.trans x2)⟩⟩
theorem mE (m : E) : MonoE (wpE m) := fun _ _ _ _ h k => monoE m h k
theorem pe_binD (hK : X.K = e.K) {o : Operator} (ha : PE X a (tW e (wpE ma))) (hb : PE X b (tW e (wpE mb))) : PE X (.BinOp a o b pos) (tW e (wpE (.bin o ma mb))) :=
  PE.imp (pe_op (rAny_ok (binaryOp o)) ha hb) fun σ H Q ⟨ρ, S, F, G, s, h⟩ => two_ok (mE ma) (mE mb) s h fun x y ρ2 S2 h2 v u F2 G2 H2 s2 r1 r2 x2 =>
    bin_ok hK s2 r1 r2 (optW_mono h2 fun z hz v' F3 G3 H3 s3 r3 x3 => hz v' F3 G3 H3 s3 r3 (x2.trans x3))
theorem pe_cmpD (hK : X.K = e.K) (hu : X.A.units + 64 < cLine) {o : CmpOp} (ha : PE X a (tW e (wpE ma))) (hb : PE X b (tW e (wpE mb))) (hm : behindInMarks o b = false) : PE X (.Compare a [o] [b] pos) (tW e (wpE (.cmp o ma mb))) :=
  PE.imp (pe_cmpR (rAny_ok (compareOp o)) ha hb hm) fun σ H Q ⟨ρ, S, F, G, s, h⟩ => two_ok (mE ma) (mE mb) s h fun x y ρ2 S2 h2 v u F2 G2 H2 s2 r1 r2 x2 =>
    cmp_ok hK hu s2 r1 r2 (optW_mono h2 fun z hz => hz (.bl z) F2 G2 H2 s2 (.bl z) x2)
theorem pt_cmpD (hK : X.K = e.K) (hu : X.A.units + 64 < cLine) {o : CmpOp} (ha : PE X a (tW e (wpE ma))) (hb : PE X b (tW e (wpE mb))) (hm : behindInMarks o b = false) : PT X (.Compare a [o] [b] pos) (tWt e (wpT (.of (.cmp o ma mb)))) :=
  PT.imp (pt_cmpR (rAny_ok (compareOp o)) ha hb hm) fun σ H Q ⟨ρ, S, F, G, s, h⟩ => two_ok (mE ma) (mE mb) s h fun x y ρ2 S2 h2 v u F2 G2 H2 s2 r1 r2 x2 =>
    cmp_ok (Q := fun x H' => ∃ k, x = .bl k ∧ Q k H') hK hu s2 r1 r2 (optW_mono h2 fun z hz => ⟨z, rfl, hz.2 F2 G2 H2 s2 x2⟩)
theorem chain_ok (hK : X.K = e.K) (hu : X.A.units + 64 < cLine) {o p : CmpOp} {σ : L2.St} {H : Hp} {Q : VK} {ρ : Ro} {S : Ss} {F : Hp} {G : Gs} {Kz : Bool → Ro → Ss → Prop} (s : SR e ρ S F G σ H)
    (h : wpE ma ρ S fun x ρ1 S1 => wpE mb ρ1 S1 fun y ρ2 S2 => optW (cmpV o x y) fun z => if z = true then wpE mc ρ2 S2 fun u ρ3 S3 => optW (cmpV p y u) fun z' => Kz z' ρ3 S3 else Kz false ρ2 S2)
    (kz : ∀ z ρ' S', Kz z ρ' S' → ∀ F' G' H', SR e ρ' S' F' G' σ H' → Ext F G F' G' → Q (.bl z) H') :
    tChain (rAny X (compareOp o)) (rAny X (compareOp p)) (tW e (wpE ma)) (tW e (wpE mb)) (tW e (wpE mc)) σ H Q :=
  two_ok (mE ma) (mE mb) s h fun x y ρ2 S2 h2 v u F2 G2 H2 s2 r1 r2 x2 =>
    cmp_ok (Q := fun z H3 => ∃ k, z = .bl k ∧ if k = true then tW e (wpE mc) σ H3 (fun w H4 => rAny X (compareOp p) u w H4 Q) else Q (.bl false) H3) hK hu s2 r1 r2 (optW_mono h2 fun z hz => ⟨z, rfl, by
      by_cases c : z = true
      · rw [if_pos c] at hz ⊢
        exact ⟨ρ2, S2, F2, G2, s2, monoE mc hz fun w ρ3 S3 h3 v3 F3 G3 H3 s3 r3 x3 => cmp_ok hK hu s3 (r2.ext x3) r3 (optW_mono h3 fun z' hz' => kz _ _ _ hz' F3 G3 H3 s3 (x2.trans x3))⟩
      · rw [if_neg c] at hz ⊢
        exact kz _ _ _ hz F2 G2 H2 s2 x2⟩)
theorem pe_chainD (hK : X.K = e.K) (hu : X.A.units + 64 < cLine) {o p : CmpOp} (ha : PE X a (tW e (wpE ma))) (hb : PE X b (tW e (wpE mb))) (hc : PE X c (tW e (wpE mc))) (hm : lastMarks [o, p] [b, c] = false) : PE X (.Compare a [o, p] [b, c] pos) (tW e (wpE (.chain o p ma mb mc))) :=
  PE.imp (pe_chain (rAny_ok (compareOp o)) (rAny_ok (compareOp p)) ha hb hc hm) fun σ H Q ⟨ρ, S, F, G, s, h⟩ => chain_ok hK hu s h fun z ρ' S' hz F' G' H' s' x' => hz _ F' G' H' s' (.bl _) x'
theorem pt_chainD (hK : X.K = e.K) (hu : X.A.units + 64 < cLine) {o p : CmpOp} (ha : PE X a (tW e (wpE ma))) (hb : PE X b (tW e (wpE mb))) (hc : PE X c (tW e (wpE mc))) (hm : lastMarks [o, p] [b, c] = false) : PT X (.Compare a [o, p] [b, c] pos) (tWt e (wpT (.of (.chain o p ma mb mc)))) :=
  PT.imp (pt_chain (rAny_ok (compareOp o)) (rAny_ok (compareOp p)) ha hb hc hm) fun σ H Q ⟨ρ, S, F, G, s, h⟩ => chain_ok (Q := fun x H' => ∃ k, x = .bl k ∧ Q k H') hK hu s h fun z ρ' S' hz F' G' H' s' x' => ⟨z, rfl, hz.2 F' G' H' s' x'⟩
theorem pe_negD (ha : PE X a (tW e (wpE ma))) : PE X (.UnaryOp .USub a pos) (tW e (wpE (.neg ma))) :=
  PE.imp (pe_un un_neg ha) fun σ H Q ⟨ρ, S, F, G, s, h⟩ => ⟨ρ, S, F, G, s, monoE ma h fun x ρ1 S1 ⟨i, ei, q⟩ v F1 G1 H1 s1 r1 x1 => by
    subst ei; cases r1; exact ⟨i, rfl, q _ F1 G1 H1 s1 (.int _) x1⟩⟩
theorem pe_notD (ha : PE X a (tW e (wpE ma))) : PE X (.UnaryOp .Not a pos) (tW e (wpE (.not ma))) :=
  PE.imp (pe_not ha) fun σ H Q ⟨ρ, S, F, G, s, h⟩ => ⟨ρ, S, F, G, s, monoE ma h fun x ρ1 S1 ⟨i, ei, q⟩ v F1 G1 H1 s1 r1 x1 => by
    subst ei; cases r1; exact ⟨i, rfl, q _ F1 G1 H1 s1 (.bl _) x1⟩⟩
theorem pt_ofD (ha : PE X a (tW e (wpE ma))) (hK : X.K = e.K) (he : ∀ whole, isTrue a X.env whole = (do let v ← whole; standAt a.pos; holding [v] (truthy v))) : PT X a (tWt e (wpT (.of ma))) :=
  PT.imp (pt_truth ha he) fun σ H Q ⟨ρ, S, F, G, s, h⟩ => ⟨ρ, S, F, G, s, monoE ma h fun x ρ1 S1 h1 v F1 G1 H1 s1 r1 x1 => by
    obtain ⟨k, h2, h3⟩ := tru_okD (k := fun b => ∀ F' G' H', SR e ρ1 S1 F' G' σ H' → Ext F G F' G' → Q b H') s1 hK r1 h1
    exact ⟨k, h2, h3 F1 G1 H1 s1 x1⟩⟩
variable {ta tb : T}
theorem pt_notD (ha : PT X a (tWt e (wpT ta))) : PT X (.UnaryOp .Not a pos) (tWt e (wpT (.not ta))) :=
  PT.imp (pt_not ha) fun σ H Q ⟨ρ, S, F, G, s, h⟩ => ⟨ρ, S, F, G, s, monoT ta h fun c ρ1 S1 h1 F1 G1 H1 s1 x1 => h1 F1 G1 H1 s1 x1⟩
theorem pe_iteD (hc : PT X c (tWt e (wpT ta))) (ha : PE X a (tW e (wpE ma))) (hb : PE X b (tW e (wpE mb))) : PE X (.IfExp c a b pos) (tW e (wpE (.ite ta ma mb))) :=
  PE.imp (pe_ifExp hc ha hb) fun σ H Q ⟨ρ, S, F, G, s, h⟩ => ⟨ρ, S, F, G, s, monoT ta h fun c ρ1 S1 h1 F1 G1 H1 s1 x1 => by
    by_cases hc : c = true
    · rw [if_pos hc] at h1 ⊢
      exact ⟨ρ1, S1, F1, G1, s1, monoE ma h1 fun d ρ2 S2 h2 v F2 G2 H2 s2 r2 x2 => h2 v F2 G2 H2 s2 r2 (x1.trans x2)⟩
    · rw [if_neg hc] at h1 ⊢
      exact ⟨ρ1, S1, F1, G1, s1, monoE mb h1 fun d ρ2 S2 h2 v F2 G2 H2 s2 r2 x2 => h2 v F2 G2 H2 s2 r2 (x1.trans x2)⟩⟩
/-! ### and, or -/
theorem pe_bop1 {op : BoolOp} {k : Bool} (ha : PE X a (tW e (wpE ma))) : PE X (.BoolOp op [a] pos) (tW e (wpB k (.cons ma .nil))) :=
  PE.imp (pe_one ha) fun σ H Q ⟨ρ, S, F, G, s, h⟩ => ⟨ρ, S, F, G, s, h⟩
theorem pe_andD {rest : List Expr} {m2 : E} {ms : Es} (ha : PE X a (tW e (wpE ma))) (hb : PE X (.BoolOp .And (b :: rest) pos) (tW e (wpB true (.cons m2 ms)))) : PE X (.BoolOp .And (a :: b :: rest) pos) (tW e (wpB true (.cons ma (.cons m2 ms)))) :=
  PE.imp (pe_and ha hb) fun σ H Q ⟨ρ, S, F, G, s, h⟩ => ⟨ρ, S, F, G, s, monoE ma h fun x ρ1 S1 ⟨z, ez, q⟩ v F1 G1 H1 s1 r1 x1 => by
    subst ez; cases r1
    refine ⟨z, rfl, ?_⟩
    by_cases c : z = true
    · rw [if_pos c] at q ⊢
      exact ⟨ρ1, S1, F1, G1, s1, monoB true _ q fun d ρ2 S2 h2 v F2 G2 H2 s2 r2 x2 => h2 v F2 G2 H2 s2 r2 (x1.trans x2)⟩
    · rw [if_neg c] at q ⊢
      have : z = false := by simpa using c
      subst this
      exact q _ F1 G1 H1 s1 (.bl _) x1⟩
theorem pe_orD {rest : List Expr} {m2 : E} {ms : Es} (ha : PE X a (tW e (wpE ma))) (hb : PE X (.BoolOp .Or (b :: rest) pos) (tW e (wpB false (.cons m2 ms)))) : PE X (.BoolOp .Or (a :: b :: rest) pos) (tW e (wpB false (.cons ma (.cons m2 ms)))) :=
  PE.imp (pe_or ha hb) fun σ H Q ⟨ρ, S, F, G, s, h⟩ => ⟨ρ, S, F, G, s, monoE ma h fun x ρ1 S1 ⟨z, ez, q⟩ v F1 G1 H1 s1 r1 x1 => by
    subst ez; cases r1
    refine ⟨z, rfl, ?_⟩
    by_cases c : z = true
    · rw [if_neg (by rw [c]; decide)] at q
      rw [if_pos c]
      subst c
      exact q _ F1 G1 H1 s1 (.bl _) x1
    · have : z = false := by simpa using c
      rw [if_pos this] at q
      rw [if_neg c]
      exact ⟨ρ1, S1, F1, G1, s1, monoB false _ q fun d ρ2 S2 h2 v F2 G2 H2 s2 r2 x2 => h2 v F2 G2 H2 s2 r2 (x1.trans x2)⟩⟩
theorem PW.imp {x : Expr} {t t' : TT} (h : PW X x t) (k : ∀ σ H Q, t' σ H Q → t σ H Q) : PW X x t' := ⟨fun wh pins s σ H Q I hw => h.run wh pins s σ H Q I (k σ H Q hw)⟩
theorem pw_and1D {k : Bool} (ha : PT X a (tWt e (wpT ta))) : PW X (.BoolOp .And [a] pos) (tWt e (wpTB k (.cons ta .nil))) :=
  PW.imp (pw_and1 ha) fun σ H Q ⟨ρ, S, F, G, s, h⟩ => ⟨ρ, S, F, G, s, h⟩
theorem pw_or1D {k : Bool} (ha : PT X a (tWt e (wpT ta))) : PW X (.BoolOp .Or [a] pos) (tWt e (wpTB k (.cons ta .nil))) :=
  PW.imp (pw_or1 ha) fun σ H Q ⟨ρ, S, F, G, s, h⟩ => ⟨ρ, S, F, G, s, h⟩
theorem pw_andD {rest : List Expr} {t2 : T} {ts : Ts} (ha : PT X a (tWt e (wpT ta))) (hb : PW X (.BoolOp .And (b :: rest) pos) (tWt e (wpTB true (.cons t2 ts)))) : PW X (.BoolOp .And (a :: b :: rest) pos) (tWt e (wpTB true (.cons ta (.cons t2 ts)))) :=
  PW.imp (pw_and ha hb) fun σ H Q ⟨ρ, S, F, G, s, h⟩ => ⟨ρ, S, F, G, s, monoT ta h fun z ρ1 S1 q F1 G1 H1 s1 x1 => by
    by_cases c : z = true
    · rw [if_pos c] at q ⊢
      exact ⟨ρ1, S1, F1, G1, s1, monoTB true _ q fun d ρ2 S2 h2 F2 G2 H2 s2 x2 => h2 F2 G2 H2 s2 (x1.trans x2)⟩
    · rw [if_neg c] at q ⊢
      have : z = false := by simpa using c
      subst this
      exact q F1 G1 H1 s1 x1⟩
theorem pw_orD {rest : List Expr} {t2 : T} {ts : Ts} (ha : PT X a (tWt e (wpT ta))) (hb : PW X (.BoolOp .Or (b :: rest) pos) (tWt e (wpTB false (.cons t2 ts)))) : PW X (.BoolOp .Or (a :: b :: rest) pos) (tWt e (wpTB false (.cons ta (.cons t2 ts)))) :=
  PW.imp (pw_or ha hb) fun σ H Q ⟨ρ, S, F, G, s, h⟩ => ⟨ρ, S, F, G, s, monoT ta h fun z ρ1 S1 q F1 G1 H1 s1 x1 => by
    show if z = true then _ else _
    by_cases c : z = true
    · rw [if_neg (by rw [c]; decide)] at q
      rw [if_pos c]
      subst c
      exact q F1 G1 H1 s1 x1
    · have : z = false := by simpa using c
      rw [if_pos this] at q
      rw [if_neg c]
      exact ⟨ρ1, S1, F1, G1, s1, monoTB false _ q fun d ρ2 S2 h2 F2 G2 H2 s2 x2 => h2 F2 G2 H2 s2 (x1.trans x2)⟩⟩
/-! ### lists of arguments -/
theorem pa_nilD : PA X [] (tWs e (wpEs .nil)) := PA.imp pa_nil fun σ H Q ⟨ρ, S, F, G, s, h⟩ => h [] F G H s .nil (Ext.refl _ _)
theorem pa_consD {es : List Expr} {ms : Es} (ha : PE X a (tW e (wpE ma))) (hr : PA X es (tWs e (wpEs ms))) (hs : starEach (a :: es) X.env = (false, eval a X.env) :: starEach es X.env) : PA X (a :: es) (tWs e (wpEs (.cons ma ms))) :=
  PA.imp (pa_cons ha hr hs) fun σ H Q ⟨ρ, S, F, G, s, h⟩ => ⟨ρ, S, F, G, s, monoE ma h fun x ρ1 S1 h1 v F1 G1 H1 s1 r1 x1 => ⟨ρ1, S1, F1, G1, s1, monoEs ms h1 fun xs ρ2 S2 h2 vs F2 G2 H2 s2 r2 x2 => h2 (v :: vs) F2 G2 H2 s2 (.cons (r1.ext x2) r2) (x1.trans x2)⟩⟩
variable {es : List Expr} {ms : Es}
theorem pe_tupD {k : Nat} (h : PA X es (tWs e (wpEs ms))) : PE X (.Tuple es k pos) (tW e (wpE (.tup ms))) :=
  PE.imp (pe_tup h) fun σ H Q ⟨ρ, S, F, G, s, h⟩ => ⟨ρ, S, F, G, s, monoEs ms h fun ds ρ1 S1 ⟨hz, q⟩ vs F1 G1 H1 s1 r1 x1 => ⟨by rw [r1.length]; exact hz, fun p hp =>
    Beh.tup (fun v F2 G2 H2 s2 r2 x2 => q v F2 G2 H2 s2 r2 (x1.trans x2)) s1 hp r1⟩⟩
/-- a fresh list that is, from now on, to stay -/
theorem tL_frz {wl : Ro → Ss → KL → Prop} (km : ∀ ρ S (Q Q' : KL), wl ρ S Q → (∀ d ρ' S', Q d ρ' S' → Q' d ρ' S') → wl ρ S Q') {x : Expr} (h : PE X x (tL e wl)) : PE X x (tW e fun ρ S Q => wl ρ S fun ds ρ' S' => Q (.lst ds) ρ' S') :=
  PE.imp h fun σ H Q ⟨ρ, S, F, G, s, h⟩ => ⟨ρ, S, F, G, s, km _ _ _ _ h fun ds ρ1 S1 q a F1 G1 H1 s1 f1 x1 => by
    obtain ⟨F2, s2, r2, x2⟩ := f1.freeze s1
    exact q _ F2 G1 H1 s2 r2 (x1.trans x2)⟩
theorem pe_lstL (h : PA X es (tWs e (wpEs ms))) : PE X (.List es pos) (tL e fun ρ S Q => wpEs ms ρ S fun ds ρ1 S1 => ds.length ≤ sizeLine ∧ Q ds ρ1 S1) :=
  PE.imp (pe_lst h) fun σ H Q ⟨ρ, S, F, G, s, h⟩ => ⟨ρ, S, F, G, s, monoEs ms h fun ds ρ1 S1 ⟨hz, q⟩ vs F1 G1 H1 s1 r1 x1 => ⟨by rw [r1.length]; exact hz, fun p hp => by
    obtain ⟨s2, f2⟩ := s1.fresh hp r1
    exact q p F1 G1 _ s2 f2 x1⟩⟩
theorem pe_lstD (h : PA X es (tWs e (wpEs ms))) : PE X (.List es pos) (tW e (wpE (.lst ms))) :=
  tL_frz (wl := fun ρ S Q => wpEs ms ρ S fun ds ρ1 S1 => ds.length ≤ sizeLine ∧ Q ds ρ1 S1) (fun ρ S Q Q' h k => monoEs ms h fun d ρ' S' q => ⟨q.1, k _ _ _ q.2⟩) (pe_lstL h)
/-! ### subscripts -/
theorem pe_ixD (hK : X.K = e.K) (ha : PE X a (tW e (wpE ma))) (hb : PE X b (tW e (wpE mb))) (hs : PlainIx b) : PE X (.Subscript a b pos) (tW e (wpE (.ix ma mb))) :=
  PE.imp (pe_ix iAny_ok ha hb hs) fun σ H Q ⟨ρ, S, F, G, s, h⟩ => two_ok (mE ma) (mE mb) s h fun x y ρ2 S2 h2 v u F2 G2 H2 s2 r1 r2 x2 =>
    ix_ok hK s2 r1 r2 (optW_mono h2 fun z hz v' F3 G3 H3 s3 r3 x3 => hz v' F3 G3 H3 s3 r3 (x2.trans x3))
/-- a slot at an index -/
theorem ix_sl {ρ : Ro} {S : Ss} {F : Hp} {G : Gs} {σ : L2.St} {H : Hp} {Q : VK} {i : Nat} {v0 u : V} {y z : D} (hK : X.K = e.K) (s : SR e ρ S F G σ H) (h0 : σ[i]? = some (some v0)) (hz : slD (getS ρ i) = some z) (ry : Rp e.K F G u y) (h : optW (ixV z y) (Beh e ρ S σ F G Q)) : iAny X v0 u H Q := by
  cases q : getS ρ i with
  | un => rw [q] at hz; cases hz
  | v d =>
    rw [q] at hz; cases hz
    obtain ⟨v, h1, h2⟩ := s.val q
    rw [h0] at h1; cases h1
    exact ix_ok hK s h2 ry h
  | own ds =>
    rw [q] at hz; cases hz
    obtain ⟨a, vs, e2, e3, e4, e5⟩ := s.own q
    rw [h0] at e2; cases e2
    cases ry with
    | int k =>
      have h1 : optW (someT (atD ds k)) _ := h
      cases q3 : atD ds k with
      | none => rw [q3] at h1; exact False.elim h1
      | some z =>
        rw [q3] at h1
        obtain ⟨w, q1, q2⟩ := atD_ok e4 q3
        exact ⟨_, ix_list, a, vs, k, w, rfl, rfl, .of e3, q1, h1.2.here s q2⟩
    | _ => exact False.elim h
theorem sl_at {ρ : Ro} {S : Ss} {F : Hp} {G : Gs} {σ : L2.St} {H : Hp} {i : Nat} (s : SR e ρ S F G σ H) (h : (slD (getS ρ i)).isSome = true) : ∃ v, σ[i]? = some (some v) := by
  cases q : getS ρ i with
  | un => rw [q] at h; cases h
  | v d => obtain ⟨v, h1, _⟩ := s.val q; exact ⟨v, h1⟩
  | own ds => obtain ⟨a, vs, h1, _⟩ := s.own q; exact ⟨_, h1⟩
theorem pe_ixoD (hK : X.K = e.K) {i : Nat} {x : Str} {p2 : Pos} (hN : X.N[i]? = some x) (hv : Vis X.env.scope x) (hd : (x == ("__debug__" : Str)) = false) (hcd : (x == ("__classdict__" : Str)) = false) (hb : PE X b (tW e (wpE mb))) (hs : PlainIx b) :
    PE X (.Subscript (.Name x p2) b pos) (tW e (wpE (.ixo i mb))) :=
  PE.imp (pe_ix iAny_ok (pe_var hN hv hd hcd) hb hs) fun σ H Q ⟨ρ, S, F, G, s, h0, h⟩ => by
    obtain ⟨v0, e1⟩ := sl_at s h0
    exact ⟨v0, e1, ρ, S, F, G, s, monoE mb h fun y ρ1 S1 ⟨z, hz, h1⟩ u F1 G1 H1 s1 r1 x1 => ix_sl hK s1 e1 hz r1 (optW_mono h1 fun z hz v' F3 G3 H3 s3 r3 x3 => hz v' F3 G3 H3 s3 r3 (x1.trans x3))⟩
theorem po_noD : PO X none (tWo e (wpO .no)) := ⟨fun pins s σ H Q I ⟨ρ, S, F, G, sr, h⟩ => po_none.run pins s σ H Q I (h F G H sr (Ext.refl _ _))⟩
theorem po_soD (ha : PE X a (tW e (wpE ma))) : PO X (some a) (tWo e (wpO (.so ma))) := ⟨fun pins s σ H Q I ⟨ρ, S, F, G, sr, h⟩ => (po_some ha).run pins s σ H Q I ⟨ρ, S, F, G, sr, monoE ma h fun x ρ1 S1 ⟨i, ei, q⟩ v F1 G1 H1 s1 r1 x1 => by
    subst ei; cases r1; exact ⟨i, rfl, q F1 G1 H1 s1 x1⟩⟩⟩
theorem pe_slD (hK : X.K = e.K) {lo hi : Option Expr} {ml mh : Oe} {p2 : Pos} (ha : PE X a (tW e (wpE ma))) (hl : PO X lo (tWo e (wpO ml))) (hh : PO X hi (tWo e (wpO mh))) : PE X (.Subscript a (.Slice lo hi none p2) pos) (tW e (wpE (.sl ma ml mh))) :=
  PE.imp (pe_slice sAny_ok ha hl hh) fun σ H Q ⟨ρ, S, F, G, s, h⟩ => ⟨ρ, S, F, G, s, monoE ma h fun x ρ1 S1 h1 v F1 G1 H1 s1 r1 x1 => ⟨ρ1, S1, F1, G1, s1, monoO ml h1 fun l ρ2 S2 h2 F2 G2 H2 s2 x2 => ⟨ρ2, S2, F2, G2, s2, monoO mh h2 fun u ρ3 S3 h3 F3 G3 H3 s3 x3 =>
    sl_ok hK s3 (r1.ext (x2.trans x3)) (optW_mono h3 fun z hz v' F4 G4 H4 s4 r4 x4 => hz v' F4 G4 H4 s4 r4 ((x1.trans (x2.trans x3)).trans x4))⟩⟩⟩
/-! ### calls of built-ins -/
theorem pe_bcB {x : Str} {p : Pos} {id : String} (hc : ∀ σ H Q ρ S F G, SR e ρ S F G σ H → ∀ vs ds, RpAll e.K F G vs ds → ∀ f : Bi, (biName f).2 = .builtin id → f ≠ .sset → optW (bcV f ds) (Beh e ρ S σ F G Q) → cAny X (.builtin id) vs H Q)
    {f : Bi} (hf : (biName f).2 = .builtin id) (hfs : f ≠ .sset) (hg : Gl X x) (hm : X.mg x = none) (hv : bootBuiltins x = some (.builtin id)) (ha : PA X (a :: es) (tWs e (wpEs (.cons ma ms)))) (hn : x ≠ "__name__") (hdb : (x == ("__debug__" : Str)) = false)
    (hs : starEach (a :: es) X.env = (false, eval a X.env) :: starEach es X.env) (hpl : (backTo pos (starEach es X.env)).any (·.1) = false) : PE X (.Call (.Name x p) (a :: es) [] pos) (tW e (wpE (.bc f (.cons ma ms)))) :=
  PE.imp (pe_callB (cAny_ok _) hg hm hv ha hn hdb hs hpl) fun σ H Q ⟨ρ, S, F, G, s, h⟩ => ⟨ρ, S, F, G, s, monoEs (.cons ma ms) h fun ds ρ1 S1 h1 vs F1 G1 H1 s1 r1 x1 =>
    hc σ H1 Q ρ1 S1 F1 G1 s1 vs ds r1 f hf hfs (optW_mono h1 fun z hz v' F3 G3 H3 s3 r3 x3 => hz v' F3 G3 H3 s3 r3 (x1.trans x3))⟩
theorem pe_bcT {x : Str} {p : Pos} {id : String} (hc : ∀ σ H Q ρ S F G, SR e ρ S F G σ H → ∀ vs ds, RpAll e.K F G vs ds → ∀ f : Bi, (biName f).2 = .type id → f ≠ .sset → optW (bcV f ds) (Beh e ρ S σ F G Q) → cAny X (.type id) vs H Q)
    {f : Bi} (hf : (biName f).2 = .type id) (hfs : f ≠ .sset) (hg : Gl X x) (hm : X.mg x = none) (hv : bootBuiltins x = some (.type id)) (ha : PA X (a :: es) (tWs e (wpEs (.cons ma ms)))) (hn : x ≠ "__name__") (hdb : (x == ("__debug__" : Str)) = false)
    (hs : starEach (a :: es) X.env = (false, eval a X.env) :: starEach es X.env) (hpl : (backTo pos (starEach es X.env)).any (·.1) = false) : PE X (.Call (.Name x p) (a :: es) [] pos) (tW e (wpE (.bc f (.cons ma ms)))) :=
  PE.imp (pe_callTy (cAny_ok _) hg hm hv ha hn hdb hs hpl) fun σ H Q ⟨ρ, S, F, G, s, h⟩ => ⟨ρ, S, F, G, s, monoEs (.cons ma ms) h fun ds ρ1 S1 h1 vs F1 G1 H1 s1 r1 x1 =>
    hc σ H1 Q ρ1 S1 F1 G1 s1 vs ds r1 f hf hfs (optW_mono h1 fun z hz v' F3 G3 H3 s3 r3 x3 => hz v' F3 G3 H3 s3 r3 (x1.trans x3))⟩
theorem bc_okN (hK : X.K = e.K) (hcalm : X.calm = true) {w : Value} (σ : L2.St) (H : Hp) (Q : VK) (ρ : Ro) (S : Ss) (F : Hp) (G : Gs) (s : SR e ρ S F G σ H) (vs : List V) (ds : List D) (r : RpAll e.K F G vs ds) (f : Bi) (hf : (biName f).2 = w) (hfs : f ≠ .sset) (h : optW (bcV f ds) (Beh e ρ S σ F G Q)) : cAny X w vs H Q := by
  subst hf
  exact bc_ok hK hcalm hfs s r h
theorem pe_bcD (hK : X.K = e.K) (hcalm : X.calm = true) {x : Str} {p : Pos} {f : Bi} (hfs : f ≠ .sset) (hx : (biName f).1 = x) (hg : Gl X x) (hm : X.mg x = none) (ha : PA X (a :: es) (tWs e (wpEs (.cons ma ms))))
    (hs : starEach (a :: es) X.env = (false, eval a X.env) :: starEach es X.env) (hpl : (backTo pos (starEach es X.env)).any (·.1) = false) : PE X (.Call (.Name x p) (a :: es) [] pos) (tW e (wpE (.bc f (.cons ma ms)))) := by
  subst hx
  cases f with
  | len => exact pe_bcB (bc_okN hK hcalm) rfl hfs hg hm (by decide +kernel) ha (by decide) (by decide) hs hpl
  | int => exact pe_bcT (bc_okN hK hcalm) rfl hfs hg hm (by decide +kernel) ha (by decide) (by decide) hs hpl
  | tuple => exact pe_bcT (bc_okN hK hcalm) rfl hfs hg hm (by decide +kernel) ha (by decide) (by decide) hs hpl
  | list => exact pe_bcT (bc_okN hK hcalm) rfl hfs hg hm (by decide +kernel) ha (by decide) (by decide) hs hpl
  | max1 => exact pe_bcB (bc_okN hK hcalm) rfl hfs hg hm (by decide +kernel) ha (by decide) (by decide) hs hpl
  | min1 => exact pe_bcB (bc_okN hK hcalm) rfl hfs hg hm (by decide +kernel) ha (by decide) (by decide) hs hpl
  | max2 => exact pe_bcB (bc_okN hK hcalm) rfl hfs hg hm (by decide +kernel) ha (by decide) (by decide) hs hpl
  | min2 => exact pe_bcB (bc_okN hK hcalm) rfl hfs hg hm (by decide +kernel) ha (by decide) (by decide) hs hpl
  | sum => exact pe_bcB (bc_okN hK hcalm) rfl hfs hg hm (by decide +kernel) ha (by decide) (by decide) hs hpl
  | all => exact pe_bcB (bc_okN hK hcalm) rfl hfs hg hm (by decide +kernel) ha (by decide) (by decide) hs hpl
  | any => exact pe_bcB (bc_okN hK hcalm) rfl hfs hg hm (by decide +kernel) ha (by decide) (by decide) hs hpl
  | sorted => exact pe_bcB (bc_okN hK hcalm) rfl hfs hg hm (by decide +kernel) ha (by decide) (by decide) hs hpl
  | sset => exact absurd rfl hfs
  | abs => exact pe_bcB (bc_okN hK hcalm) rfl hfs hg hm (by decide +kernel) ha (by decide) (by decide) hs hpl
theorem pe_lenoD (hK : X.K = e.K) (hcalm : X.calm = true) {i : Nat} {x : Str} {p p2 : Pos} (hN : X.N[i]? = some x) (hv : Vis X.env.scope x) (hd : (x == ("__debug__" : Str)) = false) (hcd : (x == ("__classdict__" : Str)) = false) (hg : Gl X "len") (hm : X.mg "len" = none) :
    PE X (.Call (.Name "len" p) [.Name x p2] [] pos) (tW e (wpE (.leno i))) :=
  PE.imp (pe_callB (cAny_ok (.builtin "len")) hg hm PySem.boot_len (pa_cons (pe_var hN hv hd hcd) pa_nil)) fun σ H Q ⟨ρ, S, F, G, s, z, hz, h⟩ => by
    obtain ⟨v0, e1⟩ := sl_at s (by rw [hz]; rfl)
    refine ⟨v0, e1, ?_⟩
    cases q : getS ρ i with
    | un => rw [q] at hz; cases hz
    | v d =>
      rw [q] at hz; cases hz
      obtain ⟨v, h1, h2⟩ := s.val q
      rw [e1] at h1; cases h1
      exact bc_ok hK hcalm (f := .len) (fun z => nomatch z) s (.one h2) (optW_mono h fun z hz v' F3 G3 H3 s3 r3 x3 => hz v' F3 G3 H3 s3 r3 x3)
    | own ds =>
      rw [q] at hz; cases hz
      obtain ⟨a, vs, e2, e3, e4, e5⟩ := s.own q
      rw [e1] at e2; cases e2
      refine ⟨_, call_len_seq, a, vs, rfl, .inl (.of e3), ?_⟩
      rw [e4.length]
      exact h.2 _ F G H s (.int _) (Ext.refl _ _)
end
end Py
set_option Elab.async false
set_option linter.all false
set_option maxRecDepth 100000
set_option maxHeartbeats 4000000
/-! Iterators, comprehensions, generator expressions. -/
namespace Py
open PySem PySem.Spec PyProof.Rows L2 GxR

/-! ### something held fast for a while -/
def Ent.hold (e : Ent) (a : Addr) (o : HO) : Ent := { e with H₀ := upd e.H₀ a o }
section
variable {e : Ent} {ρ : Ro} {S S' : Ss} {F F' : Hp} {G G' : Gs} {σ : L2.St} {H H' : Hp} {a : Addr} {o : HO}
theorem SR.hold (s : SR e ρ S F G σ H) (ho : H a = some o) (w : OwnA e F G a) (no : ∀ j es, getS ρ j = .own es → σ[j]? ≠ some (some (.ref a))) : SR (e.hold a o) ρ S F G σ H where
  g := {
    sub := s.g.sub
    base := fun b u h h1 h2 => by
      have h : upd e.H₀ a o b = some u := h
      by_cases hb : b = a
      · subst hb; rw [upd_same] at h; cases h; exact ho
      · rw [upd_ne hb] at h; exact s.g.base b u h h1 h2
    fnew := fun b u h => by
      by_cases hb : b = a
      · subst hb; rw [w.f] at h; cases h
      · rcases s.g.fnew b u h with q | q
        · exact .inl q
        · exact .inr (show upd e.H₀ a o b = none by rw [upd_ne hb]; exact q)
    fold := s.g.fold
    gpre := by
      obtain ⟨g, hg, hn⟩ := s.g.gpre
      refine ⟨g, hg, fun p hp => ?_⟩
      have hin : p ∈ G := by rw [hg]; exact List.mem_append_right _ hp
      exact ⟨show upd e.H₀ a o p.1 = none by rw [upd_ne (fun z => w.g ⟨p, hin, .inl z.symm⟩)]; exact (hn p hp).1,
        show upd e.H₀ a o p.2 = none by rw [upd_ne (fun z => w.g ⟨p, hin, .inr z.symm⟩)]; exact (hn p hp).2⟩
    slen := s.g.slen
    cells := s.g.cells
    gap := s.g.gap
    gF := s.g.gF
    tabs := s.g.tabs }
  sl := fun i => by
    have h := s.sl i
    cases q : getS ρ i with
    | un => trivial
    | v d => rw [q] at h; exact h
    | own ds =>
      rw [q] at h
      obtain ⟨b, vs, h1, h2, h3, h4⟩ := h
      refine ⟨b, vs, h1, h2, h3, ?_, h4.f, h4.g, h4.t⟩
      show upd e.H₀ a o b = none
      rw [upd_ne (fun z => no i ds q (by rw [h1, z]))]
      exact h4.h0
  ap := s.ap
  len := s.len
theorem SR.unhold (s : SR (e.hold a o) ρ S F G σ H) (h0 : e.H₀ a = none) (hF : e.F₀ a = none) (hG : ¬ inFoot e.G₀ a) (hT : a ∉ e.T) :
    SR e ρ S F G σ H ∧ H a = some o ∧ OwnA e F G a ∧ ∀ j es, getS ρ j = .own es → σ[j]? ≠ some (some (.ref a)) := by
  have ha : H a = some o := s.g.base a o upd_same hG hT
  have hfa : F a = none := by
    cases q : F a with
    | none => rfl
    | some u =>
      rcases s.g.fnew a u q with z | z
      · have z : e.F₀ a = some u := z
        rw [hF] at z; cases z
      · have z : upd e.H₀ a o a = none := z
        rw [upd_same] at z; cases z
  have ne : ∀ b, upd e.H₀ a o b = none → b ≠ a ∧ e.H₀ b = none := fun b h => by
    by_cases hb : b = a
    · subst hb; rw [upd_same] at h; cases h
    · rw [upd_ne hb] at h; exact ⟨hb, h⟩
  refine ⟨⟨⟨s.g.sub, fun b u h h1 h2 => ?_, fun b u h => ?_, s.g.fold, ?_, s.g.slen, s.g.cells, s.g.gap, s.g.gF, s.g.tabs⟩, fun i => ?_, s.ap, s.len⟩, ha, ⟨h0, hfa, fun z => ?_, hT⟩, fun j es hj z => ?_⟩
  · have hb : b ≠ a := fun z => by subst z; rw [h0] at h; cases h
    exact s.g.base b u (by show upd e.H₀ a o b = some u; rw [upd_ne hb]; exact h) h1 h2
  · rcases s.g.fnew b u h with q | q
    · exact .inl q
    · exact .inr (ne b q).2
  · obtain ⟨g, hg, hn⟩ := s.g.gpre
    exact ⟨g, hg, fun p hp => ⟨(ne _ (hn p hp).1).2, (ne _ (hn p hp).2).2⟩⟩
  · have h := s.sl i
    cases q : getS ρ i with
    | un => trivial
    | v d => rw [q] at h; exact h
    | own ds =>
      rw [q] at h
      obtain ⟨b, vs, h1, h2, h3, h4⟩ := h
      exact ⟨b, vs, h1, h2, h3, (ne b h4.h0).2, h4.f, h4.g, h4.t⟩
  · obtain ⟨g, hg, hn⟩ := s.g.gpre
    obtain ⟨p, hp, hz⟩ := z
    rw [hg] at hp
    rcases List.mem_append.mp hp with hp | hp
    · exact hG ⟨p, hp, hz⟩
    · rcases hz with z | z
      · exact (ne _ (hn p hp).1).1 z.symm
      · exact (ne _ (hn p hp).2).1 z.symm
  · obtain ⟨b, vs, h1, _, _, h4⟩ := s.own hj
    rw [h1] at z
    cases z
    exact (ne _ h4.h0).1 rfl
theorem OwnA.start (w : OwnA e F G a) (s : GR e S F G H) : e.F₀ a = none ∧ ¬ inFoot e.G₀ a := by
  refine ⟨?_, fun z => w.g (s.foot₀ z)⟩
  cases q : e.F₀ a with
  | none => rfl
  | some o => have := s.fold a o q; rw [w.f] at this; cases this
end

/-! ### iterators -/
/-- how an iterator over data goes, in any state behind -/
structure ItOk (K : PySem.W.Frag) (J : L2.It) (items : List D) (F : Hp) (G : Gs) : Prop where
  go : ∀ (i : Nat) (d : D), items[i]? = some d → ∀ (e : Ent), e.K = K → ∀ (ρ : Ro) (S : Ss) (F' : Hp) (G' : Gs) (σ : L2.St) (H : Hp), SR e ρ S F' G' σ H → Ext F G F' G' →
    J.go i H ∧ ∀ x H', J.yld i H x H' → ∃ F'', SR e ρ S F'' G' σ H' ∧ Ext F' G' F'' G' ∧ Rp e.K F'' G' x d
  stop : ∀ (i : Nat), items.length ≤ i → ∀ (e : Ent), e.K = K → ∀ (ρ : Ro) (S : Ss) (F' : Hp) (G' : Gs) (σ : L2.St) (H : Hp), SR e ρ S F' G' σ H → Ext F G F' G' → J.stop i H
/-- new objects may come while one goes: for comprehensions, whose list D is new -/
def tI (e : Ent) (wi : Ro → Ss → KL → Prop) : TI := fun σ H R => ∃ ρ S F G, SR e ρ S F G σ H ∧ wi ρ S fun items ρ' S' => ∀ J F' G' H', SR e ρ' S' F' G' σ H' → Ext F G F' G' → ItOk e.K J items F' G' → R J H'
section
variable {X : Cx} {e : Ent} {pos : Pos} {a b : Expr} {ma mb : E} {tg : Expr}
def iSeq (K : PySem.W.Frag) (tl : TE) : TI := fun σ H R => tl σ H fun x H1 => ∃ a, x = .ref a ∧ (((∃ xs, SqL K H1 a xs) ∧ R (Itl K a) H1) ∨ ((∃ xs, SqT K H1 a xs) ∧ R (Itt K a) H1))
theorem pi_seq {l : Expr} {tl : TE} (hl : PE X l tl) : PI X tg l (iSeq X.K tl) := by
  refine ⟨fun pins s σ H R I h => ?_⟩
  refine thn (hl.run pins s σ H _ I h) fun v s1 ⟨x, H1, I1, r1, q1⟩ => ?_
  obtain ⟨a, e, q⟩ := q1
  subst e
  cases r1
  have fr : ∀ b ∈ [s1.heap.objs.size], FpOk X pins H1 b := fun b hb => by
    have e : b = s1.heap.objs.size := by simpa using hb
    subst e
    exact I1.fpOk (Nat.le_refl _) (I1.hok.fresh (Nat.le_refl _))
  rcases q with ⟨⟨xs, hq⟩, q⟩ | ⟨⟨xs, hq⟩, q⟩
  · obtain ⟨its, rv, p, hz⟩ := I1.list hq
    refine wpAny_pyIter_list p.isList ?_
    exact ⟨s1.heap.objs.size, [s1.heap.objs.size], _, _, H1, rfl, I1.kept (t' := s1.toks) fun b o e => Heap.get?_push_of_some _ e, turn_list a _, ⟨_, Heap.get?_push_size _ rfl, rfl, rfl⟩, fr, q⟩
  · obtain ⟨its, rv, p, hz⟩ := I1.tuple hq
    refine wpAny_pyIter_tuple (show s1.heap.IsTuple a its.toArray from p) ?_
    exact ⟨s1.heap.objs.size, [s1.heap.objs.size], _, _, H1, rfl, I1.kept (t' := s1.toks) fun b o e => Heap.get?_push_of_some _ e, turn_tuple a _, ⟨_, Heap.get?_push_size _ rfl, rfl, rfl⟩, fr, q⟩
/-- what a sequence's value is -/
theorem Rp.seq {K : PySem.W.Frag} {F : Hp} {G : Gs} {v : V} {x : D} {ds : List D} (r : Rp K F G v x) (h : seqD x = some ds) : ∃ a vs, v = .ref a ∧ RpAll K F G vs ds ∧ (F a = some (.lst vs) ∨ SqT K F a vs) := by
  cases r with
  | tup h1 h2 => cases h; exact ⟨_, _, rfl, h2, .inr h1⟩
  | lst h1 h2 => cases h; exact ⟨_, _, rfl, h2, .inl h1⟩
  | _ => cases h
theorem itl_ok {K : PySem.W.Frag} {F : Hp} {G : Gs} {a : Addr} {vs : List V} {ds : List D} (h : F a = some (.lst vs)) (r : RpAll K F G vs ds) : ItOk K (Itl K a) ds F G where
  go := fun i d hd e hK ρ S F' G' σ H s x => by
    obtain ⟨v, hv, rv⟩ := r.getD hd
    have q : SqL K H a vs := .of (s.g.sub _ _ (x.f _ _ h))
    exact ⟨⟨vs, v, q, hv⟩, fun y H' ⟨e1, e2⟩ => by
      subst e1
      have := e2 vs q
      rw [hv] at this; cases this
      exact ⟨F', s, Ext.refl _ _, hK ▸ rv.ext x⟩⟩
  stop := fun i hi e hK ρ S F' G' σ H s x => ⟨vs, .of (s.g.sub _ _ (x.f _ _ h)), by rw [r.length]; exact hi⟩
theorem itt_ok {K : PySem.W.Frag} {F : Hp} {G : Gs} {a : Addr} {vs : List V} {ds : List D} (h : SqT K F a vs) (r : RpAll K F G vs ds) : ItOk K (Itt K a) ds F G where
  go := fun i d hd e hK ρ S F' G' σ H s x => by
    obtain ⟨v, hv, rv⟩ := r.getD hd
    have q : SqT K H a vs := SqT.ext s.g.sub (SqT.ext x.f h)
    exact ⟨⟨vs, v, q, hv⟩, fun y H' ⟨e1, e2⟩ => by
      subst e1
      have := e2 vs q
      rw [hv] at this; cases this
      exact ⟨F', s, Ext.refl _ _, hK ▸ rv.ext x⟩⟩
  stop := fun i hi e hK ρ S F' G' σ H s x => ⟨vs, SqT.ext s.g.sub (SqT.ext x.f h), by rw [r.length]; exact hi⟩
theorem rangeD_length : ∀ (n : Nat) (lo : Int), (rangeD lo n).length = n
  | 0, _ => rfl
  | n + 1, lo => by simp [rangeD, rangeD_length n]
theorem rangeD_get : ∀ (n : Nat) (lo : Int) (i : Nat) (d : D), (rangeD lo n)[i]? = some d → i < n ∧ d = .int (lo + i)
  | 0, _, i, d, h => by simp [rangeD] at h
  | n + 1, lo, 0, d, h => by simp [rangeD] at h; subst h; simp
  | n + 1, lo, i + 1, d, h => by
    have h : (rangeD (lo + 1) n)[i]? = some d := by simpa [rangeD] using h
    obtain ⟨h1, h2⟩ := rangeD_get n (lo + 1) i d h
    refine ⟨by omega, ?_⟩
    rw [h2]
    congr 1
    omega
theorem itr_ok {K : PySem.W.Frag} {F : Hp} {G : Gs} (lo : Int) (n : Nat) : ItOk K (Itr lo n) (rangeD lo n) F G where
  go := fun i d hd e hK ρ S F' G' σ H s x => by
    obtain ⟨h1, h2⟩ := rangeD_get _ _ _ _ hd
    exact ⟨h1, fun y H' ⟨e1, e2⟩ => by
      subst e1 e2 h2
      exact ⟨F', s, Ext.refl _ _, .int _⟩⟩
  stop := fun i hi e hK ρ S F' G' σ H s x => by
    rw [rangeD_length] at hi
    exact hi
theorem pairsD_length : ∀ (ds : List D) (k : Nat), (pairsD k ds).length = ds.length
  | [], _ => rfl
  | d :: r, k => by simp [pairsD, pairsD_length r]
theorem pairsD_get : ∀ (ds : List D) (k i : Nat) (d : D), (pairsD k ds)[i]? = some d → ∃ c, ds[i]? = some c ∧ d = .tup [.int ((k + i : Nat) : Int), c]
  | [], _, i, d, h => by simp [pairsD] at h
  | c :: r, k, 0, d, h => by simp [pairsD] at h; subst h; exact ⟨c, rfl, rfl⟩
  | c :: r, k, i + 1, d, h => by
    have h : (pairsD (k + 1) r)[i]? = some d := by simpa [pairsD] using h
    obtain ⟨c', h1, h2⟩ := pairsD_get r (k + 1) i d h
    refine ⟨c', by simpa using h1, ?_⟩
    rw [h2]
    congr 3
    omega
/-- a new pair -/
theorem pair_ok {e : Ent} {ρ : Ro} {S : Ss} {F : Hp} {G : Gs} {σ : L2.St} {H : Hp} {T : Addr} {x y : V} {c d : D} (s : SR e ρ S F G σ H) (hT : H T = none) (rx : Rp e.K F G x c) (ry : Rp e.K F G y d) :
    ∃ F'', SR e ρ S F'' G σ (upd H T (.tup [x, y])) ∧ Ext F G F'' G ∧ Rp e.K F'' G (.ref T) (.tup [c, d]) := by
  have z : Ext F G (upd F T (.tup [x, y])) G := Ext.frz (s.g.noneF hT)
  exact ⟨_, s.newF hT, z, .tup (.inl (.inl upd_same)) (.cons (rx.ext z) (.one (ry.ext z)))⟩
theorem ite_ok {K : PySem.W.Frag} {F : Hp} {G : Gs} {a : Addr} {vs : List V} {ds : List D} (h : F a = some (.lst vs)) (r : RpAll K F G vs ds) : ItOk K (Ite K a) (pairsD 0 ds) F G where
  go := fun i d hd e hK ρ S F' G' σ H s x => by
    obtain ⟨c, hc, ed⟩ := pairsD_get _ _ _ _ hd
    obtain ⟨v, hv, rv⟩ := r.getD hc
    have q : SqL K H a vs := .of (s.g.sub _ _ (x.f _ _ h))
    refine ⟨⟨vs, v, q, hv⟩, fun y H' ⟨T, z, e1, e2, e3, e4⟩ => ?_⟩
    subst e1 e3 ed
    have := e4 vs q
    rw [hv] at this; cases this
    have := pair_ok s e2 (.int (i : Nat)) (hK ▸ rv.ext x)
    simpa using this
  stop := fun i hi e hK ρ S F' G' σ H s x => ⟨vs, .of (s.g.sub _ _ (x.f _ _ h)), by rw [r.length]; rw [pairsD_length] at hi; exact hi⟩
theorem iteT_ok {K : PySem.W.Frag} {F : Hp} {G : Gs} {a : Addr} {vs : List V} {ds : List D} (h : SqT K F a vs) (r : RpAll K F G vs ds) : ItOk K (EnT.IteT K a) (pairsD 0 ds) F G where
  go := fun i d hd e hK ρ S F' G' σ H s x => by
    obtain ⟨c, hc, ed⟩ := pairsD_get _ _ _ _ hd
    obtain ⟨v, hv, rv⟩ := r.getD hc
    have q : SqT K H a vs := SqT.ext s.g.sub (SqT.ext x.f h)
    refine ⟨⟨vs, v, q, hv⟩, fun y H' ⟨T, z, e1, e2, e3, e4⟩ => ?_⟩
    subst e1 e3 ed
    have := e4 vs q
    rw [hv] at this; cases this
    have := pair_ok s e2 (.int (i : Nat)) (hK ▸ rv.ext x)
    simpa using this
  stop := fun i hi e hK ρ S F' G' σ H s x => ⟨vs, SqT.ext s.g.sub (SqT.ext x.f h), by rw [r.length]; rw [pairsD_length] at hi; exact hi⟩
theorem zipD_get {ds es : List D} {i : Nat} {d : D} (h : (zipD ds es)[i]? = some d) : ∃ c c', ds[i]? = some c ∧ es[i]? = some c' ∧ d = .tup [c, c'] := by
  unfold zipD at h
  rw [List.getElem?_map] at h
  cases q : (ds.zip es)[i]? with
  | none => rw [q] at h; cases h
  | some p =>
    rw [q] at h
    cases h
    have := List.getElem?_zip_eq_some.mp q
    exact ⟨p.1, p.2, this.1, this.2, rfl⟩
theorem itz_ok {K : PySem.W.Frag} {F : Hp} {G : Gs} {a b : Addr} {vs us : List V} {ds es : List D} (h : F a = some (.lst vs)) (r : RpAll K F G vs ds) (h' : F b = some (.lst us)) (r' : RpAll K F G us es) : ItOk K (Itz K a b) (zipD ds es) F G where
  go := fun i d hd e hK ρ S F' G' σ H s x => by
    obtain ⟨c, c', hc, hc', ed⟩ := zipD_get hd
    obtain ⟨v, hv, rv⟩ := r.getD hc
    obtain ⟨u, hu, ru⟩ := r'.getD hc'
    have q : SqL K H a vs := .of (s.g.sub _ _ (x.f _ _ h))
    have q' : SqL K H b us := .of (s.g.sub _ _ (x.f _ _ h'))
    refine ⟨⟨vs, us, v, u, q, q', hv, hu⟩, fun y H' ⟨T, z, z', e1, e2, e3, e4, e5⟩ => ?_⟩
    subst e1 e3 ed
    have t := e4 vs q
    rw [hv] at t; cases t
    have t := e5 us q'
    rw [hu] at t; cases t
    exact pair_ok s e2 (hK ▸ rv.ext x) (hK ▸ ru.ext x)
  stop := fun i hi e hK ρ S F' G' σ H s x => ⟨vs, us, .of (s.g.sub _ _ (x.f _ _ h)), .of (s.g.sub _ _ (x.f _ _ h')), by
    rw [r.length, r'.length]
    unfold zipD at hi
    rw [List.length_map, List.length_zip] at hi
    omega⟩
theorem itzT_ok {K : PySem.W.Frag} {F : Hp} {G : Gs} {a b : Addr} {vs us : List V} {ds es : List D} (h : SqT K F a vs) (r : RpAll K F G vs ds) (h' : SqT K F b us) (r' : RpAll K F G us es) : ItOk K (RZ.ItzT K a b) (zipD ds es) F G where
  go := fun i d hd e hK ρ S F' G' σ H s x => by
    obtain ⟨c, c', hc, hc', ed⟩ := zipD_get hd
    obtain ⟨v, hv, rv⟩ := r.getD hc
    obtain ⟨u, hu, ru⟩ := r'.getD hc'
    have q : SqT K H a vs := SqT.ext s.g.sub (SqT.ext x.f h)
    have q' : SqT K H b us := SqT.ext s.g.sub (SqT.ext x.f h')
    refine ⟨⟨vs, us, v, u, q, q', hv, hu⟩, fun y H' ⟨T, z, z', e1, e2, e3, e4, e5⟩ => ?_⟩
    subst e1 e3 ed
    have t := e4 vs q
    rw [hv] at t; cases t
    have t := e5 us q'
    rw [hu] at t; cases t
    exact pair_ok s e2 (hK ▸ rv.ext x) (hK ▸ ru.ext x)
  stop := fun i hi e hK ρ S F' G' σ H s x => ⟨vs, us, SqT.ext s.g.sub (SqT.ext x.f h), SqT.ext s.g.sub (SqT.ext x.f h'), by
    rw [r.length, r'.length]
    unfold zipD at hi
    rw [List.length_map, List.length_zip] at hi
    omega⟩
/-! the rules -/
theorem pi_ofD (hK : X.K = e.K) (ha : PE X a (tW e (wpE ma))) : PI X tg a (tI e (wpI (.of ma))) :=
  PI.imp (pi_seq ha) fun σ H R ⟨ρ, S, F, G, s, h⟩ => ⟨ρ, S, F, G, s, monoE ma h fun x ρ1 S1 ⟨ds, hx, q⟩ v F1 G1 H1 s1 r1 x1 => by
    obtain ⟨a, vs, ev, ra, h1⟩ := r1.seq hx
    subst ev
    rcases h1 with h1 | h1
    · exact ⟨a, rfl, .inl ⟨⟨vs, .of (s1.g.sub _ _ h1)⟩, q _ F1 G1 H1 s1 x1 (hK ▸ itl_ok (K := X.K) h1 (hK ▸ ra))⟩⟩
    · exact ⟨a, rfl, .inr ⟨⟨vs, hK ▸ SqT.ext s1.g.sub h1⟩, q _ F1 G1 H1 s1 x1 (hK ▸ itt_ok (K := X.K) (hK ▸ h1) (hK ▸ ra))⟩⟩⟩
theorem pi_range1D {p : Pos} (hg : Gl X "range") (hm : X.mg "range" = none) (ha : PE X a (tW e (wpE ma))) (hs : starEach [a] X.env = [(false, eval a X.env)]) : PI X tg (.Call (.Name "range" p) [a] [] pos) (tI e (wpI (.range1 ma))) :=
  PI.imp (pi_range1 hg hm (pa_cons ha pa_nil hs) hs) fun σ H R ⟨ρ, S, F, G, s, h⟩ => ⟨ρ, S, F, G, s, monoE ma h fun x ρ1 S1 ⟨i, ex, sm, q⟩ v F1 G1 H1 s1 r1 x1 => by
    subst ex; cases r1
    exact ⟨i, rfl, sm.1, sm.2, q _ F1 G1 H1 s1 x1 (itr_ok _ _)⟩⟩
theorem pi_range2D {p : Pos} (hg : Gl X "range") (hm : X.mg "range" = none) (ha : PE X a (tW e (wpE ma))) (hb : PE X b (tW e (wpE mb))) (hs : starEach [a, b] X.env = [(false, eval a X.env), (false, eval b X.env)]) (hs2 : starEach [b] X.env = [(false, eval b X.env)]) :
    PI X tg (.Call (.Name "range" p) [a, b] [] pos) (tI e (wpI (.range2 ma mb))) :=
  PI.imp (pi_range2 hg hm (pa_cons ha (pa_cons hb pa_nil hs2) (by rw [hs, hs2])) hs hs2) fun σ H R ⟨ρ, S, F, G, s, h⟩ =>
    two_ok (mE ma) (mE mb) s h fun x y ρ2 S2 ⟨i, j, ex, ey, si, sj, q⟩ v u F2 G2 H2 s2 r1 r2 x2 => by
      subst ex ey; cases r1; cases r2
      exact ⟨i, j, rfl, ⟨si.1, si.2, sj.1, sj.2⟩, q _ F2 G2 H2 s2 x2 (itr_ok _ _)⟩
theorem pi_enumD (hK : X.K = e.K) {p tpos : Pos} {elts : List Expr} {kk : Nat} (hg : Gl X "enumerate") (hm : X.mg "enumerate" = none) (ha : PE X a (tW e (wpE ma))) (hs : starEach [a] X.env = [(false, eval a X.env)]) :
    PI X (.Tuple elts kk tpos) (.Call (.Name "enumerate" p) [a] [] pos) (tI e (wpI (.enum ma))) :=
  PI.imp (EnT.pi_enumA hg hm (pa_cons ha pa_nil hs) hs) fun σ H R ⟨ρ, S, F, G, s, h⟩ => ⟨ρ, S, F, G, s, monoE ma h fun x ρ1 S1 ⟨ds, hx, q⟩ v F1 G1 H1 s1 r1 x1 => by
    obtain ⟨a, vs, ev, ra, h1⟩ := r1.seq hx
    subst ev
    rcases h1 with h1 | h1
    · exact ⟨a, rfl, .inl ⟨vs, .of (s1.g.sub _ _ h1), q _ F1 G1 H1 s1 x1 (hK ▸ ite_ok (K := X.K) h1 (hK ▸ ra))⟩⟩
    · exact ⟨a, rfl, .inr ⟨vs, hK ▸ SqT.ext s1.g.sub h1, q _ F1 G1 H1 s1 x1 (hK ▸ iteT_ok (K := X.K) (hK ▸ h1) (hK ▸ ra))⟩⟩⟩
theorem pi_zipD (hK : X.K = e.K) {p tpos : Pos} {elts : List Expr} {kk : Nat} (hg : Gl X "zip") (hm : X.mg "zip" = none) (ha : PE X a (tW e (wpE ma))) (hb : PE X b (tW e (wpE mb))) (hs : starEach [a, b] X.env = (false, eval a X.env) :: starEach [b] X.env) (hs2 : starEach [b] X.env = [(false, eval b X.env)]) :
    PI X (.Tuple elts kk tpos) (.Call (.Name "zip" p) [a, b] [] pos) (tI e (wpI (.zip ma mb))) :=
  PI.imp (RZ.pi_zipA hg hm (pa_cons ha (pa_cons hb pa_nil hs2) hs) hs (by rw [hs2]; rfl)) fun σ H R ⟨ρ, S, F, G, s, h⟩ =>
    two_ok (mE ma) (mE mb) s h fun x y ρ2 S2 q v u F2 G2 H2 s2 r1 r2 x2 => by
      rcases q with ⟨ds, es, ex, ey, q⟩ | ⟨ds, es, ex, ey, q⟩
      · subst ex ey
        cases r1 with
        | lst h1 g1 =>
          cases r2 with
          | lst h2 g2 => exact ⟨_, _, _, _, rfl, .inl ⟨.of (s2.g.sub _ _ h1), .of (s2.g.sub _ _ h2), q _ F2 G2 H2 s2 x2 (hK ▸ itz_ok (K := X.K) h1 (hK ▸ g1) h2 (hK ▸ g2))⟩⟩
      · subst ex ey
        cases r1 with
        | tup h1 g1 =>
          cases r2 with
          | tup h2 g2 => exact ⟨_, _, _, _, rfl, .inr ⟨hK ▸ SqT.ext s2.g.sub h1, hK ▸ SqT.ext s2.g.sub h2, q _ F2 G2 H2 s2 x2 (hK ▸ itzT_ok (K := X.K) (hK ▸ h1) (hK ▸ g1) (hK ▸ h2) (hK ▸ g2))⟩⟩
end
end Py
set_option Elab.async false
set_option linter.all false
set_option maxRecDepth 100000
set_option maxHeartbeats 4000000
/-! Comprehensions, generator expressions, calls. -/
namespace Py
open PySem PySem.Spec PyProof.Rows L2 GxR

/-! ### whatever the entry -/
def tU (K : PySem.W.Frag) (T : List Addr) (w : Ro → Ss → KD → Prop) : TE := fun σ H Q => ∃ e : Ent, e.K = K ∧ e.T = T ∧ tW e w σ H Q
def tUt (K : PySem.W.Frag) (T : List Addr) (w : Ro → Ss → (Bool → Ro → Ss → Prop) → Prop) : TT := fun σ H Q => ∃ e : Ent, e.K = K ∧ e.T = T ∧ tWt e w σ H Q
section
variable {X : Cx} {x : Expr} {K : PySem.W.Frag} {T : List Addr}
theorem pe_U {w : Ro → Ss → KD → Prop} (h : ∀ e : Ent, e.K = K → e.T = T → PE X x (tW e w)) : PE X x (tU K T w) := ⟨fun pins s σ H Q I ⟨e, e1, e2, q⟩ => (h e e1 e2).run pins s σ H Q I q⟩
theorem pts_U {ifs : List Expr} {w : Ro → Ss → (Bool → Ro → Ss → Prop) → Prop} (h : ∀ e : Ent, e.K = K → e.T = T → PTs X ifs (tWt e w)) : PTs X ifs (tUt K T w) := ⟨fun pins s σ H Q I ⟨e, e1, e2, q⟩ => (h e e1 e2).run pins s σ H Q I q⟩
theorem PTs.imp {ifs : List Expr} {t t' : TT} (h : PTs X ifs t) (k : ∀ σ H Q, t' σ H Q → t σ H Q) : PTs X ifs t' := ⟨fun pins s σ H Q I hw => h.run pins s σ H Q I (k σ H Q hw)⟩
theorem pts_nilD {e : Ent} : PTs X [] (tWt e (wpTs .nil)) := PTs.imp pts_nil fun σ H Q ⟨ρ, S, F, G, s, h⟩ => h F G H s (Ext.refl _ _)
theorem pts_oneD {e : Ent} {c : Expr} {t : Py.T} (h : PT X c (tWt e (wpT t))) : PTs X [c] (tWt e (wpTs (.cons t .nil))) := PTs.imp (pts_one h) fun σ H Q h => h
end

/-! ### slots forgotten -/
section
variable {e : Ent} {ρ : Ro} {S S' : Ss} {F F' : Hp} {G G' : Gs} {σ : L2.St} {H H' : Hp}
theorem SR.setUn (s : SR e ρ S F G σ H) (i : Nat) (x : Option V) : SR e (ρ.set i .un) S F G (σ.set i x) H where
  g := s.g
  sl := fun j => by
    rw [getS_set, set_get, s.len]
    by_cases h : i = j ∧ i < σ.length
    · rw [if_pos h, if_pos h]; trivial
    · rw [if_neg h, if_neg h]; exact s.sl j
  ap := fun j k a ds es hjk h1 h2 => by
    rw [getS_set, s.len] at h1 h2
    rw [set_get, set_get]
    by_cases c1 : i = j ∧ i < σ.length
    · rw [if_pos c1] at h1; cases h1
    · by_cases c2 : i = k ∧ i < σ.length
      · rw [if_pos c2] at h2; cases h2
      · rw [if_neg c1] at h1 ⊢; rw [if_neg c2] at h2 ⊢
        exact s.ap j k a ds es hjk h1 h2
  len := by simp [s.len]
theorem SR.wipe (s : SR e ρ S F G σ H) : ∀ vs : List Nat, SR e (wipeR ρ vs) S F G (L2.wipe σ vs) H
  | [] => s
  | v :: vs => (SR.wipe s vs).setUn v none
theorem wipe_get (σ : L2.St) (i : Nat) : ∀ vs : List Nat, (L2.wipe σ vs)[i]? = if i ∈ vs ∧ i < σ.length then some none else σ[i]?
  | [] => by simp [L2.wipe]
  | v :: vs => by
    show ((L2.wipe σ vs).set v none)[i]? = _
    rw [set_get, wipe_get σ i vs, L2.wipe_length]
    by_cases h : v = i
    · subst h
      by_cases h2 : v < σ.length
      · simp [h2]
      · simp [h2]
    · simp [h, Ne.symm h, eq_comm]
theorem wipe_set {σ : L2.St} {vs : List Nat} {i : Nat} {x : Option V} (h : i ∈ vs) : L2.wipe (σ.set i x) vs = L2.wipe σ vs := by
  apply List.ext_getElem?
  intro j
  rw [wipe_get, wipe_get, set_get, List.length_set]
  by_cases hj : j ∈ vs ∧ j < σ.length
  · rw [if_pos hj, if_pos hj]
  · rw [if_neg hj, if_neg hj]
    by_cases c : i = j ∧ i < σ.length
    · exact absurd ⟨c.1 ▸ h, c.1 ▸ c.2⟩ hj
    · rw [if_neg c]
theorem wipe_wipe (σ : L2.St) (vs : List Nat) : L2.wipe (L2.wipe σ vs) vs = L2.wipe σ vs := by
  apply List.ext_getElem?
  intro j
  rw [wipe_get, wipe_get, L2.wipe_length]
  by_cases hj : j ∈ vs ∧ j < σ.length
  · rw [if_pos hj, if_pos hj]
  · rw [if_neg hj, if_neg hj]
theorem backR_length (ρ₀ ρ : Ro) : ∀ vs : List Nat, (backR ρ₀ ρ vs).length = ρ.length
  | [] => rfl
  | v :: vs => by show ((backR ρ₀ ρ vs).set v _).length = _; rw [List.length_set, backR_length ρ₀ ρ vs]
theorem backR_get (ρ₀ ρ : Ro) (i : Nat) : ∀ vs : List Nat, getS (backR ρ₀ ρ vs) i = if i ∈ vs ∧ i < ρ.length then getS ρ₀ i else getS ρ i
  | [] => by simp [backR]
  | v :: vs => by
    show getS ((backR ρ₀ ρ vs).set v (getS ρ₀ v)) i = _
    rw [getS_set, backR_get ρ₀ ρ i vs, backR_length]
    by_cases h : v = i
    · subst h
      by_cases h2 : v < ρ.length
      · simp [h2]
      · simp [h2]
    · simp [h, Ne.symm h, eq_comm]
theorem noOwn_get {ρ : Ro} {i : Nat} {ds : List D} : ∀ {vs : List Nat}, noOwn ρ vs → i ∈ vs → getS ρ i ≠ .own ds
  | v :: vs, h, m, z => by
    rcases List.mem_cons.mp m with q | q
    · subst q
      have := h.1
      rw [z] at this
      exact this
    · exact noOwn_get h.2 q z
/-- behind a block: its own slots are as they were -/
theorem SR.back {ρ0 : Ro} {S0 : Ss} {F0 : Hp} {G0 : Gs} {σ' : L2.St} {H0 : Hp} {vs : List Nat} (s : SR e ρ S F G σ' H) (s0 : SR e ρ0 S0 F0 G0 σ H0) (no : noOwn ρ0 vs) (x : Ext F0 G0 F G) (hw : L2.wipe σ' vs = L2.wipe σ vs) : SR e (backR ρ0 ρ vs) S F G σ H := by
  have hl : σ'.length = σ.length := by rw [← L2.wipe_length σ' vs, hw, L2.wipe_length]
  have out : ∀ i, ¬ (i ∈ vs ∧ i < σ.length) → σ'[i]? = σ[i]? := fun i hi => by
    have h1 := wipe_get σ' i vs
    have h2 := wipe_get σ i vs
    rw [hl, if_neg hi] at h1
    rw [if_neg hi] at h2
    rw [← h1, ← h2, hw]
  have own : ∀ i ds, getS (backR ρ0 ρ vs) i = .own ds → getS ρ i = .own ds ∧ ¬ (i ∈ vs ∧ i < σ.length) := fun i ds h => by
    rw [backR_get] at h
    by_cases c : i ∈ vs ∧ i < ρ.length
    · rw [if_pos c] at h
      exact absurd h (noOwn_get no c.1)
    · rw [if_neg c] at h
      rw [s.len, hl] at c
      exact ⟨h, c⟩
  refine ⟨s.g, fun i => ?_, fun i j a ds es hij h1 h2 h3 => ?_, by rw [backR_length, s.len, hl]⟩
  · rw [backR_get]
    by_cases c : i ∈ vs ∧ i < ρ.length
    · rw [if_pos c]
      cases q : getS ρ0 i with
      | un => trivial
      | v d =>
        obtain ⟨v, h1, h2⟩ := s0.val q
        exact ⟨v, h1, h2.ext x⟩
      | own ds => exact absurd q (noOwn_get no c.1)
    · rw [if_neg c]
      rw [s.len, hl] at c
      rw [← out i c]
      exact s.sl i
  · obtain ⟨o1, c1⟩ := own i ds h1
    obtain ⟨o2, c2⟩ := own j es h2
    rw [← out i c1] at h3
    rw [← out j c2]
    exact s.ap i j a ds es hij o1 o2 h3
end

/-! ### targets -/
def gNames : List Nat → TGs
  | [] => gNil
  | i :: is => gCons (gName i) (gNames is)
def gT (K : PySem.W.Frag) : Tg → TG
  | .name i => gName i
  | .tup is => gTup K is.length (gNames is)
def Tg.slots : Tg → List Nat
  | .name i => [i]
  | .tup is => is
theorem gNames_ok {e : Ent} {S : Ss} {F : Hp} {G : Gs} {H : Hp} {ws : List Nat} {σ0 : L2.St} {Kk : L2.St → Hp → Prop} : ∀ {is : List Nat} {vs : List V} {ds : List D} {ρ : Ro} {σ : L2.St}, SR e ρ S F G σ H → RpAll e.K F G vs ds → ds.length = is.length → (∀ i ∈ is, i ∈ ws) → L2.wipe σ ws = L2.wipe σ0 ws →
    (∀ σ', SR e (setAll is ds ρ) S F G σ' H → L2.wipe σ' ws = L2.wipe σ0 ws → Kk σ' H) → gNames is vs σ H Kk
  | [], _, _, ρ, σ, s, .nil, hl, hm, hw, k => ⟨rfl, k σ s hw⟩
  | i :: is, _, _, ρ, σ, s, .cons r rs, hl, hm, hw, k => ⟨_, _, rfl, gNames_ok (s.setV i r) rs (by simpa using hl) (fun j hj => hm j (List.mem_cons_of_mem _ hj)) (by rw [wipe_set (hm i (List.mem_cons_self ..)), hw]) k⟩
  | [], _, _, ρ, σ, s, .cons r rs, hl, hm, hw, k => by cases hl
  | i :: is, _, _, ρ, σ, s, .nil, hl, hm, hw, k => by cases hl
theorem gT_ok {e : Ent} {ρ : Ro} {S : Ss} {F : Hp} {G : Gs} {σ σ0 : L2.St} {H : Hp} {ws : List Nat} {t : Tg} {v : V} {d : D} {Q : Ro → Prop} {Kk : L2.St → Hp → Prop} (s : SR e ρ S F G σ H) (r : Rp e.K F G v d) (hm : ∀ i ∈ t.slots, i ∈ ws) (hw : L2.wipe σ ws = L2.wipe σ0 ws) (h : tgW t d ρ Q)
    (k : ∀ ρ' σ', SR e ρ' S F G σ' H → L2.wipe σ' ws = L2.wipe σ0 ws → Q ρ' → Kk σ' H) : gT e.K t v σ H Kk := by
  cases t with
  | name i =>
    refine k _ _ (s.setV i r) ?_ h
    rw [wipe_set (hm i (by simp [Tg.slots])), hw]
  | tup is =>
    cases r with
    | tup h1 h2 =>
      have h : _ ∧ _ := h
      refine ⟨_, _, rfl, s.sqT h1, by rw [h2.length, h.1], gNames_ok s h2 h.1 hm hw fun σ' s' w' => k _ _ s' w' h.2⟩
    | _ => exact False.elim h
theorem gT_ok' {e : Ent} {ρ : Ro} {S : Ss} {F : Hp} {G : Gs} {σ : L2.St} {H : Hp} {t : Tg} {v : V} {d : D} {Q : Ro → Prop} {Kk : L2.St → Hp → Prop} (s : SR e ρ S F G σ H) (r : Rp e.K F G v d) (h : tgW t d ρ Q)
    (k : ∀ ρ' σ', SR e ρ' S F G σ' H → Q ρ' → Kk σ' H) : gT e.K t v σ H Kk := gT_ok (σ0 := L2.wipe σ t.slots) (ws := t.slots) s r (fun _ h => h) (wipe_wipe _ _).symm h fun ρ' σ' s' _ q => k ρ' σ' s' q
/-! ### the list being made -/
theorem SR.writeFr {e : Ent} {ρ : Ro} {S : Ss} {F : Hp} {G : Gs} {σ : L2.St} {H : Hp} {a : Addr} {o : HO} (s : SR e ρ S F G σ H) (w : OwnA e F G a) (no : ∀ j es, getS ρ j = .own es → σ[j]? ≠ some (some (.ref a))) : SR e ρ S F G σ (upd H a o) :=
  s.step (s.g.heap fun b hb => upd_ne fun z => by
    subst z
    rcases hb with ⟨u, q⟩ | q | q | ⟨u, q⟩
    · rw [w.f] at q; cases q
    · exact w.g q
    · exact w.t q
    · rw [w.h0] at q; cases q) (Ext.refl _ _) fun b vs h1 h2 ⟨i, ds, h3, h4⟩ => ⟨by
      rw [upd_ne (fun z => no i ds h3 (by rw [h4, z]))]
      exact h1, h2⟩
section
variable {K : PySem.W.Frag} {T : List Addr} {e : Ent} {t : Tg} {elt : E} {ts : Ts} {vs : List Nat}
/-- where a list comprehension stands at a turn -/
structure LcAt (e : Ent) (σ : L2.St) (F1 : Hp) (G1 : Gs) (vs : List Nat) (D' : Addr) (w : List D → List D → Ro → Ss → Prop) (items : List D) (i : Nat) (H : Hp) : Prop where
  at' : ∃ ρ S F G σc accV acc, SR e ρ S F G σc H ∧ L2.wipe σc vs = L2.wipe σ vs ∧ Ext F1 G1 F G ∧ H D' = some (.lst accV) ∧ RpAll e.K F G accV acc ∧ OwnA e F G D' ∧ (∀ j es, getS ρ j = .own es → σc[j]? ≠ some (some (.ref D'))) ∧ w (items.drop i) acc ρ S
theorem drop_get {α : Type} {l : List α} {i : Nat} {x : α} (h : l[i]? = some x) : l.drop i = x :: l.drop (i + 1) := by
  obtain ⟨h1, h2⟩ := List.getElem?_eq_some_iff.mp h
  rw [List.drop_eq_getElem_cons h1, h2]
theorem lc_ok {ρ1 : Ro} {S1 : Ss} {F1 : Hp} {G1 : Gs} {σ : L2.St} {H1 : Hp} {items : List D} {J : L2.It} {Qf : KL} {Q : VK} (hK : e.K = K) (hT : e.T = T) (s : SR e ρ1 S1 F1 G1 σ H1) (no : noOwn ρ1 vs) (hm : ∀ i ∈ t.slots, i ∈ vs) (ok : ItOk e.K J items F1 G1)
    (h : lcW (fun d r => tgW t d (wipeR r vs)) (wpTs ts) (wpE elt) items [] ρ1 S1 fun ds ρ2 S2 => Qf ds (backR ρ1 ρ2 vs) S2)
    (k : ∀ ds ρ' S', Qf ds ρ' S' → ∀ a F' G' H', SR e ρ' S' F' G' σ H' → Fr1 e ρ' σ F' G' H' a ds → Ext F1 G1 F' G' → Q (.ref a) H') :
    ∀ D, H1 D = none → ∃ W : Nat → Nat → Hp → Prop, (∃ m, W 0 m (upd H1 D (.lst []))) ∧ ∀ i m H, W i m H →
      (J.stop i H ∧ Q (.ref D) H) ∨ (J.go i H ∧ ∃ Nx : Hp → Prop, (∀ H', Nx H' → ∃ m', m' < m ∧ W (i + 1) m' H') ∧ ∀ x H', J.yld i H x H' → gT K t x (L2.wipe σ vs) H' fun σ2 H2 => L2.wipe σ2 vs = L2.wipe σ vs ∧ tUt K T (wpTs ts) σ2 H2 fun b H3 =>
        if b = true then tU K T (wpE elt) σ2 H3 fun y H4 => ∃ acc, H4 D = some (.lst acc) ∧ acc.length < sizeLine ∧ Nx (upd H4 D (.lst (acc ++ [y]))) else Nx H3) := by
  intro D hD
  subst hK hT
  have frh := s.fresh (vs := []) (ds := []) hD .nil
  have hw0 := h
  refine ⟨fun i m H => m = items.length - i ∧ i ≤ items.length ∧ LcAt e σ F1 G1 vs D (fun xs acc ρ S => lcW (fun d r => tgW t d (wipeR r vs)) (wpTs ts) (wpE elt) xs acc ρ S fun ds ρ2 S2 => Qf ds (backR ρ1 ρ2 vs) S2) items i H,
    ⟨items.length, by simp, Nat.zero_le _, ⟨ρ1, S1, F1, G1, σ, [], [], frh.1, rfl, Ext.refl _ _, upd_same, .nil, frh.2.own, frh.2.no, by simpa using h⟩⟩, ?_⟩
  rintro i m H ⟨rfl, hi, ⟨ρ, S, F, G, σc, accV, acc, sc, hwc, xc, hDc, racc, oD, nD, hwp⟩⟩
  by_cases hlt : i < items.length
  · refine .inr ?_
    obtain ⟨d, hd⟩ : ∃ d, items[i]? = some d := ⟨items[i], List.getElem?_eq_getElem hlt⟩
    rw [drop_get hd] at hwp
    have sh := sc.hold hDc oD nD
    obtain ⟨hgo, hyl⟩ := ok.go i d hd _ (show (e.hold D (.lst accV)).K = e.K from rfl) _ _ _ _ _ _ sh xc
    refine ⟨hgo, fun H' => LcAt e σ F1 G1 vs D (fun xs acc ρ S => lcW (fun d r => tgW t d (wipeR r vs)) (wpTs ts) (wpE elt) xs acc ρ S fun ds ρ2 S2 => Qf ds (backR ρ1 ρ2 vs) S2) items (i + 1) H', fun H' hn => ⟨items.length - (i + 1), by omega, rfl, hlt, hn⟩, fun x H' hx => ?_⟩
    obtain ⟨F2, s2, x2, r2⟩ := hyl x H' hx
    have s3 := s2.wipe vs
    rw [hwc] at s3
    have st := oD.start sc.g
    refine gT_ok (e := e.hold D (.lst accV)) (σ0 := σ) s3 r2 hm (wipe_wipe _ _) hwp fun ρ3 σ3 s4 hw4 q4 => ⟨hw4, e.hold D (.lst accV), rfl, rfl, ρ3, S, F2, G, s4, monoTs ts q4 fun b ρ5 S5 q5 F5 G5 H5 s5 x5 => ?_⟩
    cases b with
    | false =>
      simp only [Bool.false_eq_true, if_false] at q5 ⊢
      obtain ⟨s6, hD6, o6, n6⟩ := s5.unhold oD.h0 (show e.F₀ D = none from st.1) st.2 oD.t
      exact ⟨ρ5, S5, F5, G5, σ3, accV, acc, s6, hw4, (xc.trans x2).trans x5, hD6, racc.ext (x2.trans x5), o6, n6, q5⟩
    | true =>
      simp only [if_true] at q5 ⊢
      refine ⟨e.hold D (.lst accV), rfl, rfl, ρ5, S5, F5, G5, s5, monoE elt q5 fun y ρ6 S6 ⟨hl6, q6⟩ v F6 G6 H6 s6 r6 x6 => ?_⟩
      obtain ⟨s7, hD7, o7, n7⟩ := s6.unhold oD.h0 (show e.F₀ D = none from st.1) st.2 oD.t
      refine ⟨accV, hD7, by rw [racc.length]; exact hl6, ρ6, S6, F6, G6, σ3, accV ++ [v], acc ++ [y], s7.writeFr o7 n7, hw4, ((xc.trans x2).trans x5).trans x6, upd_same, (racc.ext ((x2.trans x5).trans x6)).append (.one r6), o7, n7, q6⟩
  · have e0 : items.drop i = [] := List.drop_eq_nil_of_le (by omega)
    rw [e0] at hwp
    have hwp : Qf acc (backR ρ1 ρ vs) S := hwp
    have sb := sc.back s no xc hwc
    have sH := ok.stop i (by omega) e rfl _ _ _ _ _ _ sc xc
    refine .inl ⟨sH, k _ _ _ hwp D F G H sb ⟨oD, ⟨accV, hDc, racc⟩, fun j es hj => ?_⟩ xc⟩
    intro z
    obtain ⟨b, ws, q1, q2, _⟩ := sb.own hj
    rw [q1] at z
    cases z
    have hl : σc.length = σ.length := by rw [← L2.wipe_length σc vs, hwc, L2.wipe_length]
    rw [backR_get] at hj
    by_cases c : j ∈ vs ∧ j < ρ.length
    · rw [if_pos c] at hj
      exact noOwn_get no c.1 hj
    · rw [if_neg c] at hj
      rw [sc.len, hl] at c
      have h1 := wipe_get σc j vs
      have h2 := wipe_get σ j vs
      rw [hl, if_neg c] at h1
      rw [if_neg c] at h2
      refine nD j es hj ?_
      rw [← h1, hwc, h2]
      exact q1
end
end Py
set_option Elab.async false
set_option linter.all false
set_option maxRecDepth 100000
set_option maxHeartbeats 4000000
/-! Rules: comprehensions, generator expressions, calls, methods. -/
namespace Py
open PySem PySem.Spec PyProof.Rows L2 GxR

section
variable {X : Cx} {e : Ent} {pos : Pos} {t : Tg} {elt : E} {ts : Ts} {it : It} {own : List (Str × Nat)}
abbrev wpComp (elt : E) (t : Tg) (it : It) (ts : Ts) (own : List (Str × Nat)) : Ro → Ss → KL → Prop := fun ρ S Q => wpI it ρ S fun items ρ1 S1 => noOwn ρ1 (own.map (·.2)) ∧
    lcW (fun d r => tgW t d (wipeR r (own.map (·.2)))) (wpTs ts) (wpE elt) items [] ρ1 S1 fun ds ρ2 S2 => Q ds (backR ρ1 ρ2 (own.map (·.2))) S2
theorem wpComp_mono : ∀ ρ S (Q Q' : KL), wpComp elt t it ts own ρ S Q → (∀ d ρ' S', Q d ρ' S' → Q' d ρ' S') → wpComp elt t it ts own ρ S Q' := fun ρ S Q Q' h k =>
  monoI it h fun items ρ1 S1 ⟨h0, h1⟩ => ⟨h0, lcW_mono (tg := fun d r => tgW t d (wipeR r (own.map (·.2)))) (t := wpTs ts) (w := wpE elt) (fun _ _ _ _ a b => tgW_mono a b) (fun _ _ _ _ a b => monoTs ts a b) (fun _ _ _ _ a b => monoE elt a b) _ _ h1 fun ds ρ2 S2 h2 => k ds _ S2 h2⟩
theorem tLc_of (hK : X.K = e.K) (hm : ∀ i ∈ t.slots, i ∈ own.map (·.2)) {σ : L2.St} {H : Hp} {Q : VK} (h : tL e (wpComp elt t it ts own) σ H Q) :
    tLc (tI e (wpI it)) (gT X.K t) (tUt X.K e.T (wpTs ts)) (tU X.K e.T (wpE elt)) (own.map (·.2)) σ H Q := by
  obtain ⟨ρ, S, F, G, s, h⟩ := h
  exact ⟨ρ, S, F, G, s, monoI it h fun items ρ1 S1 ⟨no, q⟩ J F1 G1 H1 s1 x1 ok => lc_ok (Qf := fun ds ρ' S' => ∀ a F' G' H', SR e ρ' S' F' G' σ H' → Fr1 e ρ' σ F' G' H' a ds → Ext F G F' G' → Q (.ref a) H') hK.symm rfl s1 no hm ok q
    fun ds ρ' S' z a F' G' H' s' f' x' => z a F' G' H' s' f' (x1.trans x')⟩
theorem pe_compL {celt tg iter : Expr} {ifs : List Expr} {scope : Scope} (hK : X.K = e.K) (hc : X.calm = true) (hN : X.N.Nodup) (hi : PI X tg iter (tI e (wpI it))) (ok : BlkOk X.N X.env.scope scope own) (hm : ∀ i ∈ t.slots, i ∈ own.map (·.2))
    (hg : ∀ (s : Shared) (H : Hp) (C : Addr) (cl : List (Str × Addr)) (fp : List Addr), PG (X.blk s H scope (compEnvC scope cl C X.env) fp) tg (gT X.K t))
    (ht : ∀ (s : Shared) (H : Hp) (C : Addr) (cl : List (Str × Addr)) (fp : List Addr), PTs (X.blk s H scope (compEnvC scope cl C X.env) fp) ifs (tUt X.K e.T (wpTs ts)))
    (he : ∀ (s : Shared) (H : Hp) (C : Addr) (cl : List (Str × Addr)) (fp : List Addr), PE (X.blk s H scope (compEnvC scope cl C X.env) fp) celt (tU X.K e.T (wpE elt))) (hs : ∀ x, foldedSetIterable iter X.env x = pure x) :
    PE X (.ListComp celt [⟨tg, iter, ifs, 0⟩] scope pos) (tL e (wpComp elt t it ts own)) :=
  PE.imp (pe_lc hc hN hi ok hg ht he hs) fun σ H Q h => tLc_of hK hm h
theorem pe_compD {x : Expr} (h : PE X x (tL e (wpComp elt t it ts own))) : PE X x (tW e (wpE (.comp elt t it ts own))) := tL_frz wpComp_mono h

/-! ### any, all -/
theorem gn_ok {dec : Bool} {P : Addr} {σ : L2.St} {H : Hp} {Q : VK} (hK : X.K = e.K) (hP : P ∈ e.T) (hm : ∀ i ∈ t.slots, i ∈ own.map (·.2)) (h : tW e (wpE (.gen (!dec) elt t it own)) σ H Q) :
    Gx.tGen P dec (tI e (wpI it)) (gT X.K t) (tU X.K e.T (wpE elt)) (own.map (·.2)) σ H Q := by
  obtain ⟨ρ, S, F, G, s, h⟩ := h
  refine ⟨ρ, S, F, G, s, monoI it h fun items ρ1 S1 ⟨no, q⟩ J F1 G1 H1 s1 x1 ok => ⟨(s1.g.tabs P hP).1, fun H2 tb => ?_⟩⟩
  have s1' := s1.tab hP tb
  generalize hvs : own.map (·.2) = vs at *
  refine ⟨fun i m H => m = items.length - i ∧ i ≤ items.length ∧ ∃ ρ S F G σc, SR e ρ S F G σc H ∧ L2.wipe σc vs = L2.wipe σ vs ∧ Ext F1 G1 F G ∧ gnW (!dec) (fun d r => tgW t d (wipeR r vs)) (wpE elt) (items.drop i) ρ S fun d ρ2 S2 => ∀ v F' G' H', SR e (backR ρ1 ρ2 vs) S2 F' G' σ H' → Rp e.K F' G' v d → Ext F1 G1 F' G' → Q v H',
    ⟨items.length, by simp, Nat.zero_le _, ρ1, S1, F1, G1, σ, s1', rfl, Ext.refl _ _, gnW_mono (tg := fun d r => tgW t d (wipeR r vs)) (w := wpE elt) (fun _ _ _ _ a b => tgW_mono a b) (fun _ _ _ _ a b => monoE elt a b) _ q fun d ρ' S' z v F' G' H' s' r' x' => z v F' G' H' s' r' (x1.trans x')⟩, ?_⟩
  rintro i m H ⟨rfl, hi, ρ, S, F, G, σc, sc, hwc, xc, hwp⟩
  by_cases hlt : i < items.length
  · refine .inr ?_
    obtain ⟨d, hd⟩ : ∃ d, items[i]? = some d := ⟨items[i], List.getElem?_eq_getElem hlt⟩
    rw [drop_get hd] at hwp
    obtain ⟨hgo, hyl⟩ := ok.go i d hd e rfl _ _ _ _ _ _ sc xc
    refine ⟨hgo, fun H' => ∃ ρ S F G σc, SR e ρ S F G σc H' ∧ L2.wipe σc vs = L2.wipe σ vs ∧ Ext F1 G1 F G ∧ gnW (!dec) (fun d r => tgW t d (wipeR r vs)) (wpE elt) (items.drop (i + 1)) ρ S fun d ρ2 S2 => ∀ v F' G' H', SR e (backR ρ1 ρ2 vs) S2 F' G' σ H' → Rp e.K F' G' v d → Ext F1 G1 F' G' → Q v H',
      fun H' hn => ⟨items.length - (i + 1), by omega, rfl, hlt, hn⟩, fun x H' hx => ?_⟩
    obtain ⟨F2, s2, x2, r2⟩ := hyl x H' hx
    have s3 := s2.wipe vs
    rw [hwc] at s3
    rw [hK]
    refine gT_ok (e := e) (σ0 := σ) s3 r2 hm (wipe_wipe _ _) hwp fun ρ3 σ3 s4 hw4 q4 => ⟨hw4, e, rfl, rfl, ρ3, S, F2, G, s4, monoE elt q4 fun y ρ5 S5 ⟨b, eb, q5⟩ v F5 G5 H5 s5 r5 x5 => ?_⟩
    subst eb
    cases r5
    refine ⟨b, rfl, ?_⟩
    by_cases hb : b = dec
    · subst hb
      rw [if_pos rfl]
      rw [if_neg (by cases b <;> decide)] at q5
      exact q5 _ _ _ _ (s5.back s1' no ((xc.trans x2).trans x5) hw4) (.bl _) ((xc.trans x2).trans x5)
    · rw [if_neg hb]
      have hb' : b = !dec := by cases b <;> cases dec <;> first | rfl | exact absurd rfl hb
      rw [if_pos hb'] at q5
      exact ⟨ρ5, S5, F5, G5, σ3, s5, hw4, (xc.trans x2).trans x5, q5⟩
  · have e0 : items.drop i = [] := List.drop_eq_nil_of_le (by omega)
    rw [e0] at hwp
    exact .inl ⟨ok.stop i (by omega) e rfl _ _ _ _ _ _ sc xc, hwp _ _ _ _ (sc.back s1' no xc hwc) (.bl _) xc⟩
theorem pe_genD {c P : Addr} {celt tg iter : Expr} {scope : Scope} {p gpos : Pos} {k : Nat} (dec : Bool) (hK : X.K = e.K) (hP : P ∈ e.T) (hm : ∀ i ∈ t.slots, i ∈ own.map (·.2))
    (hr : Room (k + 1) X.A) (hc : X.calm = true) (hN : X.N.Nodup) (hgl : Gl X (if dec then "any" else "all")) (hmg : X.mg (if dec then "any" else "all") = none) (TB : TabB X.base X.mg c P) (hcode : X.env.code = .ref c) (hi : PI X tg iter (tI e (wpI it))) (ok : BlkOk X.N X.env.scope scope own)
    (nc : ∀ y ∈ scope.names, y.2 ≠ .cell) (hco : scope.isCoroutine = false) (dot : scope.names.lookup (".0" : Str) = some NameKind.local)
    (hg : ∀ (s : Shared) (H : Hp) (env : Env) (fp : List Addr) (A : Around), env.scope = scope → Room k A → PG (Gx.gcx X s H env fp A) tg (gT X.K t))
    (he : ∀ (s : Shared) (H : Hp) (env : Env) (fp : List Addr) (A : Around), env.scope = scope → Room k A → PE (Gx.gcx X s H env fp A) celt (tU X.K e.T (wpE elt)))
    (hs : ∀ v, genFold iter X.env v = pure v) :
    PE X (.Call (.Name (if dec then "any" else "all") p) [.GeneratorExp celt [⟨tg, iter, [], 0⟩] scope gpos] [] pos) (tW e (wpE (.gen (!dec) elt t it own))) := by
  cases dec with
  | true => exact PE.imp (Gx.pe_any hr hc hN hgl hmg TB hcode hi ok nc hco dot hg he hs) fun σ H Q h => gn_ok (dec := true) hK hP hm h
  | false => exact PE.imp (Gx.pe_all hr hc hN hgl hmg TB hcode hi ok nc hco dot hg he hs) fun σ H Q h => gn_ok (dec := false) hK hP hm h

/-! ### calls -/
theorem GR.enter {S : Ss} {F : Hp} {G : Gs} {H : Hp} (g : GR e S F G H) : GR ⟨e.K, e.T, H, F, G⟩ S F G H :=
  ⟨g.sub, fun _ _ h _ _ => h, fun _ _ h => .inl h, fun _ _ h => h, ⟨[], by simp, fun _ h => nomatch h⟩, g.slen, g.cells, g.gap, g.gF, g.tabs⟩
/-- the promise of a contract -/
def spC (K : PySem.W.Frag) (T : List Addr) (C : Ct) : Sp := fun vs H Q _ => ∃ S F G ds Q0, GR ⟨K, T, H, F, G⟩ S F G H ∧ RpAll K F G vs ds ∧ ds.length = C.n ∧ C.run ds S Q0 ∧
  ∀ d S', Q0 d S' → ∀ v F' G' H', Post K T F G H S' F' G' H' → Rp K F' G' v d → Q v H'
variable {CX : CXT} {k : Nat} {f : Addr} {fd : FuncData} {ps : List Str} {C : Ct} {x : Str} {p : Pos} {a : Expr} {ma : E} {es : List Expr} {ms : Es}
theorem pe_callD (hK : X.K = e.K) (F : FnOk X.prog X.w X.K X.mg X.base CX k f fd ps (spC X.K e.T C)) (hr : Room k X.A) (hg : Gl X x) (hm : X.mg x = some (.ref f)) (hk : PySem.W.keepIn X.K (.ref f) = true) (hb : Binds X.K fd ps []) {Ex : XK} (hx : Passes CX X Ex)
    (ha : PA X (a :: es) (tWs e (wpEs ms))) (hdb : (x == ("__debug__" : Str)) = false) (he : starEach (a :: es) X.env = (false, eval a X.env) :: starEach es X.env) (hpl : (backTo pos (starEach es X.env)).any (·.1) = false) :
    PE X (.Call (.Name x p) (a :: es) [] pos) (tW e (wpE (.call x C ms))) :=
  PE.imp (pe_call F hr hg hm hk hb (dvs := []) .nil hx ha hdb he hpl) fun σ H Q ⟨ρ, S, F, G, s, h⟩ => ⟨ρ, S, F, G, s, monoEs ms h fun ds ρ1 S1 ⟨h0, Q0, h1, h2⟩ vs F1 G1 H1 s1 r1 x1 => by
    show spC X.K e.T C (vs ++ []) H1 Q Ex
    rw [List.append_nil, hK]
    exact ⟨S1, F1, G1, ds, Q0, s1.g.enter, r1, h0, h1, fun d S' z v F' G' H' po rv => h2 d S' z v F' G' H' (s1.call po) rv (x1.trans po.ext)⟩⟩
theorem pe_call0D (hK : X.K = e.K) (F : FnOk X.prog X.w X.K X.mg X.base CX k f fd ps (spC X.K e.T C)) (hr : Room k X.A) (hg : Gl X x) (hm : X.mg x = some (.ref f)) (hk : PySem.W.keepIn X.K (.ref f) = true) (hb : Binds X.K fd ps []) {Ex : XK} (hx : Passes CX X Ex)
    (hdb : (x == ("__debug__" : Str)) = false) : PE X (.Call (.Name x p) [] [] pos) (tW e (wpE (.call x C .nil))) :=
  PE.imp (pe_call0 F hr hg hm hk hb (dvs := []) .nil hx hdb) fun σ H Q ⟨ρ, S, F, G, s, h⟩ => by
    obtain ⟨h0, Q0, h1, h2⟩ : _ ∧ ∃ Q0, _ ∧ _ := h
    show spC X.K e.T C ([] ++ []) H Q Ex
    rw [hK]
    exact ⟨S, F, G, [], Q0, s.g.enter, .nil, h0, h1, fun d S' z v F' G' H' po rv => h2 d S' z v F' G' H' (s.call po) rv po.ext⟩

/-! ### own lists -/
variable {b : Expr} {mb : E} {i : Nat} {apos p2 : Pos}
theorem own_at {ρ ρ1 : Ro} {S S1 : Ss} {F F1 : Hp} {G G1 : Gs} {σ : L2.St} {H H1 : Hp} {a0 : Addr} {ds : List D} (e1 : σ[i]? = some (some (.ref a0))) (s1 : SR e ρ1 S1 F1 G1 σ H1) (q : getS ρ1 i = .own ds) : ∃ vs, H1 a0 = some (.lst vs) ∧ RpAll e.K F1 G1 vs ds := by
  obtain ⟨a, vs, e2, e3, e4, e5⟩ := s1.own q
  have ea : a = a0 := by rw [e1] at e2; cases e2; rfl
  subst ea
  exact ⟨vs, e3, e4⟩
theorem pe_poplD (hN : X.N[i]? = some x) (hv : Vis X.env.scope x) (hd : (x == ("__debug__" : Str)) = false) (hcd : (x == ("__classdict__" : Str)) = false)
    (hbase : attributeBase (.Name x p2) "pop" X.env (eval (.Name x p2) X.env) = eval (.Name x p2) X.env) (hline : (apos.endLine == pos.line) = true) :
    PE X (.Call (.Attribute (.Name x p2) "pop" apos) [] [] pos) (tW e (wpE (.popl i))) :=
  PE.imp (pe_bm0 F.plainAttrs_list F.slot_list_pop F.type_list_pop mt_pop (pe_var hN hv hd hcd) hbase hline) fun σ H Q ⟨ρ, S, F, G, s, ds, d, q, hd, h⟩ => by
    obtain ⟨a, vs, e1, e3, e4, e5⟩ := s.own q
    obtain ⟨v, hv, rv⟩ := e4.getD hd
    rw [← e4.length] at hv
    refine ⟨.ref a, e1, .inl ⟨rfl, vs, .of e3⟩, a, vs, v, rfl, rfl, e3, hv, ?_⟩
    refine h v F G _ (s.write q e1 ?_) rv (Ext.refl _ _)
    rw [List.dropLast_eq_take, List.dropLast_eq_take, e4.length]
    exact e4.take _
theorem pe_popoD (hN : X.N[i]? = some x) (hv : Vis X.env.scope x) (hd : (x == ("__debug__" : Str)) = false) (hcd : (x == ("__classdict__" : Str)) = false) (hb : PE X b (tW e (wpE mb)))
    (hbase : attributeBase (.Name x p2) "pop" X.env (eval (.Name x p2) X.env) = eval (.Name x p2) X.env)
    (hfew : ((backTo pos (starEach [b] X.env)).all (fun x => !x.1) && (backToKw pos (keywordEach [] X.env)).all (fun x => x.1.isSome)
      && decide ([b].length + ([] : List Keyword).length + (if ([] : List Keyword).isEmpty then 0 else 1) < 30)) = true)
    (hline : (apos.endLine == pos.line) = true) (hs : starEach [b] X.env = (false, eval b X.env) :: starEach [] X.env) :
    PE X (.Call (.Attribute (.Name x p2) "pop" apos) [b] [] pos) (tW e (wpE (.popo i mb))) :=
  PE.imp (pe_bm F.plainAttrs_list F.slot_list_pop F.type_list_pop mt_popAt (pe_var hN hv hd hcd) (pa_cons hb pa_nil hs) hbase hfew hline hs rfl) fun σ H Q ⟨ρ, S, F, G, s, ⟨ds0, q0⟩, h⟩ => by
    obtain ⟨a, vs0, e1, e2, _⟩ := s.own q0
    refine ⟨.ref a, e1, .inl ⟨rfl, vs0, .of e2⟩, ρ, S, F, G, s, monoE mb h fun y ρ1 S1 ⟨ds, j, d, q, ey, hd, hsz, h1⟩ u F1 G1 H1 s1 r1 x1 => ?_⟩
    subst ey
    cases r1
    obtain ⟨vs, e3, e4⟩ := own_at (ρ := ρ) (S := S) (F := F) (G := G) (H := H) e1 s1 q
    obtain ⟨v, hv, rv⟩ := e4.getD hd
    have hj : j < vs.length := (List.getElem?_eq_some_iff.mp hv).1
    refine ⟨a, vs, (j : Int), j, v, rfl, rfl, e3, by omega, by have := hsz; omega, ?_, hv, h1 v F1 G1 _ (s1.write q e1 (e4.eraseIdx j)) rv x1⟩
    have hn : ¬ ((j : Int) < 0) := by omega
    unfold seqIndex?
    simp [hn, hj]
theorem pe_sloD (hK : X.K = e.K) {lo hi : Option Expr} {ml mh : Oe} (hN : X.N[i]? = some x) (hv : Vis X.env.scope x) (hd : (x == ("__debug__" : Str)) = false) (hcd : (x == ("__classdict__" : Str)) = false) (hl : PO X lo (tWo e (wpO ml))) (hh : PO X hi (tWo e (wpO mh))) :
    PE X (.Subscript (.Name x p2) (.Slice lo hi none p) pos) (tW e (wpE (.slo i ml mh))) :=
  PE.imp (pe_slice sAny_ok (pe_var hN hv hd hcd) hl hh) fun σ H Q ⟨ρ, S, F, G, s, h0, h⟩ => by
    obtain ⟨v0, e1⟩ := sl_at s h0
    refine ⟨v0, e1, ρ, S, F, G, s, monoO ml h fun l ρ2 S2 h2 F2 G2 H2 s2 x2 => ⟨ρ2, S2, F2, G2, s2, monoO mh h2 fun u ρ3 S3 ⟨z, hz, h3⟩ F3 G3 H3 s3 x3 => ?_⟩⟩
    have h3 := optW_mono (Q' := Beh e ρ3 S3 σ F3 G3 Q) h3 fun z hz v' F4 G4 H4 s4 r4 x4 => hz v' F4 G4 H4 s4 r4 ((x2.trans x3).trans x4)
    cases q : getS ρ3 i with
    | un => rw [q] at hz; cases hz
    | v d =>
      rw [q] at hz; cases hz
      obtain ⟨v, h1, h2⟩ := s3.val q
      rw [e1] at h1; cases h1
      exact sl_ok hK s3 h2 h3
    | own ds =>
      rw [q] at hz; cases hz
      obtain ⟨a, vs, e2, e3, e4, e5⟩ := s3.own q
      rw [e1] at e2; cases e2
      exact ⟨_, sl_list, a, vs, rfl, .of e3, fun p' hp => h3.2.lst s3 hp (cut_ok e4 l u)⟩

/-! ### isinstance -/
theorem kit_all {a b : String} (ha : a ∈ ["NoneType", "bool", "int", "str", "tuple", "list"]) (hb : b ∈ ["bool", "int", "str", "tuple", "list"]) : ∃ r, kitB a b = some r ∧ tyB.kitB' a b = some r := by
  have q : ∀ a ∈ ["NoneType", "bool", "int", "str", "tuple", "list"], ∀ b ∈ ["bool", "int", "str", "tuple", "list"], kitB a b = tyB.kitB' a b ∧ (tyB.kitB' a b).isSome = true := by decide +kernel
  obtain ⟨q1, q2⟩ := q a ha b hb
  obtain ⟨r, hr⟩ := Option.isSome_iff_exists.mp q2
  exact ⟨r, by rw [q1, hr], hr⟩
theorem SqT.ty {K : PySem.W.Frag} {H : Hp} {a : Addr} {xs : List V} : SqT K H a xs → TyX K H (.ref a) (.type "tuple")
  | .inl (.inl h) => .base (.tup h)
  | .inl (.inr ⟨o, h⟩) => .fTuple h
  | .inr h => by
    obtain ⟨o, _, _, h1, h2, _⟩ := h
    exact .kTuple h1 h2
end
end Py
set_option Elab.async false
set_option linter.all false
set_option maxRecDepth 100000
set_option maxHeartbeats 4000000
/-! Statements. -/
namespace Py
open PySem PySem.Spec PyProof.Rows L2 GxR

/-- a fresh list -/
inductive Le where
  | lst (es : Es)
  | comp (elt : E) (tg : Tg) (it : It) (ifs : Ts) (own : List (Str × Nat))
  | list (e : E)
  | range (e : E)
/-- a value, or a fresh list -/
inductive Pv where
  | v (e : E) | l (l : Le)
mutual
inductive Sm where
  | set (i : Nat) (e : E)
  | setL (i : Nat) (l : Le)
  | sets (is : List Nat) (e : E)
  | pars (is : List Nat) (ps : List Pv)
  | ex (e : E)
  | app (i : Nat) (e : E)
  | ext (i : Nat) (e : E)
  | ret (e : E) | retn
  | iff (t : T) (a b : Sms)
  | fr (t : Tg) (it : It) (b : Sms)
  | whil (t : T) (b : Sms)
  | pass | brk | cont
  | aug (o : Operator) (i : Nat) (e : E)
  | bxw (i : Nat) (e : E)
  | put (i : Nat) (b e : E)
inductive Sms where
  | nil | cons (s : Sm) (r : Sms)
end
/-- what is wanted behind a statement -/
structure EndsD where
  nx : Ro → Ss → Prop
  rt : D → Ss → Prop
  bk : Ro → Ss → Prop
  ct : Ro → Ss → Prop
def wpL : Le → Ro → Ss → KL → Prop
  | .lst es, ρ, S, Q => wpEs es ρ S fun ds ρ1 S1 => ds.length ≤ sizeLine ∧ Q ds ρ1 S1
  | .comp elt tg it ifs own, ρ, S, Q => wpComp elt tg it ifs own ρ S Q
  | .list e, ρ, S, Q => wpE e ρ S fun x ρ1 S1 => ∃ ds, seqD x = some ds ∧ Q ds ρ1 S1
  | .range e, ρ, S, Q => wpE e ρ S fun x ρ1 S1 => ∃ i, x = .int i ∧ 0 ≤ i ∧ i ≤ 1000000 ∧ Q (rangeD 0 i.toNat) ρ1 S1
def wpP : Pv → Ro → Ss → (Sl → Ro → Ss → Prop) → Prop
  | .v e, ρ, S, Q => wpE e ρ S fun d ρ1 S1 => Q (.v d) ρ1 S1
  | .l l, ρ, S, Q => wpL l ρ S fun ds ρ1 S1 => Q (.own ds) ρ1 S1
def wpPs : List Pv → Ro → Ss → (List Sl → Ro → Ss → Prop) → Prop
  | [], ρ, S, Q => Q [] ρ S
  | p :: ps, ρ, S, Q => wpP p ρ S fun x ρ1 S1 => wpPs ps ρ1 S1 fun xs ρ2 S2 => Q (x :: xs) ρ2 S2
def setSls : List Nat → List Sl → Ro → Ro
  | i :: is, x :: xs, ρ => setSls is xs (ρ.set i x)
  | _, _, ρ => ρ
/-- a for's turns -/
def frW (tg : D → Ro → (Ro → Prop) → Prop) (b : Ro → Ss → EndsD → Prop) : List D → Ro → Ss → EndsD → Prop
  | [], ρ, S, Q => Q.nx ρ S
  | x :: xs, ρ, S, Q => tg x ρ fun ρ1 => b ρ1 S { nx := fun ρ2 S2 => frW tg b xs ρ2 S2 Q, ct := fun ρ2 S2 => frW tg b xs ρ2 S2 Q, bk := Q.nx, rt := Q.rt }
mutual
def wpS : Sm → Ro → Ss → EndsD → Prop
  | .set i e, ρ, S, Q => wpE e ρ S fun d ρ1 S1 => Q.nx (ρ1.set i (.v d)) S1
  | .setL i l, ρ, S, Q => wpL l ρ S fun ds ρ1 S1 => Q.nx (ρ1.set i (.own ds)) S1
  | .sets is e, ρ, S, Q => wpE e ρ S fun d ρ1 S1 => ∃ ds, d = .tup ds ∧ ds.length = is.length ∧ Q.nx (setAll is ds ρ1) S1
  | .pars is ps, ρ, S, Q => wpPs ps ρ S fun xs ρ1 S1 => Q.nx (setSls is xs ρ1) S1
  | .ex e, ρ, S, Q => wpE e ρ S fun _ ρ1 S1 => Q.nx ρ1 S1
  | .app i e, ρ, S, Q => (∃ ds, getS ρ i = .own ds) ∧ wpE e ρ S fun d ρ1 S1 => ∃ ds, getS ρ1 i = .own ds ∧ ds.length < sizeLine ∧ Q.nx (ρ1.set i (.own (ds ++ [d]))) S1
  | .ext i e, ρ, S, Q => (∃ ds, getS ρ i = .own ds) ∧ wpE e ρ S fun d ρ1 S1 => ∃ ds es, getS ρ1 i = .own ds ∧ d = .lst es ∧ ds.length + es.length ≤ sizeLine ∧ Q.nx (ρ1.set i (.own (ds ++ es))) S1
  | .ret e, ρ, S, Q => wpE e ρ S fun d _ S1 => Q.rt d S1
  | .retn, ρ, S, Q => Q.rt .non S
  | .iff t a b, ρ, S, Q => wpT t ρ S fun c ρ1 S1 => if c = true then wpSs a ρ1 S1 Q else wpSs b ρ1 S1 Q
  | .fr t it b, ρ, S, Q => wpI it ρ S fun items ρ1 S1 => frW (tgW t) (wpSs b) items ρ1 S1 Q
  | .whil t b, ρ, S, Q => ∃ I : Nat → Ro → Ss → Prop, (∃ m, I m ρ S) ∧ ∀ m ρ S, I m ρ S → wpT t ρ S fun c ρ1 S1 =>
    if c = true then wpSs b ρ1 S1 { nx := fun ρ2 S2 => ∃ m', m' < m ∧ I m' ρ2 S2, ct := fun ρ2 S2 => ∃ m', m' < m ∧ I m' ρ2 S2, bk := Q.nx, rt := Q.rt } else Q.nx ρ1 S1
  | .pass, ρ, S, Q => Q.nx ρ S
  | .brk, ρ, S, Q => Q.bk ρ S
  | .cont, ρ, S, Q => Q.ct ρ S
  | .aug o i e, ρ, S, Q => ∃ a, getS ρ i = .v (.int a) ∧ wpE e ρ S fun d ρ1 S1 => ∃ b, d = .int b ∧ ((o = .Add ∧ Q.nx (ρ1.set i (.v (.int (a + b)))) S1) ∨ (o = .Sub ∧ Q.nx (ρ1.set i (.v (.int (a - b)))) S1))
  | .bxw i e, ρ, S, Q => wpE e ρ S fun d ρ1 S1 => ∃ z n j, d = .int z ∧ 0 ≤ z ∧ getS ρ1 i = .v (.obj n) ∧ S1[n]? = some (.box j) ∧ Q.nx ρ1 S1
  | .put i b e, ρ, S, Q => wpE e ρ S fun d ρ1 S1 => (∃ ds, getS ρ1 i = .own ds) ∧ wpE b ρ1 S1 fun y ρ2 S2 => ∃ ds j, getS ρ2 i = .own ds ∧ y = .int j ∧ 0 ≤ j ∧ j.toNat < ds.length ∧ Q.nx (ρ2.set i (.own (ds.set j.toNat d))) S2
def wpSs : Sms → Ro → Ss → EndsD → Prop
  | .nil, ρ, S, Q => Q.nx ρ S
  | .cons s r, ρ, S, Q => wpS s ρ S { Q with nx := fun ρ1 S1 => wpSs r ρ1 S1 Q }
end

/-! ### readings -/
structure EndsD.Le (e : Ent) (Q : EndsD) (D : Ends) : Prop where
  nx : ∀ ρ S, Q.nx ρ S → ∀ F G σ H, SR e ρ S F G σ H → D.nx σ H
  rt : ∀ d S, Q.rt d S → ∀ v ρ F G σ H, SR e ρ S F G σ H → Rp e.K F G v d → D.rt v H
  bk : ∀ ρ S, Q.bk ρ S → ∀ F G σ H, SR e ρ S F G σ H → D.bk σ H
  ct : ∀ ρ S, Q.ct ρ S → ∀ F G σ H, SR e ρ S F G σ H → D.ct σ H
def tS (e : Ent) (w : Ro → Ss → EndsD → Prop) : TS := fun D σ H => ∃ ρ S F G Q, SR e ρ S F G σ H ∧ w ρ S Q ∧ EndsD.Le e Q D
def tSU (K : PySem.W.Frag) (T : List Addr) (w : Ro → Ss → EndsD → Prop) : TS := fun D σ H => ∃ e : Ent, e.K = K ∧ e.T = T ∧ tS e w D σ H
theorem pss_U {X : Cx} {xs : List Stmt} {K : PySem.W.Frag} {T : List Addr} {w : Ro → Ss → EndsD → Prop} (h : ∀ e : Ent, e.K = K → e.T = T → PSs X xs (tS e w)) : PSs X xs (tSU K T w) := ⟨fun pins s σ H D I ⟨e, e1, e2, q⟩ => (h e e1 e2).run pins s σ H D I q⟩
/-- the entry moved up -/
def Ent.base (e : Ent) (F : Hp) (G : Gs) : Ent := { e with F₀ := F, G₀ := G }
section
variable {e : Ent} {ρ : Ro} {S S' : Ss} {F F' F1 : Hp} {G G' G1 : Gs} {σ σ' : L2.St} {H H' : Hp}
theorem SR.rebase (s : SR e ρ S F G σ H) : SR (e.base F G) ρ S F G σ H where
  g := ⟨s.g.sub, fun a o h h1 h2 => s.g.base a o h (fun z => h1 (s.g.foot₀ z)) h2, fun a o h => .inl h, fun a o h => h, ⟨[], by simp [Ent.base], fun _ h => nomatch h⟩, s.g.slen, s.g.cells, s.g.gap, s.g.gF, s.g.tabs⟩
  sl := fun i => by
    have h := s.sl i
    cases q : getS ρ i with
    | un => trivial
    | v d => rw [q] at h; exact h
    | own ds =>
      rw [q] at h
      obtain ⟨b, vs, h1, h2, h3, h4⟩ := h
      exact ⟨b, vs, h1, h2, h3, h4.h0, h4.f, h4.g, h4.t⟩
  ap := s.ap
  len := s.len
theorem SR.unbase {S1 : Ss} {H1 : Hp} (g1 : GR e S1 F1 G1 H1) (s : SR (e.base F1 G1) ρ S F G σ H) : SR e ρ S F G σ H where
  g := ⟨s.g.sub, fun a o h h1 h2 => s.g.base a o h (fun z => by
      obtain ⟨g, hg, hn⟩ := g1.gpre
      obtain ⟨p, hp, hz⟩ := z
      have hp : p ∈ G1 := hp
      rw [hg] at hp
      rcases List.mem_append.mp hp with hp | hp
      · exact h1 ⟨p, hp, hz⟩
      · rcases hz with z | z
        · rw [z, (hn p hp).1] at h; cases h
        · rw [z, (hn p hp).2] at h; cases h) h2,
    fun a o h => by
      rcases s.g.fnew a o h with q | q
      · exact g1.fnew a o q
      · exact .inr q,
    fun a o h => s.g.fold a o (g1.fold a o h), by
      obtain ⟨g, hg, hn⟩ := g1.gpre
      obtain ⟨g', hg', hn'⟩ := s.g.gpre
      have hg' : G = G1 ++ g' := hg'
      refine ⟨g ++ g', by rw [hg', hg, List.append_assoc], fun p hp => ?_⟩
      rcases List.mem_append.mp hp with hp | hp
      · exact hn p hp
      · exact hn' p hp, s.g.slen, s.g.cells, s.g.gap, s.g.gF, s.g.tabs⟩
  sl := fun i => by
    have h := s.sl i
    cases q : getS ρ i with
    | un => trivial
    | v d => rw [q] at h; exact h
    | own ds =>
      rw [q] at h
      obtain ⟨b, vs, h1, h2, h3, h4⟩ := h
      exact ⟨b, vs, h1, h2, h3, h4.h0, h4.f, h4.g, h4.t⟩
  ap := s.ap
  len := s.len
theorem GR.extBase (g : GR (e.base F1 G1) S F G H) : Ext F1 G1 F G := ⟨g.fold, let ⟨g', h, _⟩ := g.gpre; ⟨g', h⟩⟩
theorem Fr1.toOwn {a : Addr} {ds : List D} (f : Fr1 e ρ σ F G H a ds) (s : SR e ρ S F G σ H) (i : Nat) : SR e (ρ.set i (.own ds)) S F G (σ.set i (some (.ref a))) H := by
  obtain ⟨vs, h1, h2⟩ := f.lst
  exact s.setOwn i h1 h2 f.own fun j es hj _ => f.no j es hj
end
section
variable {X : Cx} {e : Ent} {pos : Pos}
theorem pss_nilD : PSs X [] (tS e (wpSs .nil)) := PSs.imp pss_nil fun D σ H ⟨ρ, S, F, G, Q, s, h, le⟩ => le.nx _ _ h F G σ H s
theorem pss_consD {st : Stmt} {rest : List Stmt} {m : Sm} {ms : Sms} (h1 : PS X st (tS e (wpS m))) (h2 : PSs X rest (tS e (wpSs ms))) : PSs X (st :: rest) (tS e (wpSs (.cons m ms))) :=
  PSs.imp (pss_cons h1 h2) fun D σ H ⟨ρ, S, F, G, Q, s, h, le⟩ => ⟨ρ, S, F, G, _, s, h, ⟨fun ρ1 S1 q F1 G1 σ1 H1 s1 => ⟨ρ1, S1, F1, G1, Q, s1, q, le⟩, le.rt, le.bk, le.ct⟩⟩
variable {a b : Expr} {ma mb : E} {i j : Nat} {x y : Str}
theorem ps_setD {p2 : Pos} (hN : X.N.Nodup) (hi : X.N[i]? = some x) (hx : X.env.scope.names.lookup x = some .local) (ha : PE X a (tW e (wpE ma))) (hs : swapsWith a (some (.Name x p2)) pos.line X.env = pure false) : PS X (.Assign [.Name x p2] a pos) (tS e (wpS (.set i ma))) :=
  PS.imp (ps_set hN hi (.inl hx) ha hs (.inr hx)) fun D σ H ⟨ρ, S, F, G, Q, s, h, le⟩ => ⟨ρ, S, F, G, s, monoE ma h fun d ρ1 S1 q v F1 G1 H1 s1 r1 x1 => le.nx _ _ q F1 G1 _ H1 (s1.setV i r1)⟩
theorem ps_setLD {p2 : Pos} {l : Le} (hN : X.N.Nodup) (hi : X.N[i]? = some x) (hx : X.env.scope.names.lookup x = some .local) (ha : PE X a (tL e (wpL l))) (km : ∀ ρ S (Q Q' : KL), wpL l ρ S Q → (∀ d ρ' S', Q d ρ' S' → Q' d ρ' S') → wpL l ρ S Q') (hs : swapsWith a (some (.Name x p2)) pos.line X.env = pure false) :
    PS X (.Assign [.Name x p2] a pos) (tS e (wpS (.setL i l))) :=
  PS.imp (ps_set hN hi (.inl hx) ha hs (.inr hx)) fun D σ H ⟨ρ, S, F, G, Q, s, h, le⟩ => ⟨ρ, S, F, G, s, km _ _ _ _ h fun ds ρ1 S1 q a F1 G1 H1 s1 f1 x1 => le.nx _ _ q F1 G1 _ H1 (f1.toOwn s1 i)⟩
theorem ps_setF {p2 : Pos} {l : Le} (hN : X.N.Nodup) (hi : X.N[i]? = some x) (hx : X.env.scope.names.lookup x = some .local) {te : TE} (h : PS X (.Assign [.Name x p2] a pos) (tAsg te (gName i))) (hte : ∀ σ H Q, tL e (wpL l) σ H Q → te σ H Q)
    (km : ∀ ρ S (Q Q' : KL), wpL l ρ S Q → (∀ d ρ' S', Q d ρ' S' → Q' d ρ' S') → wpL l ρ S Q') : PS X (.Assign [.Name x p2] a pos) (tS e (wpS (.setL i l))) :=
  PS.imp h fun D σ H ⟨ρ, S, F, G, Q, s, h, le⟩ => hte _ _ _ ⟨ρ, S, F, G, s, km _ _ _ _ h fun ds ρ1 S1 q a F1 G1 H1 s1 f1 x1 => le.nx _ _ q F1 G1 _ H1 (f1.toOwn s1 i)⟩
theorem ps_setFD {p2 : Pos} {ml : E} (h : PS X (.Assign [.Name x p2] a pos) (tAsg (tW e (wpE ml)) (gName i))) : PS X (.Assign [.Name x p2] a pos) (tS e (wpS (.set i ml))) :=
  PS.imp h fun D σ H ⟨ρ, S, F, G, Q, s, h, le⟩ => ⟨ρ, S, F, G, s, monoE ml h fun d ρ1 S1 q v F1 G1 H1 s1 r1 x1 => le.nx _ _ q F1 G1 _ H1 (s1.setV i r1)⟩
theorem wpL_mono : ∀ (l : Le) ρ S (Q Q' : KL), wpL l ρ S Q → (∀ d ρ' S', Q d ρ' S' → Q' d ρ' S') → wpL l ρ S Q'
  | .lst es, ρ, S, Q, Q', h, k => monoEs es h fun ds ρ1 S1 q => ⟨q.1, k _ _ _ q.2⟩
  | .comp _ _ _ _ _, ρ, S, Q, Q', h, k => wpComp_mono _ _ _ _ h k
  | .list e, ρ, S, Q, Q', h, k => monoE e h fun x ρ1 S1 ⟨ds, hd, q⟩ => ⟨ds, hd, k _ _ _ q⟩
  | .range e, ρ, S, Q, Q', h, k => monoE e h fun x ρ1 S1 ⟨ds, hd, h1, h2, q⟩ => ⟨ds, hd, h1, h2, k _ _ _ q⟩
theorem wpP_mono : ∀ (l : Pv) ρ S (Q Q' : Sl → Ro → Ss → Prop), wpP l ρ S Q → (∀ d ρ' S', Q d ρ' S' → Q' d ρ' S') → wpP l ρ S Q'
  | .v e, ρ, S, Q, Q', h, k => monoE e h fun _ _ _ q => k _ _ _ q
  | .l l, ρ, S, Q, Q', h, k => wpL_mono l _ _ _ _ h fun _ _ _ q => k _ _ _ q
/-- name = several names -/
theorem ps_setsD {is : List Nat} {tg : Expr} {te : TE} (hK : X.K = e.K) (h : PS X (.Assign [tg] a pos) (tAsg (tW e (wpE ma)) (gT X.K (.tup is)))) : PS X (.Assign [tg] a pos) (tS e (wpS (.sets is ma))) :=
  PS.imp h fun D σ H ⟨ρ, S, F, G, Q, s, h, le⟩ => ⟨ρ, S, F, G, s, monoE ma h fun d ρ1 S1 ⟨ds, ed, hl, q⟩ v F1 G1 H1 s1 r1 x1 => by
    rw [hK]
    exact gT_ok' (t := .tup is) (d := d) (Q := fun ρ' => Q.nx ρ' S1) s1 r1 (by subst ed; exact ⟨hl, q⟩) fun ρ' σ' s' q' => le.nx _ _ q' F1 G1 σ' H1 s'⟩
/-! two at once -/
def SlV (e : Ent) (ρ : Ro) (σ : L2.St) (F : Hp) (G : Gs) (H : Hp) (v : V) : Sl → Prop
  | .un => False
  | .v d => Rp e.K F G v d
  | .own ds => ∃ a, v = .ref a ∧ Fr1 e ρ σ F G H a ds
def tP (e : Ent) (w : Ro → Ss → (Sl → Ro → Ss → Prop) → Prop) : TE := fun σ H Q => ∃ ρ S F G, SR e ρ S F G σ H ∧ w ρ S fun sl ρ' S' => ∀ v F' G' H', SR e ρ' S' F' G' σ H' → SlV e ρ' σ F' G' H' v sl → Ext F G F' G' → Q v H'
def tPU (K : PySem.W.Frag) (T : List Addr) (w : Ro → Ss → (Sl → Ro → Ss → Prop) → Prop) : TE := fun σ H Q => ∃ e : Ent, e.K = K ∧ e.T = T ∧ tP e w σ H Q
theorem pe_PU {K : PySem.W.Frag} {T : List Addr} {w : Ro → Ss → (Sl → Ro → Ss → Prop) → Prop} (h : ∀ e : Ent, e.K = K → e.T = T → PE X a (tP e w)) : PE X a (tPU K T w) := ⟨fun pins s σ H D I ⟨e, e1, e2, q⟩ => (h e e1 e2).run pins s σ H D I q⟩
theorem pe_Pv (h : PE X a (tW e (wpE ma))) : PE X a (tP e (wpP (.v ma))) := PE.imp h fun σ H Q ⟨ρ, S, F, G, s, h⟩ => ⟨ρ, S, F, G, s, h⟩
theorem pe_Pl {l : Le} (h : PE X a (tL e (wpL l))) : PE X a (tP e (wpP (.l l))) := PE.imp h fun σ H Q ⟨ρ, S, F, G, s, h⟩ => ⟨ρ, S, F, G, s, wpL_mono l _ _ _ _ h fun ds ρ1 S1 q a F1 G1 H1 s1 f1 x1 => q _ F1 G1 H1 s1 ⟨a, rfl, f1⟩ x1⟩
/-- a slot set -/
theorem SlV.toSlot {ρ : Ro} {S : Ss} {F : Hp} {G : Gs} {σ : L2.St} {H : Hp} {v : V} {sl : Sl} (s : SR e ρ S F G σ H) (h : SlV e ρ σ F G H v sl) (i : Nat) : SR e (ρ.set i sl) S F G (σ.set i (some v)) H := by
  cases sl with
  | un => exact h.elim
  | v d => exact s.setV i h
  | own ds =>
    obtain ⟨a, rfl, f⟩ := h
    exact f.toOwn s i
/-- several values -/
def SlVs (e : Ent) (ρ : Ro) (σ : L2.St) (F : Hp) (G : Gs) (H : Hp) : List V → List Sl → Prop
  | [], [] => True
  | v :: vs, x :: xs => SlV e ρ σ F G H v x ∧ (∀ ds, x = .own ds → ∀ (i : Nat) (es : List D), xs[i]? = some (.own es) → vs[i]? ≠ some v) ∧ SlVs e ρ σ F G H vs xs
  | _, _ => False
theorem wpPs_mono : ∀ (l : List Pv) ρ S (Q Q' : List Sl → Ro → Ss → Prop), wpPs l ρ S Q → (∀ d ρ' S', Q d ρ' S' → Q' d ρ' S') → wpPs l ρ S Q'
  | [], ρ, S, Q, Q', h, k => k _ _ _ h
  | p :: ps, ρ, S, Q, Q', h, k => wpP_mono p _ _ _ _ h fun x ρ1 S1 h1 => wpPs_mono ps _ _ _ _ h1 fun xs ρ2 S2 h2 => k _ _ _ h2
def tPs (e : Ent) (w : Ro → Ss → (List Sl → Ro → Ss → Prop) → Prop) : TA := fun σ H Q => ∃ ρ S F G, SR e ρ S F G σ H ∧ w ρ S fun xs ρ' S' => ∀ vs F' G' H', SR e ρ' S' F' G' σ H' → SlVs e ρ' σ F' G' H' vs xs → Ext F G F' G' → Q vs H'
def tPsU (K : PySem.W.Frag) (T : List Addr) (w : Ro → Ss → (List Sl → Ro → Ss → Prop) → Prop) : TA := fun σ H Q => ∃ e : Ent, e.K = K ∧ e.T = T ∧ tPs e w σ H Q
theorem pa_PsU {es : List Expr} {K : PySem.W.Frag} {T : List Addr} {w : Ro → Ss → (List Sl → Ro → Ss → Prop) → Prop} (h : ∀ e : Ent, e.K = K → e.T = T → PA X es (tPs e w)) : PA X es (tPsU K T w) := ⟨fun p pins s σ H D I ⟨e, e1, e2, q⟩ => (h e e1 e2).run p pins s σ H D I q⟩
theorem pa_Pnil : PA X [] (tPs e (wpPs [])) := PA.imp pa_nil fun σ H Q ⟨ρ, S, F, G, s, h⟩ => h [] F G H s trivial (Ext.refl _ _)
theorem SlV.unhold {a1 : Addr} {o1 : HO} {ρ : Ro} {S : Ss} {F : Hp} {G : Gs} {σ : L2.St} {H : Hp} {v : V} {x : Sl} (h : SlV (e.hold a1 o1) ρ σ F G H v x) : SlV e ρ σ F G H v x ∧ ∀ ds, x = .own ds → v ≠ .ref a1 := by
  cases x with
  | un => exact h.elim
  | v d => exact ⟨h, fun ds z => by cases z⟩
  | own ds =>
    obtain ⟨a, rfl, f⟩ := h
    have hne : a ≠ a1 := fun z => by
      have := f.own.h0
      rw [z] at this
      have this : upd e.H₀ a1 o1 a1 = none := this
      rw [upd_same] at this; cases this
    refine ⟨⟨a, rfl, ⟨by have : upd e.H₀ a1 o1 a = none := f.own.h0; rw [upd_ne hne] at this; exact this, f.own.f, f.own.g, f.own.t⟩, f.lst, f.no⟩, fun _ _ z => hne (by cases z; rfl)⟩
theorem SlVs.unhold {a1 : Addr} {o1 : HO} {ρ : Ro} {S : Ss} {F : Hp} {G : Gs} {σ : L2.St} {H : Hp} : ∀ {vs : List V} {xs : List Sl}, SlVs (e.hold a1 o1) ρ σ F G H vs xs → SlVs e ρ σ F G H vs xs ∧ ∀ (i : Nat) (es : List D), xs[i]? = some (.own es) → vs[i]? ≠ some (.ref a1)
  | [], [], _ => ⟨trivial, fun i es h => by simp at h⟩
  | v :: vs, x :: xs, ⟨h1, h2, h3⟩ => by
    obtain ⟨a1', a2⟩ := SlV.unhold (S := S) h1
    obtain ⟨b1, b2⟩ := SlVs.unhold (S := S) h3
    refine ⟨⟨a1', h2, b1⟩, fun i es hi => ?_⟩
    cases i with
    | zero =>
      exact fun z => a2 es (by simpa using hi) (by simpa using z)
    | succ i => simpa using b2 i es (by simpa using hi)
  | [], _ :: _, h => h.elim
  | _ :: _, [], h => h.elim
theorem pa_Pcons {p : Pv} {ps : List Pv} {es : List Expr} (ha : PE X a (tP e (wpP p))) (hb : PA X es (tPsU e.K e.T (wpPs ps))) (hst : starEach (a :: es) X.env = (false, eval a X.env) :: starEach es X.env) : PA X (a :: es) (tPs e (wpPs (p :: ps))) :=
  PA.imp (pa_cons ha hb hst) fun σ H Q ⟨ρ, S, F, G, s, h⟩ => by
    refine ⟨ρ, S, F, G, s, wpP_mono p _ _ _ _ h fun sl ρ1 S1 h1 v F1 G1 H1 s1 v1 x1 => ?_⟩
    cases sl with
    | un => exact v1.elim
    | v d =>
      exact ⟨e, rfl, rfl, ρ1, S1, F1, G1, s1, wpPs_mono ps _ _ _ _ h1 fun xs ρ2 S2 h2 us F2 G2 H2 s2 v2 x2 => h2 (v :: us) F2 G2 H2 s2 ⟨v1.ext x2, fun ds z => (by cases z), v2⟩ (x1.trans x2)⟩
    | own ds =>
      obtain ⟨a1, rfl, f1⟩ := v1
      obtain ⟨vs1, l1, l2⟩ := f1.lst
      have sh := s1.hold l1 f1.own f1.no
      refine ⟨e.hold a1 (.lst vs1), rfl, rfl, ρ1, S1, F1, G1, sh, wpPs_mono ps _ _ _ _ h1 fun xs ρ2 S2 h2 us F2 G2 H2 s2 v2 x2 => ?_⟩
      have st := f1.own.start s1.g
      obtain ⟨s3, e3, o3, n3⟩ := s2.unhold f1.own.h0 st.1 st.2 f1.own.t
      obtain ⟨w1, w2⟩ := SlVs.unhold (S := S2) v2
      exact h2 (.ref a1 :: us) F2 G2 H2 s3 ⟨⟨a1, rfl, ⟨o3, ⟨vs1, e3, l2.ext x2⟩, n3⟩⟩, fun ds' _ i es hi => w2 i es hi, w1⟩ (x1.trans x2)
def setVs : List Nat → List V → L2.St → L2.St
  | i :: is, v :: vs, σ => setVs is vs (σ.set i (some v))
  | _, _, σ => σ
theorem SlV.after {ρ : Ro} {F : Hp} {G : Gs} {σ : L2.St} {H : Hp} {v v2 : V} {x x2 : Sl} {i : Nat} (hl : ρ.length = σ.length) (h : SlV e ρ σ F G H v2 x2) (hne : ∀ ds es, x = .own ds → x2 = .own es → v2 ≠ v) : SlV e (ρ.set i x) (σ.set i (some v)) F G H v2 x2 := by
  cases x2 with
  | un => exact h
  | v d => exact h
  | own es =>
    obtain ⟨a, rfl, f⟩ := h
    refine ⟨a, rfl, f.own, f.lst, fun j ds hj z => ?_⟩
    rw [getS_set, hl] at hj
    rw [set_get] at z
    by_cases c : i = j ∧ i < σ.length
    · rw [if_pos c] at hj z
      cases z
      exact hne ds es hj rfl rfl
    · rw [if_neg c] at hj z
      exact f.no j ds hj z
theorem SlVs.after {ρ : Ro} {F : Hp} {G : Gs} {σ : L2.St} {H : Hp} {v : V} {x : Sl} {i : Nat} (hl : ρ.length = σ.length) : ∀ {vs : List V} {xs : List Sl}, SlVs e ρ σ F G H vs xs → (∀ ds, x = .own ds → ∀ (i : Nat) (es : List D), xs[i]? = some (.own es) → vs[i]? ≠ some v) → SlVs e (ρ.set i x) (σ.set i (some v)) F G H vs xs
  | [], [], _, _ => trivial
  | u :: vs, y :: xs, ⟨h1, h2, h3⟩, k => ⟨h1.after hl fun ds es z1 z2 z3 => k ds z1 0 es (by rw [z2]; rfl) (by rw [z3]; rfl), h2, SlVs.after hl h3 fun ds z i es hi => by simpa using k ds z (i + 1) es (by simpa using hi)⟩
  | [], _ :: _, h, _ => h.elim
  | _ :: _, [], h, _ => h.elim
theorem SlVs.set {S : Ss} {F : Hp} {G : Gs} {H : Hp} : ∀ {is : List Nat} {vs : List V} {xs : List Sl} {ρ : Ro} {σ : L2.St}, SR e ρ S F G σ H → SlVs e ρ σ F G H vs xs → SR e (setSls is xs ρ) S F G (setVs is vs σ) H
  | [], vs, xs, ρ, σ, s, h => by unfold setSls setVs; exact s
  | i :: is, [], [], ρ, σ, s, h => s
  | i :: is, v :: vs, x :: xs, ρ, σ, s, ⟨h1, h2, h3⟩ => SlVs.set (is := is) (h1.toSlot s i) (h3.after s.len h2)
  | _ :: _, [], _ :: _, _, _, _, h => h.elim
  | _ :: _, _ :: _, [], _, _, _, h => h.elim
theorem SlVs.length {ρ : Ro} {F : Hp} {G : Gs} {σ : L2.St} {H : Hp} : ∀ {vs : List V} {xs : List Sl}, SlVs e ρ σ F G H vs xs → vs.length = xs.length
  | [], [], _ => rfl
  | _ :: vs, _ :: xs, ⟨_, _, h⟩ => by simp [SlVs.length h]
  | [], _ :: _, h => h.elim
  | _ :: _, [], h => h.elim
theorem wpPs_len : ∀ (l : List Pv) ρ S (Q : List Sl → Ro → Ss → Prop), wpPs l ρ S Q → wpPs l ρ S fun xs ρ' S' => xs.length = l.length ∧ Q xs ρ' S'
  | [], ρ, S, Q, h => ⟨rfl, h⟩
  | p :: ps, ρ, S, Q, h => wpP_mono p _ _ _ _ h fun x ρ1 S1 h1 => wpPs_mono ps _ _ _ _ (wpPs_len ps _ _ _ h1) fun xs ρ2 S2 h2 => ⟨by simp [h2.1], h2.2⟩
theorem ps_par2D {p q : Pv} {px py pt p3 : Pos} {kt k2} (hc : X.calm = true) (hN : X.N.Nodup) (hi : X.N[i]? = some x) (hj : X.N[j]? = some y) (hij : i ≠ j)
    (hx : X.env.scope.names.lookup x = some .local) (hy : X.env.scope.names.lookup y = some .local) (ha : PA X [a, b] (tPs e (wpPs [p, q])))
    (hw : swappedStores [.Tuple [.Name x px, .Name y py] kt pt] (.Tuple [a, b] k2 p3) X.env = pure (some [x, y]))
    (hs : swapsWithSole [.Tuple [.Name x px, .Name y py] kt pt] (.Tuple [a, b] k2 p3) pos.line X.env = pure false) :
    PS X (.Assign [.Tuple [.Name x px, .Name y py] kt pt] (.Tuple [a, b] k2 p3) pos) (tS e (wpS (.pars [i, j] [p, q]))) :=
  PS.imp (ps_par hc hN hi hj hij hx hy ha hw hs) fun D σ H ⟨ρ, S, F, G, Q, s, h, le⟩ => ⟨ρ, S, F, G, s, wpPs_mono _ _ _ _ _ (wpPs_len [p, q] _ _ (fun xs ρ1 S1 => Q.nx (setSls [i, j] xs ρ1) S1) h) fun xs ρ1 S1 ⟨hl, q⟩ vs F1 G1 H1 s1 v1 x1 => by
    have hl2 := v1.length
    have := SlVs.set (is := [i, j]) s1 v1
    obtain ⟨v, w, ev⟩ : ∃ v w, vs = [v, w] := by
      rw [hl] at hl2
      clear v1 this
      match vs, hl2 with
      | [v, w], _ => exact ⟨v, w, rfl⟩
    subst ev
    exact ⟨v, w, rfl, le.nx _ _ q F1 G1 _ H1 this⟩⟩
/-- by way of a tuple -/
theorem gNames_set {is : List Nat} {vs : List V} {σ : L2.St} {H : Hp} {Kk : L2.St → Hp → Prop} (hl : vs.length = is.length) (h : Kk (setVs is vs σ) H) : gNames is vs σ H Kk := by
  induction is generalizing vs σ with
  | nil =>
    cases vs with
    | nil => exact ⟨rfl, h⟩
    | cons v vs => cases hl
  | cons i is ih =>
    cases vs with
    | nil => cases hl
    | cons v vs => exact ⟨v, vs, rfl, ih (by simpa using hl) h⟩
theorem ps_parsD {is : List Nat} {ps : List Pv} {tg : Expr} {es : List Expr} {k2 : Nat} {p3 : Pos} (hl : ps.length = is.length) (hz : is.length ≤ 1000) (ha : PA X es (tPs e (wpPs ps))) (hg : PG X tg (gT X.K (.tup is)))
    (hs : swapsWithSole [tg] (.Tuple es k2 p3) pos.line X.env = pure false) (hw : swappedStores [tg] (.Tuple es k2 p3) X.env = pure none) (h1 : (assignEach [tg] X.env).map (·.2) = [assign tg X.env]) :
    PS X (.Assign [tg] (.Tuple es k2 p3) pos) (tS e (wpS (.pars is ps))) :=
  PS.imp (ps_asg (pe_tup ha) hg hs hw h1) fun D σ H ⟨ρ, S, F, G, Q, s, h, le⟩ => ⟨ρ, S, F, G, s, wpPs_mono _ _ _ _ _ (wpPs_len ps _ _ (fun xs ρ1 S1 => Q.nx (setSls is xs ρ1) S1) h) fun xs ρ1 S1 ⟨hl1, q⟩ vs F1 G1 H1 s1 v1 x1 => by
    have hl2 := v1.length
    refine ⟨by rw [hl2, hl1, hl, sizeLine_eq]; omega, fun p hp => ⟨p, vs, rfl, .inl (.inl upd_same), by rw [hl2, hl1, hl], gNames_set (by rw [hl2, hl1, hl]) (le.nx _ _ q F1 G1 _ _ ?_)⟩⟩
    exact (SlVs.set s1 v1).new hp⟩
theorem ps_exD (ha : PE X a (tW e (wpE ma))) (hs : swapsWith a none pos.line X.env = pure false) : PS X (.Expr a pos) (tS e (wpS (.ex ma))) :=
  PS.imp (ps_expr ha hs) fun D σ H ⟨ρ, S, F, G, Q, s, h, le⟩ => ⟨ρ, S, F, G, s, monoE ma h fun d ρ1 S1 q v F1 G1 H1 s1 r1 x1 => le.nx _ _ q F1 G1 _ H1 s1⟩
theorem ps_retD (ha : PE X a (tW e (wpE ma))) : PS X (.Return (some a) pos) (tS e (wpS (.ret ma))) :=
  PS.imp (ps_ret ha) fun D σ H ⟨ρ, S, F, G, Q, s, h, le⟩ => ⟨ρ, S, F, G, s, monoE ma h fun d ρ1 S1 q v F1 G1 H1 s1 r1 x1 => le.rt _ _ q v _ F1 G1 _ H1 s1 r1⟩
theorem ps_retnD : PS X (.Return none pos) (tS e (wpS .retn)) :=
  PS.imp ps_retN fun D σ H ⟨ρ, S, F, G, Q, s, h, le⟩ => le.rt _ _ h _ _ F G _ H s .non
theorem ps_passD : PS X (.Pass pos) (tS e (wpS .pass)) := PS.imp ps_pass fun D σ H ⟨ρ, S, F, G, Q, s, h, le⟩ => le.nx _ _ h F G _ H s
theorem ps_brkD : PS X (.Break pos) (tS e (wpS .brk)) := PS.imp ps_break fun D σ H ⟨ρ, S, F, G, Q, s, h, le⟩ => le.bk _ _ h F G _ H s
theorem ps_contD : PS X (.Continue pos) (tS e (wpS .cont)) := PS.imp ps_continue fun D σ H ⟨ρ, S, F, G, Q, s, h, le⟩ => le.ct _ _ h F G _ H s
theorem ps_iffD {c : Expr} {t : T} {sa sb : List Stmt} {m1 m2 : Sms} (hc : PT X c (tWt e (wpT t))) (ha : PSs X sa (tS e (wpSs m1))) (hb : PSs X sb (tS e (wpSs m2))) : PS X (.If c sa sb pos) (tS e (wpS (.iff t m1 m2))) :=
  PS.imp (ps_if hc ha hb) fun D σ H ⟨ρ, S, F, G, Q, s, h, le⟩ => ⟨ρ, S, F, G, s, monoT t h fun b ρ1 S1 q F1 G1 H1 s1 x1 => by
    by_cases hb : b = true
    · rw [if_pos hb] at q ⊢
      exact ⟨ρ1, S1, F1, G1, Q, s1, q, le⟩
    · rw [if_neg hb] at q ⊢
      exact ⟨ρ1, S1, F1, G1, Q, s1, q, le⟩⟩
theorem ps_frD {tg iter : Expr} {t : Tg} {it : It} {body : List Stmt} {ms : Sms} (hK : X.K = e.K) (hp : PassesOwn (model X.prog X.w) X.A X.env X.xe) (hc : X.calm = true) (hi : PI X tg iter (tI e (wpI it))) (hg : PG X tg (gT X.K t)) (hb : PSs X body (tSU e.K e.T (wpSs ms)))
    (hs : ∀ x, foldedSetIterable iter X.env x = pure x) : PS X (.For tg iter body [] pos) (tS e (wpS (.fr t it ms))) :=
  PS.imp (ps_for hp hc hi hg hb hs) fun D σ H ⟨ρ, S, F, G, Q, s, h, le⟩ => ⟨ρ, S, F, G, s, monoI it h fun items ρ1 S1 q J F1 G1 H1 s1 x1 ok => by
    refine ⟨fun i m σ H => m = items.length - i ∧ i ≤ items.length ∧ ∃ ρ S F G, SR (e.base F1 G1) ρ S F G σ H ∧ frW (tgW t) (wpSs ms) (items.drop i) ρ S Q, ⟨items.length, by simp, Nat.zero_le _, ρ1, S1, F1, G1, s1.rebase, by simpa using q⟩, ?_⟩
    rintro i m σ H ⟨rfl, hi, ρ, S, F, G, sc, hwp⟩
    by_cases hlt : i < items.length
    · refine .inr ?_
      obtain ⟨d, hd⟩ : ∃ d, items[i]? = some d := ⟨items[i], List.getElem?_eq_getElem hlt⟩
      rw [drop_get hd] at hwp
      obtain ⟨hgo, hyl⟩ := ok.go i d hd (e.base F1 G1) rfl _ _ _ _ _ _ sc sc.g.extBase
      refine ⟨hgo, fun σ H => ∃ ρ S F G, SR (e.base F1 G1) ρ S F G σ H ∧ frW (tgW t) (wpSs ms) (items.drop (i + 1)) ρ S Q, fun σ' H' hn => ⟨items.length - (i + 1), by omega, rfl, hlt, hn⟩, fun x H' hx => ?_⟩
      obtain ⟨F2, s2, x2, r2⟩ := hyl x H' hx
      rw [hK]
      refine gT_ok' (e := e.base F1 G1) s2 r2 hwp fun ρ3 σ3 s3 q3 => ⟨e.base F1 G1, rfl, rfl, ρ3, S, F2, G, _, s3, q3, ⟨fun ρ4 S4 q4 F4 G4 σ4 H4 s4 => ⟨ρ4, S4, F4, G4, s4, q4⟩, fun d S4 q4 v ρ4 F4 G4 σ4 H4 s4 r4 => le.rt _ _ q4 v ρ4 F4 G4 σ4 H4 (s4.unbase s1.g) r4,
        fun ρ4 S4 q4 F4 G4 σ4 H4 s4 => le.nx _ _ q4 F4 G4 σ4 H4 (s4.unbase s1.g), fun ρ4 S4 q4 F4 G4 σ4 H4 s4 => ⟨ρ4, S4, F4, G4, s4, q4⟩⟩⟩
    · have e0 : items.drop i = [] := List.drop_eq_nil_of_le (by omega)
      rw [e0] at hwp
      exact .inl ⟨ok.stop i (by omega) (e.base F1 G1) rfl _ _ _ _ _ _ sc sc.g.extBase, le.nx _ _ hwp F G σ H (sc.unbase s1.g)⟩⟩
theorem ps_whilD {c : Expr} {t : T} {body : List Stmt} {ms : Sms} (hp : PassesOwn (model X.prog X.w) X.A X.env X.xe) (hc : PT X c (tWt e (wpT t))) (hb : PSs X body (tS e (wpSs ms))) : PS X (.While c body [] pos) (tS e (wpS (.whil t ms))) :=
  PS.imp (ps_while hp hc hb) fun D σ H ⟨ρ, S, F, G, Q, s, ⟨I, ⟨m0, i0⟩, step⟩, le⟩ => by
    refine ⟨fun m σ H => ∃ ρ S F G, SR e ρ S F G σ H ∧ I m ρ S, ⟨m0, ρ, S, F, G, s, i0⟩, ?_⟩
    rintro m σ H ⟨ρ, S, F, G, s, im⟩
    refine ⟨ρ, S, F, G, s, monoT t (step m ρ S im) fun b ρ1 S1 q F1 G1 H1 s1 x1 => ?_⟩
    by_cases hb : b = true
    · rw [if_pos hb] at q ⊢
      refine ⟨fun σ H => ∃ m', m' < m ∧ ∃ ρ S F G, SR e ρ S F G σ H ∧ I m' ρ S, fun σ' H' hn => hn, ρ1, S1, F1, G1, _, s1, q, ⟨fun ρ4 S4 ⟨m', h1, h2⟩ F4 G4 σ4 H4 s4 => ⟨m', h1, ρ4, S4, F4, G4, s4, h2⟩, le.rt, le.nx, fun ρ4 S4 ⟨m', h1, h2⟩ F4 G4 σ4 H4 s4 => ⟨m', h1, ρ4, S4, F4, G4, s4, h2⟩⟩⟩
    · rw [if_neg hb] at q ⊢
      exact le.nx _ _ q F1 G1 _ H1 s1
variable {p2 apos cpos : Pos}
theorem ps_appD (hN : X.N[i]? = some x) (hv : Vis X.env.scope x) (hd : (x == ("__debug__" : Str)) = false) (hcd : (x == ("__classdict__" : Str)) = false) (hb : PE X b (tW e (wpE mb)))
    (hbase : attributeBase (.Name x p2) "append" X.env (eval (.Name x p2) X.env) = eval (.Name x p2) X.env)
    (hfew : ((backTo cpos (starEach [b] X.env)).all (fun x => !x.1) && (backToKw cpos (keywordEach [] X.env)).all (fun x => x.1.isSome)
      && decide ([b].length + ([] : List Keyword).length + (if ([] : List Keyword).isEmpty then 0 else 1) < 30)) = true)
    (hline : (apos.endLine == cpos.line) = true) (hs : starEach [b] X.env = (false, eval b X.env) :: starEach [] X.env) (hsw : swapsWith (.Call (.Attribute (.Name x p2) "append" apos) [b] [] cpos) none pos.line X.env = pure false) :
    PS X (.Expr (.Call (.Attribute (.Name x p2) "append" apos) [b] [] cpos) pos) (tS e (wpS (.app i mb))) :=
  PS.imp (ps_expr (pe_bm F.plainAttrs_list F.slot_list_append F.type_list_append mt_append (pe_var hN hv hd hcd) (pa_cons hb pa_nil hs) hbase hfew hline hs rfl) hsw) fun D σ H ⟨ρ, S, F, G, Q, s, ⟨⟨ds0, q0⟩, h⟩, le⟩ => by
    obtain ⟨a, vs0, e1, e2, _⟩ := s.own q0
    refine ⟨.ref a, e1, .inl ⟨rfl, vs0, .of e2⟩, ρ, S, F, G, s, monoE mb h fun d ρ1 S1 ⟨ds, q, hsz, h1⟩ u F1 G1 H1 s1 r1 x1 => ?_⟩
    obtain ⟨vs, e3, e4⟩ := own_at (ρ := ρ) (S := S) (F := F) (G := G) (H := H) e1 s1 q
    exact ⟨a, vs, u, rfl, rfl, e3, by rw [e4.length]; exact hsz, le.nx _ _ h1 F1 G1 _ _ (s1.write q e1 (e4.append (.one r1)))⟩
theorem ps_extD (hN : X.N[i]? = some x) (hv : Vis X.env.scope x) (hd : (x == ("__debug__" : Str)) = false) (hcd : (x == ("__classdict__" : Str)) = false) (hb : PE X b (tW e (wpE mb)))
    (hbase : attributeBase (.Name x p2) "extend" X.env (eval (.Name x p2) X.env) = eval (.Name x p2) X.env)
    (hfew : ((backTo cpos (starEach [b] X.env)).all (fun x => !x.1) && (backToKw cpos (keywordEach [] X.env)).all (fun x => x.1.isSome)
      && decide ([b].length + ([] : List Keyword).length + (if ([] : List Keyword).isEmpty then 0 else 1) < 30)) = true)
    (hline : (apos.endLine == cpos.line) = true) (hs : starEach [b] X.env = (false, eval b X.env) :: starEach [] X.env) (hsw : swapsWith (.Call (.Attribute (.Name x p2) "extend" apos) [b] [] cpos) none pos.line X.env = pure false) :
    PS X (.Expr (.Call (.Attribute (.Name x p2) "extend" apos) [b] [] cpos) pos) (tS e (wpS (.ext i mb))) :=
  PS.imp (ps_expr (pe_bm F.plainAttrs_list F.slot_list_extend F.type_list_extend mt_extend (pe_var hN hv hd hcd) (pa_cons hb pa_nil hs) hbase hfew hline hs rfl) hsw) fun D σ H ⟨ρ, S, F, G, Q, s, ⟨⟨ds0, q0⟩, h⟩, le⟩ => by
    obtain ⟨a, vs0, e1, e2, _⟩ := s.own q0
    refine ⟨.ref a, e1, .inl ⟨rfl, vs0, .of e2⟩, ρ, S, F, G, s, monoE mb h fun d ρ1 S1 ⟨ds, es, q, ed, hsz, h1⟩ u F1 G1 H1 s1 r1 x1 => ?_⟩
    subst ed
    obtain ⟨vs, e3, e4⟩ := own_at (ρ := ρ) (S := S) (F := F) (G := G) (H := H) e1 s1 q
    cases r1 with
    | @lst b us _ g1 g2 => exact ⟨a, b, vs, us, rfl, rfl, e3, s1.g.sub _ _ g1, by rw [e4.length, g2.length]; exact hsz, le.nx _ _ h1 F1 G1 _ _ (s1.write q e1 (e4.append g2))⟩
end
end Py
set_option Elab.async false
set_option linter.all false
set_option maxRecDepth 100000
set_option maxHeartbeats 4000000
/-! The box of draws; a list's places. -/
namespace Py
open PySem PySem.Spec PyProof.Rows L2 GxR

section
variable {e : Ent} {ρ : Ro} {S : Ss} {F : Hp} {G : Gs} {σ : L2.St} {H H' : Hp} {n : Nat} {p : Addr × Addr} {c c' : Cell}
theorem SR.cell (s : SR e ρ S F G σ H) (hp : G[n]? = some p) (hc : S[n]? = some c) (same : ∀ a, a ≠ p.1 → a ≠ p.2 → H' a = H a) (ok : CellOk e.K F G H' p c') : SR e ρ (S.set n c') F G σ H' := by
  have th := (s.g.cells n p c hp hc).there
  have hm : p ∈ G := List.mem_of_getElem? hp
  refine s.step ⟨fun a o h => ?_, fun a o h h1 h2 => ?_, s.g.fnew, s.g.fold, s.g.gpre, by rw [List.length_set]; exact s.g.slen, fun m q d h1 h2 => ?_, s.g.gap, s.g.gF, fun P hP => ?_⟩ (Ext.refl _ _) fun a vs h1 h2 _ => ⟨?_, h2⟩
  · obtain ⟨f1, f2⟩ := s.g.gF p hm
    rw [same a (fun z => by rw [z, f1] at h; cases h) (fun z => by rw [z, f2] at h; cases h)]
    exact s.g.sub a o h
  · have nf : ¬ (a = p.1 ∨ a = p.2) := fun z => by
      obtain ⟨g, hg, hn⟩ := s.g.gpre
      rw [hg] at hm
      rcases List.mem_append.mp hm with hm | hm
      · exact h1 ⟨p, hm, z⟩
      · rcases z with z | z
        · rw [z, (hn p hm).1] at h; cases h
        · rw [z, (hn p hm).2] at h; cases h
    rw [same a (fun z => nf (.inl z)) (fun z => nf (.inr z))]
    exact s.g.base a o h h1 h2
  · rw [List.getElem?_set] at h2
    by_cases hnm : n = m
    · subst hnm
      rw [hp] at h1; cases h1
      rw [if_pos rfl] at h2
      split at h2
      · cases h2; exact ok
      · cases h2
    · rw [if_neg hnm] at h2
      obtain ⟨g1, g2, g3, g4⟩ := s.g.gap n m p q hnm hp h1
      exact (s.g.cells m q d h1 h2).same (Ext.refl _ _) (same _ (Ne.symm g1) (Ne.symm g3)) (same _ (Ne.symm g2) (Ne.symm g4))
  · obtain ⟨⟨ps, h1, h2⟩, h3⟩ := s.g.tabs P hP
    obtain ⟨⟨o1, q1, z1⟩, o2, q2, z2⟩ := th
    have n1 : P ≠ p.1 := fun z => by rw [← z, h1] at q1; cases q1; exact z1 ps rfl
    have n2 : P ≠ p.2 := fun z => by rw [← z, h1] at q2; cases q2; exact z2 ps rfl
    exact ⟨⟨ps, (same P n1 n2).trans h1, h2⟩, h3⟩
  · rw [same a (fun z => h2.g ⟨p, hm, .inl z⟩) (fun z => h2.g ⟨p, hm, .inr z⟩)]
    exact h1
theorem SR.box (s : SR e ρ S F G σ H) {k : Nat} (hp : G[n]? = some p) (hc : S[n]? = some (.box k)) : BoxOk H p k := s.g.cells n p _ hp hc
end
section
variable {X : Cx} {e : Ent} {pos p2 apos cpos : Pos} {i : Nat} {x : Str} {a b : Expr} {ma mb : E}
theorem pe_bxD {k : Nat} {j : Nat} {p3 : Pos} (hk : k = 0 ∨ k = 1 ∨ k = 2) (hN : X.N[i]? = some x) (hv : Vis X.env.scope x) (hd : (x == ("__debug__" : Str)) = false) (hcd : (x == ("__classdict__" : Str)) = false) :
    PE X (.Subscript (.Name x p2) (.Constant (.int (k : Nat)) j p3) pos) (tW e (wpE (.bx i k))) :=
  PE.imp (pe_ix ix_list (pe_var hN hv hd hcd) pe_int (fun _ _ => rfl)) fun σ H Q ⟨ρ, S, F, G, s, n, l, e1, e2, h⟩ => by
    obtain ⟨v, hv, rv⟩ := s.val e1
    cases rv with
    | @obj _ p hp =>
      obtain ⟨ns, d, t, h0, h1, h2, h3, h4, h5⟩ := s.box hp e2
      refine ⟨_, hv, ?_⟩
      rcases h with ⟨rfl, q⟩ | ⟨hk', q⟩
      · exact ⟨p.1, _, 0, _, rfl, rfl, .of h1, rfl, q _ F G H s (.cel hp) (Ext.refl _ _)⟩
      · rcases hk' with rfl | rfl
        · exact ⟨p.1, _, 1, _, rfl, rfl, .of h1, rfl, q d h4 _ F G H s (.int _) (Ext.refl _ _)⟩
        · exact ⟨p.1, _, 2, _, rfl, rfl, .of h1, rfl, q t h5 _ F G H s (.int _) (Ext.refl _ _)⟩
theorem pe_bxlD {p : Pos} (hN : X.N[i]? = some x) (hv : Vis X.env.scope x) (hd : (x == ("__debug__" : Str)) = false) (hcd : (x == ("__classdict__" : Str)) = false) (hg : Gl X "len") (hm : X.mg "len" = none) :
    PE X (.Call (.Name "len" p) [.Name x p2] [] pos) (tW e (wpE (.bxl i))) :=
  PE.imp (pe_callB call_len_seq hg hm PySem.boot_len (pa_cons (pe_var hN hv hd hcd) pa_nil)) fun σ H Q ⟨ρ, S, F, G, s, n, l, e1, e2, h⟩ => by
    obtain ⟨v, hv, rv⟩ := s.val e1
    cases rv with
    | @cel _ p hp =>
      obtain ⟨ns, d, t, h0, h1, h2, h3, h4, h5⟩ := s.box hp e2
      refine ⟨_, hv, p.2, _, rfl, .inl (.of h2), ?_⟩
      rw [List.length_map]
      exact h ns.length _ F G H (s.cell hp e2 (fun _ _ _ => rfl) ⟨ns, d, t, Nat.le_refl _, h1, h2, h3, h4, h5⟩) (.int _) (Ext.refl _ _)
theorem pe_bxpD {j : Nat} {p3 : Pos} (hN : X.N[i]? = some x) (hv : Vis X.env.scope x) (hd : (x == ("__debug__" : Str)) = false) (hcd : (x == ("__classdict__" : Str)) = false) (hline : (apos.endLine == pos.line) = true) :
    PE X (.Call (.Attribute (.Name x p2) "pop" apos) [.Constant (.int 0) j p3] [] pos) (tW e (wpE (.bxp i))) :=
  PE.imp (pe_bm F.plainAttrs_list F.slot_list_pop F.type_list_pop mt_popAt (pe_var hN hv hd hcd) (pa_cons pe_int pa_nil) rfl rfl hline rfl rfl) fun σ H Q ⟨ρ, S, F, G, s, n, l, e1, e2, hl, h⟩ => by
    obtain ⟨v, hv, rv⟩ := s.val e1
    cases rv with
    | @cel _ p hp =>
      obtain ⟨ns, d, t, h0, h1, h2, h3, h4, h5⟩ := s.box hp e2
      cases ns with
      | nil => simp at h0; omega
      | cons z ns =>
        refine ⟨_, hv, .inl ⟨rfl, _, .of h2⟩, p.2, _, 0, 0, .int z, rfl, rfl, h2, by decide, by decide, ?_, rfl, ?_⟩
        · unfold seqIndex?
          simp
        · refine h z _ F G _ (s.cell hp e2 (fun b n1 n2 => upd_ne n2) ⟨ns, d, t, Nat.zero_le _, ?_, upd_same, h3, h4, h5⟩) (.int _) (Ext.refl _ _)
          rw [upd_ne h3]
          exact h1
theorem ps_bxwD {k : Nat} {j : Nat} {p3 p4 : Pos} (hk : k = 1 ∨ k = 2) (hN : X.N[i]? = some x) (hv : Vis X.env.scope x) (hd : (x == ("__debug__" : Str)) = false) (hcd : (x == ("__classdict__" : Str)) = false) (ha : PE X a (tW e (wpE ma)))
    (hs : swapsWithSole [.Subscript (.Name x p2) (.Constant (.int (k : Nat)) j p3) p4] a pos.line X.env = pure false) (hw : swappedStores [.Subscript (.Name x p2) (.Constant (.int (k : Nat)) j p3) p4] a X.env = pure none) :
    PS X (.Assign [.Subscript (.Name x p2) (.Constant (.int (k : Nat)) j p3) p4] a pos) (tS e (wpS (.bxw i ma))) :=
  PS.imp (ps_asg ha (pg_sub (pe_var hN hv hd hcd) pe_int set_list) hs hw rfl) fun D σ H ⟨ρ, S, F, G, Q, s, h, le⟩ => ⟨ρ, S, F, G, s, monoE ma h fun d ρ1 S1 ⟨z, n, l, ed, hz, e1, e2, q⟩ u F1 G1 H1 s1 r1 x1 => by
    subst ed
    cases r1
    obtain ⟨v, hv, rv⟩ := s1.val e1
    cases rv with
    | @obj _ p hp =>
      obtain ⟨ns, d, t, h0, h1, h2, h3, h4, h5⟩ := s1.box hp e2
      have hS : S1.set n (.box l) = S1 := by
        apply List.ext_getElem?
        intro m
        rw [List.getElem?_set]
        by_cases hm : n = m
        · subst hm
          rw [if_pos rfl, if_pos (List.getElem?_eq_some_iff.mp e2).1, e2]
        · rw [if_neg hm]
      refine ⟨_, hv, p.1, _, (k : Int), k, rfl, rfl, h1, ?_, ?_⟩
      · rcases hk with rfl | rfl <;> rfl
      · refine le.nx _ _ q F1 G1 _ _ ?_
        rw [← hS]
        refine s1.cell hp e2 (fun b n1 n2 => upd_ne n1) ?_
        have e3 : upd H1 p.1 (.lst ([V.ref p.2, .int d, .int t].set k (.int z))) p.2 = some (.lst (ns.map V.int)) := by rw [upd_ne (Ne.symm h3)]; exact h2
        rcases hk with rfl | rfl
        · exact ⟨ns, z, t, h0, upd_same, e3, h3, hz, h5⟩
        · exact ⟨ns, d, z, h0, upd_same, e3, h3, h4, hz⟩⟩
theorem ps_putD {p4 : Pos} (hN : X.N[i]? = some x) (hv : Vis X.env.scope x) (hd : (x == ("__debug__" : Str)) = false) (hcd : (x == ("__classdict__" : Str)) = false) (ha : PE X a (tW e (wpE ma))) (hb : PE X b (tW e (wpE mb)))
    (has : ∀ v, assign (.Subscript (.Name x p2) b p4) X.env v = (do
      let ov ← holding [v] (eval (.Name x p2) X.env)
      let iv ← holding [v, ov] (eval b X.env)
      standAt p4
      holding [v, ov, iv] (setItem ov iv v)
      release [v, ov, iv] []))
    (hs : swapsWithSole [.Subscript (.Name x p2) b p4] a pos.line X.env = pure false) (hw : swappedStores [.Subscript (.Name x p2) b p4] a X.env = pure none) :
    PS X (.Assign [.Subscript (.Name x p2) b p4] a pos) (tS e (wpS (.put i mb ma))) :=
  PS.imp (ps_asg ha (pg_sub (pe_var hN hv hd hcd) hb set_list has) hs hw rfl) fun D σ H ⟨ρ, S, F, G, Q, s, h, le⟩ => ⟨ρ, S, F, G, s, monoE ma h fun d ρ1 S1 ⟨⟨ds0, q0⟩, h2⟩ u F1 G1 H1 s1 r1 x1 => by
    obtain ⟨a0, vs0, e1, e2, _⟩ := s1.own q0
    refine ⟨.ref a0, e1, ρ1, S1, F1, G1, s1, monoE mb h2 fun y ρ2 S2 ⟨ds, j, q, ey, hj, hl, h3⟩ w F2 G2 H2 s2 r2 x2 => ?_⟩
    subst ey
    cases r2
    obtain ⟨vs, e3, e4⟩ := own_at (ρ := ρ1) (S := S1) (F := F1) (G := G1) (H := H1) e1 s2 q
    have hlv := e4.length
    refine ⟨a0, vs, j, j.toNat, rfl, rfl, e3, ?_, le.nx _ _ h3 F2 G2 _ _ (s2.write q e1 (e4.set _ (r1.ext x2)))⟩
    unfold L2.ixN
    rw [if_pos hj, if_pos (by omega)]⟩
end
end Py
set_option Elab.async false
set_option linter.all false
set_option maxRecDepth 100000
set_option maxHeartbeats 4000000
/-! More expressions: isinstance, in range, sorted(set(..)), t[::-1], fresh lists. -/
namespace Py
open PySem PySem.Spec PyProof.Rows L2 GxR

section
variable {X : Cx} {e : Ent} {pos : Pos} {a b c : Expr} {ma mb mc : E}
/-! ### isinstance -/
theorem tyD {F : Hp} {G : Gs} {H : Hp} {v : V} {x : D} {ty : String} {r : Bool} (hb : ty ∈ ["bool", "int", "str", "tuple", "list"]) (hF : ∀ a o, F a = some o → H a = some o) (rx : Rp e.K F G v x) (h : tyB x ty = some r) :
    ∃ t : String, TyX e.K H v (.type t) ∧ kitB t ty = some r := by
  have go : ∀ t : String, t ∈ ["NoneType", "bool", "int", "str", "tuple", "list"] → tyB.kitB' t ty = some r → kitB t ty = some r := fun t ht q => by
    obtain ⟨r', h1, h2⟩ := kit_all ht hb
    rw [q] at h2; cases h2
    exact h1
  cases rx with
  | non => exact ⟨"NoneType", .base .non, go _ (by simp) h⟩
  | bl b => exact ⟨"bool", .base (.bl _), go _ (by simp) h⟩
  | int b => exact ⟨"int", .base (.int _), go _ (by simp) h⟩
  | str b => exact ⟨"str", .base (.str _), go _ (by simp) h⟩
  | tup h1 h2 => exact ⟨"tuple", SqT.ty (SqT.ext hF h1), go _ (by simp) h⟩
  | lst h1 h2 => exact ⟨"list", .base (.lst (hF _ _ h1)), go _ (by simp) h⟩
  | obj h1 => cases h
  | scr h1 => cases h
  | cel h1 => cases h
theorem pe_isiD (hK : X.K = e.K) {ty : String} {tn : Str} {p p2 : Pos} (htn : bootBuiltins tn = some (.type ty)) (hb : ty ∈ ["bool", "int", "str", "tuple", "list"]) (hg : Gl X "isinstance") (hm : X.mg "isinstance" = none) (hg2 : Gl X tn) (hm2 : X.mg tn = none) (hn : tn ≠ "__name__") (hdb : (tn == ("__debug__" : Str)) = false)
    (ha : PE X a (tW e (wpE ma))) (hs : starEach [a, .Name tn p2] X.env = (false, eval a X.env) :: starEach [.Name tn p2] X.env) :
    PE X (.Call (.Name "isinstance" p) [a, .Name tn p2] [] pos) (tW e (wpE (.isi ma ty))) :=
  PE.imp (pe_callB (call_isi (X := X)) hg hm boot_isinstance (pa_cons ha (pa_cons (pe_bltn (v := .ty ty) hg2 hm2 htn rfl hn hdb) pa_nil) hs) (by decide) (by decide) hs) fun σ H Q ⟨ρ, S, F, G, s, h⟩ => ⟨ρ, S, F, G, s, monoE ma h fun x ρ1 S1 ⟨r, hr, q⟩ v F1 G1 H1 s1 r1 x1 => by
    obtain ⟨t, h1, h2⟩ := tyD hb s1.g.sub r1 hr
    exact ⟨v, .ty ty, .type t, .type ty, r, rfl, .ty ty, by rw [hK]; exact h1, kit_ty h2, q _ F1 G1 H1 s1 (.bl _) x1⟩⟩
/-! ### in range -/
theorem pe_inrD {p : Pos} {rp : Pos} (hg : Gl X "range") (hm : X.mg "range" = none) (ha : PE X a (tW e (wpE ma))) (hb : PE X b (tW e (wpE mb))) (hc : PE X c (tW e (wpE mc))) (hs : starEach [b, c] X.env = (false, eval b X.env) :: starEach [c] X.env) (hs2 : starEach [c] X.env = [(false, eval c X.env)]) :
    PE X (.Compare a [.In] [.Call (.Name "range" p) [b, c] [] rp] pos) (tW e (wpE (.inr ma mb mc))) :=
  PE.imp (pe_cmpR op_in_rng ha (pe_callTy cr_range2 hg hm boot_range (pa_cons hb (pa_cons hc pa_nil hs2) hs) (by decide) (by decide) hs (by rw [hs2]; rfl)) rfl) fun σ H Q ⟨ρ, S, F, G, s, h⟩ => ⟨ρ, S, F, G, s, monoE ma h fun x ρ1 S1 h1 v F1 G1 H1 s1 r1 x1 => by
    refine two_ok (mE mb) (mE mc) s1 h1 fun y z ρ3 S3 ⟨i, j, k, e1, e2, e3, s1', s2', q⟩ u w F3 G3 H3 s3 r2 r3 x3 => ?_
    subst e1 e2 e3
    cases r1; cases r2; cases r3
    refine ⟨j, k, rfl, fun p' hp => ⟨i, p', j, k, rfl, rfl, upd_same, ?_⟩⟩
    exact q _ F3 G3 _ (s3.new hp) (.bl _) (x1.trans x3)⟩
/-! ### sorted(set(..)) -/
theorem mem_insI {k x : Int} : ∀ {l : List Int}, k ∈ insI x l ↔ k = x ∨ k ∈ l
  | [] => by simp [insI]
  | y :: r => by
    unfold insI
    split
    · simp
    · split
      · rename_i h1 h2; subst h2; simp
      · simp only [List.mem_cons, mem_insI (l := r)]
        constructor
        · rintro (h | h | h)
          · exact .inr (.inl h)
          · exact .inl h
          · exact .inr (.inr h)
        · rintro (h | h | h)
          · exact .inr (.inl h)
          · exact .inl h
          · exact .inr (.inr h)
theorem pw_insI {x : Int} : ∀ {l : List Int}, l.Pairwise (· < ·) → (insI x l).Pairwise (· < ·)
  | [], _ => by simp [insI]
  | y :: r, h => by
    have h' := List.pairwise_cons.mp h
    unfold insI
    split
    · rename_i h1
      refine List.pairwise_cons.mpr ⟨fun z hz => ?_, h⟩
      rcases List.mem_cons.mp hz with q | q
      · rw [q]; exact h1
      · have := h'.1 z q; omega
    · split
      · exact h
      · refine List.pairwise_cons.mpr ⟨fun z hz => ?_, pw_insI h'.2⟩
        rcases mem_insI.mp hz with q | q
        · rw [q]; omega
        · exact h'.1 z q
theorem mem_ssetI {k : Int} : ∀ {l : List Int}, k ∈ ssetI l ↔ k ∈ l
  | [] => by simp [ssetI]
  | y :: r => by
    show k ∈ insI y (ssetI r) ↔ _
    rw [mem_insI, mem_ssetI (l := r), List.mem_cons]
theorem pw_ssetI : ∀ {l : List Int}, (ssetI l).Pairwise (· < ·)
  | [] => by simp [ssetI]
  | y :: r => pw_insI (pw_ssetI (l := r))
theorem pw_nodup {l : List Int} (h : l.Pairwise (· < ·)) : l.Nodup := h.imp fun h e => by subst e; exact Int.lt_irrefl _ h
theorem strict_unique : ∀ {l l' : List Int}, l.Pairwise (· < ·) → l'.Pairwise (· < ·) → (∀ k, k ∈ l ↔ k ∈ l') → l = l'
  | [], [], _, _, _ => rfl
  | [], y :: ys, _, _, h => absurd ((h y).mpr (List.mem_cons_self ..)) (by simp)
  | x :: xs, [], _, _, h => absurd ((h x).mp (List.mem_cons_self ..)) (by simp)
  | x :: xs, y :: ys, p, q, h => by
    have p' := List.pairwise_cons.mp p
    have q' := List.pairwise_cons.mp q
    have e : x = y := by
      rcases List.mem_cons.mp ((h x).mp (List.mem_cons_self ..)) with a | a
      · exact a
      · rcases List.mem_cons.mp ((h y).mpr (List.mem_cons_self ..)) with b | b
        · exact b.symm
        · have := p'.1 y b
          have := q'.1 x a
          omega
    subst e
    rw [strict_unique p'.2 q'.2 fun k => ?_]
    constructor
    · intro hk
      rcases List.mem_cons.mp ((h k).mp (List.mem_cons_of_mem _ hk)) with a | a
      · have := p'.1 k hk; omega
      · exact a
    · intro hk
      rcases List.mem_cons.mp ((h k).mpr (List.mem_cons_of_mem _ hk)) with a | a
      · have := q'.1 k hk; omega
      · exact a
theorem nd_len : ∀ {l l' : List Int}, l.Nodup → (∀ x ∈ l, x ∈ l') → l.length ≤ l'.length
  | [], _, _, _ => Nat.zero_le _
  | x :: xs, l', nd, h => by
    have nd' := List.nodup_cons.mp nd
    have hx := h x (List.mem_cons_self ..)
    have := nd_len (l := xs) (l' := l'.erase x) nd'.2 fun y hy => (List.mem_erase_of_ne (fun z => nd'.1 (by rw [z] at hy; exact hy))).mpr (h y (List.mem_cons_of_mem _ hy))
    rw [List.length_erase_of_mem hx] at this
    have := List.length_pos_of_mem hx
    simp only [List.length_cons]
    omega
theorem SetR.count {w : World} {h : Heap} {a : Addr} {ns : List Int} {n : Nat} (R : SetR w h a (fun j => decide (j ∈ ns)) n) : n = (ssetI ns).length := by
  obtain ⟨o, es, ep, t, _, _, _, _, nd, hm, _, _, hn, _⟩ := R
  have hl : (es.toList.map keyOf).length = n := by rw [List.length_map, Array.length_toList]; exact hn
  have m : ∀ k, k ∈ es.toList.map keyOf ↔ k ∈ ssetI ns := fun k => by rw [mem_ssetI, ← hm k]; simp
  have h1 := nd_len nd fun x hx => (m x).mp hx
  have h2 := nd_len (pw_nodup (pw_ssetI (l := ns))) fun x hx => (m x).mpr hx
  omega
theorem cr_setI (hc : X.calm = true) : CallR X (.type "set") (fun vs H Q => ∃ (l : Addr) (ns : List Int), vs = [V.ref l] ∧ SqT X.K H l (ns.map V.int) ∧ ns.length + 1 < scanBound ∧ ∀ p, H p = none → Q (.ref p) (upd H p (SetO X.w p (fun j => decide (j ∈ ns)) (ssetI ns).length))) := by
  intro pins s σ H vs us Q I r h
  obtain ⟨l, ns, rfl, hs, hb, q⟩ := h
  rw [Vals.ref1 r]
  obtain ⟨its, rv, ht, hz⟩ := I.tuple hs
  refine call_set_tupI ns (I.ok.hd hc) (show s.heap.IsTuple l its.toArray from ht) (by simpa using intsAre_of rv) hb fun h' tk c R hcn hk => ?_
  have hn : H s.heap.objs.size = none := I.hok.fresh (Nat.le_refl _)
  have := SetR.count R
  subst this
  exact ⟨.ref s.heap.objs.size, _, I.laid (t' := tk) hk (Nat.le_refl _) (setO_new R), rfl, q _ hn⟩
theorem pe_ssetD (hK : X.K = e.K) (hc : X.calm = true) {p p2 q2 : Pos} (hg : Gl X "sorted") (hm : X.mg "sorted" = none) (hg2 : Gl X "set") (hm2 : X.mg "set" = none) (ha : PE X a (tW e (wpE ma))) (hs : starEach [a] X.env = [(false, eval a X.env)]) :
    PE X (.Call (.Name "sorted" p) [.Call (.Name "set" p2) [a] [] q2] [] pos) (tW e (wpE (.bc .sset (.cons ma .nil)))) :=
  PE.imp (pe_callB (cr_sortedSet hc) hg hm boot_sorted (pa_cons (pe_callTy (cr_setI hc) hg2 hm2 boot_set (pa_cons ha pa_nil hs) (by decide) (by decide) hs rfl) pa_nil) (by decide) (by decide)) fun σ H Q ⟨ρ, S, F, G, s, h⟩ => ⟨ρ, S, F, G, s, monoE ma h fun x ρ1 S1 h1 v F1 G1 H1 s1 r1 x1 => by
    have h1 : optW (bcV .sset [x]) _ := h1
    cases r1 with
    | @tup l us ds g1 g2 =>
      have h1 : optW ((intsD ds).map fun ns => ((ns.length < 4000 ∧ (ssetI ns).length < 64 : Prop), D.lst ((ssetI ns).map D.int))) _ := h1
      cases qd : intsD ds with
      | none => rw [qd] at h1; exact h1.elim
      | some ns =>
        rw [qd] at h1
        obtain ⟨⟨c1, c2⟩, q⟩ : (ns.length < 4000 ∧ (ssetI ns).length < 64) ∧ _ := h1
        have := ints_ok g2 qd
        subst this
        refine ⟨l, ns, rfl, by rw [hK]; exact s1.sqT g1, by show ns.length + 1 < 4096; omega, fun p hp => ⟨p, _, _, rfl, upd_same, c2, fun ks p2 k1 k2 k3 hp2 => ?_⟩⟩
        have ek : ks = ssetI ns := strict_unique k1 pw_ssetI fun k => by rw [k2 k, mem_ssetI]; simp
        subst ek
        have s2 := s1.new (o := SetO X.w p (fun j => decide (j ∈ ns)) (ssetI ns).length) hp
        exact Beh.lst (fun v' F' G' H' s' r' x' => q v' F' G' H' s' r' (x1.trans x')) s2 hp2 (RpAll.ints _)
    | _ => exact h1.elim⟩
/-! ### t[::-1] -/
theorem pe_revD (hK : X.K = e.K) {k : Nat} {p1 p2 p3 : Pos} (ha : PE X a (tW e (wpE ma))) : PE X (.Subscript a (.Slice none none (some (.UnaryOp .USub (.Constant (.int 1) k p1) p2)) p3) pos) (tW e (wpE (.rev ma))) :=
  PE.imp (pe_revT ha) fun σ H Q ⟨ρ, S, F, G, s, h⟩ => ⟨ρ, S, F, G, s, monoE ma h fun x ρ1 S1 ⟨ds, ex, q⟩ v F1 G1 H1 s1 r1 x1 => by
    subst ex
    cases r1 with
    | @tup l us _ g1 g2 => exact ⟨l, us, rfl, by rw [hK]; exact s1.sqT g1, fun p hp => Beh.tup (fun v' F' G' H' s' r' x' => q v' F' G' H' s' r' (x1.trans x')) s1 hp g2.reverse⟩⟩
/-! ### fresh lists -/
theorem pe_listL (hK : X.K = e.K) {p : Pos} (hg : Gl X "list") (hm : X.mg "list" = none) (ha : PE X a (tW e (wpE ma))) (hs : starEach [a] X.env = [(false, eval a X.env)]) : PE X (.Call (.Name "list" p) [a] [] pos) (tL e (wpL (.list ma))) :=
  PE.imp (pe_callTy call_list_of hg hm boot_list (pa_cons ha pa_nil hs) (by decide) (by decide) hs rfl) fun σ H Q ⟨ρ, S, F, G, s, h⟩ => ⟨ρ, S, F, G, s, monoE ma h fun x ρ1 S1 ⟨ds, hx, q⟩ v F1 G1 H1 s1 r1 x1 => by
    obtain ⟨l, us, rfl, g2, g1⟩ := r1.seq hx
    refine ⟨l, us, rfl, ?_, fun p hp => ?_⟩
    · rcases g1 with g | g
      · exact .inl (.of (s1.g.sub _ _ g))
      · exact .inr (by rw [hK]; exact s1.sqT g)
    · obtain ⟨s2, f2⟩ := s1.fresh hp g2
      exact q p F1 G1 _ s2 f2 x1⟩
theorem rg_all {K : PySem.W.Frag} {F : Hp} {G : Gs} : ∀ (n : Nat) (lo : Int), RpAll K F G ((List.range n).map fun i => V.int (lo + (i : Nat))) (rangeD lo n)
  | 0, _ => .nil
  | n + 1, lo => by
    rw [List.range_succ_eq_map, List.map_cons, List.map_map]
    refine .cons (by simpa using Rp.int lo) ?_
    have := rg_all (K := K) (F := F) (G := G) n (lo + 1)
    have e : (fun i : Nat => V.int (lo + 1 + (i : Nat))) = (fun i : Nat => V.int (lo + (i : Nat))) ∘ Nat.succ := by
      funext i
      show V.int _ = V.int _
      congr 1
      omega
    rw [e] at this
    exact this
theorem pe_rangeL {p p2 q2 : Pos} (hc : X.calm = true) (hg : Gl X "list") (hm : X.mg "list" = none) (hg2 : Gl X "range") (hm2 : X.mg "range" = none) (ha : PE X a (tW e (wpE ma))) (hs : starEach [a] X.env = [(false, eval a X.env)]) : PE X (.Call (.Name "list" p) [.Call (.Name "range" p2) [a] [] q2] [] pos) (tL e (wpL (.range ma))) :=
  PE.imp (pe_listRg hc hg hm (prg_1 hg2 hm2 ha hs)) fun σ H Q ⟨ρ, S, F, G, s, h⟩ => ⟨ρ, S, F, G, s, monoE ma h fun x ρ1 S1 ⟨i, ex, h0, h2, q⟩ v F1 G1 H1 s1 r1 x1 => by
    subst ex; cases r1
    refine ⟨i, rfl, .of_le (by omega) (by omega) (by omega) (by omega), fun p hp => ?_⟩
    obtain ⟨s2, f2⟩ := s1.fresh hp (vs := rgV 0 i) (ds := rangeD 0 i.toNat) (by
      have := rg_all (K := e.K) (F := F1) (G := G1) i.toNat 0
      unfold rgV
      simpa using this)
    exact q p F1 G1 _ s2 f2 x1⟩
end
end Py
set_option Elab.async false
set_option linter.all false
set_option maxRecDepth 100000
set_option maxHeartbeats 4000000
/-! From the program's tree to the small syntax, and why it is sound: expressions. -/
namespace Py
open PySem PySem.Spec PyProof.Rows L2 GxR

/-- what is known where a tree is read -/
structure Cs where
  N : List Str
  sc : Scope
  gl : List (Str × D)
  ct : List (Str × Ct)
  own : List Str
  bx : List Str
  ce : List Str
  fnf : Str → Bool
  ga : Bool
def ixN (x : Str) : List Str → Nat → Option Nat
  | [], _ => none
  | y :: r, k => if (y == x) = true then some k else ixN x r (k + 1)
theorem ixN_ok {x : Str} : ∀ {l : List Str} {k i : Nat}, ixN x l k = some i → ∃ j, i = k + j ∧ l[j]? = some x
  | [], _, _, h => by cases h
  | y :: r, k, i, h => by
    unfold ixN at h
    split at h
    · rename_i hy
      cases h
      exact ⟨0, rfl, by rw [← eq_of_beq hy]; rfl⟩
    · obtain ⟨j, h1, h2⟩ := ixN_ok h
      exact ⟨j + 1, by omega, by simpa using h2⟩
def isVis : Option NameKind → Bool
  | some .local => true | some .cell => true | some .free => true | _ => false
def badN (x : Str) : Bool := x == ("__debug__" : Str) || x == ("__classdict__" : Str) || x == ("__name__" : Str)
/-- a name that is read, by its slot -/
def Cs.rd (c : Cs) (x : Str) : Option Nat := if isVis (c.sc.names.lookup x) = true then (if badN x = true then none else ixN x c.N 0) else none
/-- .. that is written -/
def Cs.wr (c : Cs) (x : Str) : Option Nat := if (c.sc.names.lookup x == some .local || (c.sc.names.lookup x == some .cell && c.fnf x)) = true then ixN x c.N 0 else none
/-- a name of the module -/
def Cs.gn (c : Cs) (x : Str) : Bool := c.sc.names.lookup x == some .globalImplicit && !badN x
def Cs.blt (c : Cs) (x y : Str) : Bool := x == y && c.gn x

def blNames : List Str := ["len", "int", "tuple", "list", "max", "min", "sum", "all", "any", "sorted", "abs", "set", "range", "enumerate", "zip", "isinstance", "bool", "str"]
structure XOk (c : Cs) (lev : Nat) (K : PySem.W.Frag) (T : List Addr) (X : Cx) : Prop where
  N : X.N = c.N
  nd : c.N.Nodup
  kk : X.K = K
  calm : X.calm = true
  sc : X.env.scope = c.sc
  room : Room lev X.A
  gl : ∀ x d, c.gl.lookup x = some d → ∃ v u, X.mg x = some u ∧ RelV v u ∧ ∀ F G, Rp K F G v d
  bl : ∀ x ∈ blNames, X.mg x = none
  fn : ∀ x C, c.ct.lookup x = some C → ∃ f fd ps, FnOk X.prog X.w X.K X.mg X.base CX0 lev f fd ps (spC K T C) ∧ X.mg x = some (.ref f) ∧ PySem.W.keepIn X.K (.ref f) = true ∧ Binds X.K fd ps []
  fnm : ∀ x, c.fnf x = true → X.fn x = true
  code : c.ga = true → Room (lev + 1) X.A ∧ ∃ cd P, X.env.code = .ref cd ∧ TabB X.base X.mg cd P ∧ P ∈ T
section
variable {c : Cs} {lev : Nat} {K : PySem.W.Frag} {T : List Addr} {X : Cx} {x : Str} {i : Nat}
theorem isVis_ok {o : Option NameKind} (h : isVis o = true) : o = some .local ∨ o = some .cell ∨ o = some .free := by
  unfold isVis at h
  split at h <;> simp_all
theorem badN_ok (h : ¬ badN x = true) : (x == ("__debug__" : Str)) = false ∧ (x == ("__classdict__" : Str)) = false ∧ x ≠ "__name__" := by
  unfold badN at h
  rw [Bool.or_eq_true, Bool.or_eq_true] at h
  refine ⟨?_, ?_, fun z => h (.inr (by rw [z]; exact beq_self_eq_true _))⟩
  · cases q : (x == ("__debug__" : Str)) with
    | false => rfl
    | true => exact absurd (.inl (.inl q)) h
  · cases q : (x == ("__classdict__" : Str)) with
    | false => rfl
    | true => exact absurd (.inl (.inr q)) h
theorem Cs.rd_ok (o : XOk c lev K T X) (h : c.rd x = some i) : X.N[i]? = some x ∧ Vis X.env.scope x ∧ (x == ("__debug__" : Str)) = false ∧ (x == ("__classdict__" : Str)) = false := by
  unfold Cs.rd at h
  split at h
  · rename_i hv
    split at h
    · cases h
    · rename_i hb
      obtain ⟨j, h1, h2⟩ := ixN_ok h
      have : i = j := by omega
      subst this
      obtain ⟨b1, b2, _⟩ := badN_ok hb
      exact ⟨by rw [o.N]; exact h2, by unfold Vis; rw [o.sc]; exact isVis_ok hv, b1, b2⟩
  · cases h
theorem Cs.wr_ok (o : XOk c lev K T X) (h : c.wr x = some i) : X.N[i]? = some x ∧ L2.Loc X.env.scope x ∧ (X.fn x = true ∨ X.env.scope.names.lookup x = some .local) := by
  unfold Cs.wr at h
  split at h
  · rename_i hv
    obtain ⟨j, h1, h2⟩ := ixN_ok h
    have : i = j := by omega
    subst this
    rw [Bool.or_eq_true, Bool.and_eq_true] at hv
    refine ⟨by rw [o.N]; exact h2, ?_⟩
    unfold L2.Loc
    rw [o.sc]
    rcases hv with hv | ⟨h1, h2⟩
    · exact ⟨.inl (eq_of_beq hv), .inr (eq_of_beq hv)⟩
    · exact ⟨.inr (eq_of_beq h1), .inl (o.fnm x h2)⟩
  · cases h
theorem Cs.gn_ok (o : XOk c lev K T X) (h : c.gn x = true) : Gl X x ∧ (x == ("__debug__" : Str)) = false ∧ x ≠ "__name__" := by
  unfold Cs.gn at h
  rw [Bool.and_eq_true] at h
  obtain ⟨b1, _, b3⟩ := badN_ok (x := x) (by simpa using h.2)
  refine ⟨?_, b1, b3⟩
  show X.env.scope.names.lookup x = _
  rw [o.sc]
  exact eq_of_beq h.1
theorem Cs.blt_ok {y : Str} (o : XOk c lev K T X) (hy : y ∈ blNames) (h : c.blt x y = true) : x = y ∧ Gl X y ∧ X.mg y = none := by
  unfold Cs.blt at h
  rw [Bool.and_eq_true] at h
  have e := eq_of_beq h.1
  subst e
  exact ⟨rfl, (Cs.gn_ok o h.2).1, o.bl _ hy⟩
end

/-! ### the trees -/
def isStar : Expr → Bool
  | .Starred _ _ => true | _ => false
def isSlice : Expr → Bool
  | .Slice _ _ _ _ => true | _ => false
def isSetD : Expr → Bool
  | .Set _ _ _ => true | _ => false
def isListD : Expr → Bool
  | .List _ _ => true | _ => false
theorem star_ok {a : Expr} {es : List Expr} {env : Env} (h : isStar a = false) : starEach (a :: es) env = (false, eval a env) :: starEach es env := by
  cases a <;> first | rfl | cases h
theorem star1_ok {a : Expr} {env : Env} (h : isStar a = false) : starEach [a] env = [(false, eval a env)] := star_ok h
theorem nostar_any {env : Env} {pos : Pos} : ∀ {es : List Expr}, es.all (fun a => !isStar a) = true → (backTo pos (starEach es env)).any (·.1) = false
  | [], _ => rfl
  | a :: es, h => by
    rw [List.all_cons, Bool.and_eq_true] at h
    rw [star_ok (by simpa using h.1)]
    show (false || (backTo pos (starEach es env)).any (·.1)) = false
    rw [nostar_any h.2]; rfl
theorem nostar_all {env : Env} {pos : Pos} : ∀ {es : List Expr}, es.all (fun a => !isStar a) = true → (backTo pos (starEach es env)).all (fun x => !x.1) = true
  | [], _ => rfl
  | a :: es, h => by
    rw [List.all_cons, Bool.and_eq_true] at h
    rw [star_ok (by simpa using h.1)]
    show (true && (backTo pos (starEach es env)).all (fun x => !x.1)) = true
    rw [nostar_all h.2]; rfl
theorem plainIx_ok {b : Expr} (h : isSlice b = false) : PlainIx b := by
  intro o i
  cases b <;> first | rfl | cases h
theorem setFold_ok {a : Expr} {env : Env} (h : isSetD a = false) : ∀ x, foldedSetIterable a env x = pure x := by
  intro x
  cases a <;> first | rfl | cases h
theorem genFold_ok {a : Expr} {env : Env} (h : isSetD a = false) (h2 : isListD a = false) : ∀ x, genFold a env x = pure x := by
  intro x
  cases a <;> first | rfl | exact absurd h (fun z => Bool.noConfusion z) | exact absurd h2 (fun z => Bool.noConfusion z)
theorem behind_ok {o : CmpOp} {b : Expr} (h : isSetD b = false) : behindInMarks o b = false := by
  cases b <;> first | rfl | cases h

def esOf (f : Expr → Option E) : List Expr → Option Es
  | [] => some .nil
  | a :: r => if isStar a = true then none else (f a).bind fun m => (esOf f r).bind fun ms => some (.cons m ms)
def tsOf (f : Expr → Option Py.T) : List Expr → Option Ts
  | [] => some .nil
  | a :: r => (f a).bind fun m => (tsOf f r).bind fun ms => some (.cons m ms)
def constE : Const → Option E
  | .int i => some (.int i) | .str x => some (.str x) | .bool b => some (.bl b) | .none => some .non | _ => none
def biOf (x : Str) (n : Nat) : Option Bi :=
  if (x == "len" && n == 1) = true then some .len else if (x == "int" && n == 1) = true then some .int else if (x == "tuple" && n == 1) = true then some .tuple
  else if (x == "list" && n == 1) = true then some .list else if (x == "max" && n == 1) = true then some .max1 else if (x == "max" && n == 2) = true then some .max2
  else if (x == "min" && n == 1) = true then some .min1 else if (x == "min" && n == 2) = true then some .min2 else if (x == "sum" && n == 1) = true then some .sum
  else if (x == "all" && n == 1) = true then some .all else if (x == "any" && n == 1) = true then some .any else if (x == "sorted" && n == 1) = true then some .sorted
  else if (x == "abs" && n == 1) = true then some .abs else none
def tyOf (x : Str) : Option String :=
  if (x == "int") = true then some "int" else if (x == "bool") = true then some "bool" else if (x == "str") = true then some "str" else if (x == "tuple") = true then some "tuple" else if (x == "list") = true then some "list" else none
/-- a target of names -/
def nmOf (c : Cs) : Expr → Option Nat
  | .Name x _ => c.wr x
  | _ => none
def nmsOf (c : Cs) : List Expr → Option (List Nat)
  | [] => some []
  | a :: r => (nmOf c a).bind fun i => (nmsOf c r).bind fun is => some (i :: is)
def tgOf (c : Cs) : Expr → Option Tg
  | .Name x _ => (c.wr x).bind fun i => some (.name i)
  | .Tuple es _ _ => (nmsOf c es).bind fun is => some (.tup is)
  | _ => none
/-- the block's own names -/
def ownOf (N : List Str) : List (Str × NameKind) → List (Str × Nat)
  | [] => []
  | (n, k) :: r => if (k == .local || k == .cell) = true then (match ixN n N 0 with | some i => (n, i) :: ownOf N r | none => ownOf N r) else ownOf N r
def blkB (N : List Str) (sc scope : Scope) (own : List (Str × Nat)) : Bool :=
  scope.kind == .function && (scope.names.all fun y => scope.names.lookup y.1 == some y.2) && (own.all fun p => N[p.2]? == some p.1)
    && (scope.names.all fun y => y.2 != .free || sc.names.lookup y.1 == some .cell || sc.names.lookup y.1 == some .free)
    && (scope.names.all fun y => (y.2 != .local && y.2 != .cell) || (own.map (·.1)).contains y.1 || !N.contains y.1)
theorem blkB_ok {N : List Str} {sc scope : Scope} {own : List (Str × Nat)} (h : blkB N sc scope own = true) : BlkOk N sc scope own := by
  unfold blkB at h
  simp only [Bool.and_eq_true] at h
  obtain ⟨⟨⟨⟨h1, h2⟩, h3⟩, h4⟩, h5⟩ := h
  refine ⟨eq_of_beq h1, fun y hy => eq_of_beq (List.all_eq_true.mp h2 y hy), fun p hp => eq_of_beq (List.all_eq_true.mp h3 p hp), fun y hy e => ?_, fun y hy e => ?_⟩
  · have := List.all_eq_true.mp h4 y hy
    rw [e] at this
    simp only [bne_self_eq_false, Bool.false_or, Bool.or_eq_true] at this
    exact this.imp eq_of_beq eq_of_beq
  · have := List.all_eq_true.mp h5 y hy
    rw [Bool.or_eq_true, Bool.or_eq_true] at this
    rcases this with (this | this) | this
    · rcases e with e | e <;> rw [e] at this <;> simp at this
    · exact .inl (by simpa using this)
    · exact .inr (by simpa using this)
/-- within a comprehension -/
def Cs.comp (c : Cs) (scope : Scope) : Cs := { c with sc := relS scope c.sc, fnf := fun x => scope.names.lookup x == some .cell }
/-- within a generator expression -/
def Cs.gen (c : Cs) (scope : Scope) : Cs := { c with sc := scope, fnf := fun _ => false, ga := false }
def noCells (scope : Scope) : Bool := (scope.names.all fun y => y.2 != .cell) && !scope.isCoroutine && (scope.names.lookup (".0" : Str) == some .local)
def cmpOf (f : Expr → Option E) (a : Expr) (ops : List CmpOp) (bs : List Expr) : Option E :=
  match ops, bs with
  | [o], [b] => if isSetD b = true then none else (f a).bind fun ma => (f b).bind fun mb => some (.cmp o ma mb)
  | [o, p], [b, d] => if isSetD d = true then none else (f a).bind fun ma => (f b).bind fun mb => (f d).bind fun md => some (.chain o p ma mb md)
  | _, _ => none
/-- x in range(a, b) -/
def inrOf (c : Cs) (f : Expr → Option E) (a : Expr) (ops : List CmpOp) (bs : List Expr) : Option E :=
  match ops, bs with
  | [.In], [.Call (.Name id _) [lo, hi] [] _] => if (c.blt id "range" && !isStar lo && !isStar hi) = true then (f a).bind fun ma => (f lo).bind fun ml => (f hi).bind fun mh => some (.inr ma ml mh) else none
  | _, _ => none
def sliceOf (c : Cs) (f : Expr → Option E) (a : Expr) (lo hi st : Option Expr) : Option E :=
  match st with
  | none =>
    let ob : Option Expr → Option Oe := fun o => match o with | none => some .no | some x => (f x).bind fun m => some (.so m)
    match a with
    | .Name x _ => (c.rd x).bind fun i => (ob lo).bind fun l => (ob hi).bind fun h => some (.slo i l h)
    | a => (f a).bind fun m => (ob lo).bind fun l => (ob hi).bind fun h => some (.sl m l h)
  | some (.UnaryOp .USub (.Constant (.int 1) _ _) _) => match lo, hi with
    | none, none => (f a).bind fun m => some (.rev m)
    | _, _ => none
  | _ => none
/-- a box's places -/
def bxOf (c : Cs) (a b : Expr) : Option E :=
  match a, b with
  | .Name x _, .Constant (.int k) _ _ => if c.bx.contains x = true then (c.rd x).bind fun i => if k = 0 then some (.bx i 0) else if k = 1 then some (.bx i 1) else if k = 2 then some (.bx i 2) else none else none
  | _, _ => none
def bxpOf (c : Cs) (x m : Str) (args : List Expr) (apos pos : Pos) : Option E :=
  match args with
  | [.Constant (.int 0) _ _] => if (c.ce.contains x && m == "pop" && apos.endLine == pos.line) = true then (c.rd x).bind fun i => some (.bxp i) else none
  | _ => none
def bxlOf (c : Cs) (id : Str) (args : List Expr) : Option E :=
  match args with
  | [.Name y _] => if (c.blt id "len" && c.ce.contains y) = true then (c.rd y).bind fun i => some (.bxl i) else none
  | _ => none
def ixOf (c : Cs) (f : Expr → Option E) (a b : Expr) : Option E :=
  if isSlice b = true then none else
  match a with
  | .Name x _ => (c.rd x).bind fun i => (f b).bind fun m => some (.ixo i m)
  | a => (f a).bind fun ma => (f b).bind fun m => some (.ix ma m)
def popOf (c : Cs) (f : Expr → Option E) (x m : Str) (args : List Expr) (apos pos : Pos) : Option E :=
  if (m == "pop" && apos.endLine == pos.line) = true then
    match args with
    | [] => (c.rd x).bind fun i => some (.popl i)
    | [k] => if isStar k = true then none else (c.rd x).bind fun i => (f k).bind fun mk => some (.popo i mk)
    | _ => none
  else none
def bcOf (c : Cs) (f : Expr → Option E) (id : Str) (args : List Expr) : Option E :=
  match args with
  | [] => none
  | a :: es => (biOf id (es.length + 1)).bind fun b => if c.gn id = true then (esOf f (a :: es)).bind fun ms => some (.bc b ms) else none
/-- a call of a name -/
def callOf (c : Cs) (f : Expr → Option E) (id : Str) (args : List Expr) : Option E :=
  match c.ct.lookup id with
  | some C => if c.gn id = true then (esOf f args).bind fun ms => some (.call id C ms) else none
  | none => match args with
    | [.Name y p] => if c.blt id "len" = true then (match c.rd y with | some i => some (.leno i) | none => bcOf c f id [.Name y p]) else bcOf c f id [.Name y p]
    | [a, .Name ty p] => if c.blt id "isinstance" = true then (if (isStar a || !c.gn ty) = true then none else (tyOf ty).bind fun t => (f a).bind fun m => some (.isi m t)) else bcOf c f id [a, .Name ty p]
    | [.Call (.Name s p) [a] [] q] => if (c.blt id "sorted" && c.blt s "set") = true then (if isStar a = true then none else (f a).bind fun m => some (.bc .sset (.cons m .nil))) else bcOf c f id [.Call (.Name s p) [a] [] q]
    | args => bcOf c f id args
def isTupE : Expr → Bool
  | .Tuple _ _ _ => true | _ => false
/-- what is iterated -/
def itOf (c : Cs) (f : Expr → Option E) (tg : Expr) (x : Expr) : Option It :=
  match x with
  | .Call (.Name id p) [a] [] q =>
    if c.blt id "range" = true then (if isStar a = true then none else (f a).bind fun m => some (.range1 m))
    else if c.blt id "enumerate" = true then (if (isStar a || !isTupE tg) = true then none else (f a).bind fun m => some (.enum m))
    else (f (.Call (.Name id p) [a] [] q)).bind fun m => some (.of m)
  | .Call (.Name id p) [a, b] [] q =>
    if c.blt id "range" = true then (if (isStar a || isStar b) = true then none else (f a).bind fun m => (f b).bind fun m2 => some (.range2 m m2))
    else if c.blt id "zip" = true then (if (isStar a || isStar b || !isTupE tg) = true then none else (f a).bind fun m => (f b).bind fun m2 => some (.zip m m2))
    else (f (.Call (.Name id p) [a, b] [] q)).bind fun m => some (.of m)
  | x => (f x).bind fun m => some (.of m)
def Tg.inOwn (t : Tg) (own : List (Str × Nat)) : Bool := t.slots.all fun i => (own.map (·.2)).contains i
mutual
def compE : Nat → Cs → Expr → Option E
  | 0, _, _ => none
  | n + 1, c, x => match x with
    | .Name id _ => match c.rd id with
      | some i => some (.var i)
      | none => if c.gn id = true then (c.gl.lookup id).bind fun d => some (.glo id d) else none
    | .Constant k _ _ => constE k
    | .BinOp a o b _ => (compE n c a).bind fun ma => (compE n c b).bind fun mb => some (.bin o ma mb)
    | .UnaryOp .USub a _ => (compE n c a).bind fun ma => some (.neg ma)
    | .UnaryOp .Not a _ => (compE n c a).bind fun ma => some (.not ma)
    | .Compare a ops bs _ => match inrOf c (compE n c) a ops bs with
      | some m => some m
      | none => cmpOf (compE n c) a ops bs
    | .BoolOp op vs _ => match vs with
      | [] => none
      | v :: r => (esOf (compE n c) (v :: r)).bind fun ms => some (.bop (match op with | .And => true | .Or => false) ms)
    | .IfExp t a b _ => (compT n c t).bind fun mt => (compE n c a).bind fun ma => (compE n c b).bind fun mb => some (.ite mt ma mb)
    | .Tuple es _ _ => (esOf (compE n c) es).bind fun ms => some (.tup ms)
    | .List es _ => (esOf (compE n c) es).bind fun ms => some (.lst ms)
    | .Subscript a (.Slice lo hi st _) _ => sliceOf c (compE n c) a lo hi st
    | .Subscript a b _ => match bxOf c a b with
      | some m => some m
      | none => ixOf c (compE n c) a b
    | .Call (.Name id _) [.GeneratorExp elt [⟨tg, iter, [], 0⟩] scope _] [] _ =>
      if (c.ga && !(isSetD iter || isListD iter) && noCells scope) = true then
        (itOf c (compE n c) tg iter).bind fun it => (tgOf (c.gen scope) tg).bind fun t => (compE n (c.gen scope) elt).bind fun m =>
          let own := ownOf c.N scope.names
          if (blkB c.N c.sc scope own && t.inOwn own) = true then (if c.blt id "any" = true then some (.gen false m t it own) else if c.blt id "all" = true then some (.gen true m t it own) else none) else none
      else none
    | .Call (.Name id _) args [] _ => match bxlOf c id args with
      | some m => some m
      | none => callOf c (compE n c) id args
    | .Call (.Attribute (.Name y _) m apos) args [] pos => match bxpOf c y m args apos pos with
      | some r => some r
      | none => popOf c (compE n c) y m args apos pos
    | .ListComp elt [⟨tg, iter, ifs, 0⟩] scope _ =>
      if isSetD iter = true then none else
      (itOf c (compE n c) tg iter).bind fun it => (tgOf (c.comp scope) tg).bind fun t => (tsOf (compT n (c.comp scope)) ifs).bind fun ts => (compE n (c.comp scope) elt).bind fun m =>
        let own := ownOf c.N scope.names
        if (blkB c.N c.sc scope own && t.inOwn own && decide (ifs.length ≤ 1)) = true then some (.comp m t it ts own) else none
    | _ => none
def compT : Nat → Cs → Expr → Option Py.T
  | 0, _, _ => none
  | n + 1, c, x => match x with
    | .UnaryOp .Not a _ => (compT n c a).bind fun ma => some (.not ma)
    | .BoolOp op vs _ => match vs with
      | [] => none
      | v :: r => (tsOf (compT n c) (v :: r)).bind fun ms => some (.bop (match op with | .And => true | .Or => false) ms)
    | .Compare a ops bs _ => match inrOf c (compE n c) a ops bs with
      | some m => some (.of m)
      | none => (cmpOf (compE n c) a ops bs).bind fun m => some (.of m)
    | .IfExp _ _ _ _ => none
    | x => (compE n c x).bind fun m => some (.of m)
end
end Py
set_option Elab.async false
set_option linter.all false
set_option maxRecDepth 100000
set_option maxHeartbeats 4000000
/-! Soundness: expressions. -/
namespace Py
open PySem PySem.Spec PyProof.Rows L2 GxR

theorem pt_inrD {X : Cx} {e : Ent} {pos : Pos} {a b c : Expr} {ma mb mc : E} {p : Pos} {rp : Pos} (hg : Gl X "range") (hm : X.mg "range" = none) (ha : PE X a (tW e (wpE ma))) (hb : PE X b (tW e (wpE mb))) (hc : PE X c (tW e (wpE mc))) (hs : starEach [b, c] X.env = (false, eval b X.env) :: starEach [c] X.env) (hs2 : starEach [c] X.env = [(false, eval c X.env)]) :
    PT X (.Compare a [.In] [.Call (.Name "range" p) [b, c] [] rp] pos) (tWt e (wpT (.of (.inr ma mb mc)))) :=
  PT.imp (pt_cmpR op_in_rng ha (pe_callTy cr_range2 hg hm boot_range (pa_cons hb (pa_cons hc pa_nil hs2) hs) (by decide) (by decide) hs (by rw [hs2]; rfl)) rfl) fun σ H Q ⟨ρ, S, F, G, s, h⟩ => ⟨ρ, S, F, G, s, monoE ma h fun x ρ1 S1 h1 v F1 G1 H1 s1 r1 x1 => by
    refine two_ok (mE mb) (mE mc) s1 h1 fun y z ρ3 S3 ⟨i, j, k, e1, e2, e3, s1', s2', q⟩ u w F3 G3 H3 s3 r2 r3 x3 => ?_
    subst e1 e2 e3
    cases r1; cases r2; cases r3
    refine ⟨j, k, rfl, fun p' hp => ⟨i, p', j, k, rfl, rfl, upd_same, _, rfl, ?_⟩⟩
    exact q.2 F3 G3 _ (s3.new hp) (x1.trans x3)⟩

section
variable {c : Cs} {lev : Nat} {K : PySem.W.Frag} {T : List Addr} {X : Cx}
theorem XOk.comp (o : XOk c lev K T X) (scope : Scope) (s : Shared) (H : Hp) (C : Addr) (cl : List (Str × Addr)) (fp : List Addr) : XOk (c.comp scope) lev K T (X.blk s H scope (compEnvC scope cl C X.env) fp) where
  N := o.N
  nd := o.nd
  kk := o.kk
  calm := o.calm
  sc := by
    show relS scope X.env.scope = relS scope c.sc
    rw [o.sc]
  room := o.room
  gl := o.gl
  bl := o.bl
  fn := o.fn
  fnm := fun x h => h
  code := o.code
theorem XOk.gen (o : XOk c lev K T X) (scope : Scope) (s : Shared) (H : Hp) (env : Env) (fp : List Addr) (A : Around) (he : env.scope = scope) (hr : Room lev A) : XOk (c.gen scope) lev K T (Gx.gcx X s H env fp A) where
  N := o.N
  nd := o.nd
  kk := o.kk
  calm := o.calm
  sc := he
  room := hr
  gl := o.gl
  bl := o.bl
  fn := o.fn
  fnm := fun x h => nomatch h
  code := fun h => nomatch h
theorem XOk.units (o : XOk c lev K T X) : X.A.units + 64 < cLine := by have := o.room.un; omega
end
/-- what a reader of trees gives, holds -/
def SEx (X : Cx) (e : Ent) (f : Expr → Option E) : Prop := ∀ x m, f x = some m → PE X x (tW e (wpE m))
def STx (X : Cx) (e : Ent) (f : Expr → Option Py.T) : Prop := ∀ x m, f x = some m → PT X x (tWt e (wpT m))
section
variable {c : Cs} {lev : Nat} {X : Cx} {e : Ent} {f : Expr → Option E} {ft : Expr → Option Py.T} {pos : Pos}
theorem esOf_star : ∀ {es : List Expr} {ms : Es}, esOf f es = some ms → es.all (fun a => !isStar a) = true
  | [], _, _ => rfl
  | a :: r, ms, h => by
    unfold esOf at h
    split at h
    · cases h
    · rename_i ha
      obtain ⟨m, h1, h2⟩ := Option.bind_eq_some_iff.mp h
      obtain ⟨ms', h3, _⟩ := Option.bind_eq_some_iff.mp h2
      rw [List.all_cons, esOf_star h3]
      simp [ha]
theorem esOf_cons {a : Expr} {r : List Expr} {ms : Es} (h : esOf f (a :: r) = some ms) : ∃ m ms', isStar a = false ∧ f a = some m ∧ esOf f r = some ms' ∧ ms = .cons m ms' := by
  unfold esOf at h
  split at h
  · cases h
  · rename_i ha
    obtain ⟨m, h1, h2⟩ := Option.bind_eq_some_iff.mp h
    obtain ⟨ms', h3, h4⟩ := Option.bind_eq_some_iff.mp h2
    cases h4
    exact ⟨m, ms', by simpa using ha, h1, h3, rfl⟩
theorem es_ok (hf : SEx X e f) : ∀ {es : List Expr} {ms : Es}, esOf f es = some ms → PA X es (tWs e (wpEs ms))
  | [], ms, h => by cases h; exact pa_nilD
  | a :: r, ms, h => by
    obtain ⟨m, ms', h0, h1, h2, rfl⟩ := esOf_cons h
    exact pa_consD (hf _ _ h1) (es_ok hf h2) (star_ok h0)
theorem bop_ok (hf : SEx X e f) (op : BoolOp) : ∀ {r : List Expr} {a : Expr} {ms : Es}, esOf f (a :: r) = some ms → PE X (.BoolOp op (a :: r) pos) (tW e (wpE (.bop (match op with | .And => true | .Or => false) ms)))
  | [], a, ms, h => by
    obtain ⟨m, ms', h0, h1, h2, rfl⟩ := esOf_cons h
    cases h2
    cases op with
    | And => exact pe_bop1 (k := true) (hf _ _ h1)
    | Or => exact pe_bop1 (k := false) (hf _ _ h1)
  | b :: r, a, ms, h => by
    obtain ⟨m, ms', h0, h1, h2, rfl⟩ := esOf_cons h
    obtain ⟨m2, ms2, h3, h4, h5, rfl⟩ := esOf_cons h2
    have ih := bop_ok hf op h2
    cases op with
    | And => exact pe_andD (hf _ _ h1) ih
    | Or => exact pe_orD (hf _ _ h1) ih
theorem tsOf_cons {a : Expr} {r : List Expr} {ms : Ts} (h : tsOf ft (a :: r) = some ms) : ∃ m ms', ft a = some m ∧ tsOf ft r = some ms' ∧ ms = .cons m ms' := by
  unfold tsOf at h
  obtain ⟨m, h1, h2⟩ := Option.bind_eq_some_iff.mp h
  obtain ⟨ms', h3, h4⟩ := Option.bind_eq_some_iff.mp h2
  cases h4
  exact ⟨m, ms', h1, h3, rfl⟩
theorem bopT_ok (hf : STx X e ft) (op : BoolOp) : ∀ {r : List Expr} {a : Expr} {ms : Ts}, tsOf ft (a :: r) = some ms → PW X (.BoolOp op (a :: r) pos) (tWt e (wpT (.bop (match op with | .And => true | .Or => false) ms)))
  | [], a, ms, h => by
    obtain ⟨m, ms', h1, h2, rfl⟩ := tsOf_cons h
    cases h2
    cases op with
    | And => exact pw_and1D (k := true) (hf _ _ h1)
    | Or => exact pw_or1D (k := false) (hf _ _ h1)
  | b :: r, a, ms, h => by
    obtain ⟨m, ms', h1, h2, rfl⟩ := tsOf_cons h
    obtain ⟨m2, ms2, h4, h5, rfl⟩ := tsOf_cons h2
    have ih := bopT_ok hf op h2
    cases op with
    | And => exact pw_andD (hf _ _ h1) ih
    | Or => exact pw_orD (hf _ _ h1) ih
theorem ifs_ok (hf : STx X e ft) {ifs : List Expr} {ts : Ts} (h : tsOf ft ifs = some ts) (hl : ifs.length ≤ 1) : PTs X ifs (tWt e (wpTs ts)) := by
  cases ifs with
  | nil => cases h; exact pts_nilD
  | cons a r =>
    cases r with
    | nil =>
      obtain ⟨m, ms', h1, h2, rfl⟩ := tsOf_cons h
      cases h2
      exact pts_oneD (hf _ _ h1)
    | cons b r => simp at hl
theorem const_ok {k : Const} {j : Nat} {m : E} (h : constE k = some m) : PE X (.Constant k j pos) (tW e (wpE m)) := by
  unfold constE at h
  split at h <;> cases h
  · exact pe_intD
  · exact pe_strD
  · exact pe_blD
  · exact pe_nonD
theorem nm_ok (o : XOk c lev e.K e.T X) {a : Expr} {i : Nat} (h : nmOf c a = some i) : PG X a (gName i) ∧ ∀ (r : List Expr) (env : Env), assignEach (a :: r) env = (false, assign a env) :: assignEach r env := by
  unfold nmOf at h
  split at h
  · rename_i x p
    obtain ⟨h1, h2, h3⟩ := Cs.wr_ok o h
    exact ⟨pg_name (by rw [o.N]; exact o.nd) h1 h2 h3, fun r env => rfl⟩
  · cases h
theorem nms_ok (o : XOk c lev e.K e.T X) : ∀ {es : List Expr} {is : List Nat}, nmsOf c es = some is → PGs X es (gNames is) ∧ ((assignEach es X.env).length = is.length ∧ (assignEach es X.env).findIdx? (·.1) = none)
  | [], is, h => by cases h; exact ⟨pgs_nil, rfl, rfl⟩
  | a :: r, is, h => by
    unfold nmsOf at h
    obtain ⟨i, h1, h2⟩ := Option.bind_eq_some_iff.mp h
    obtain ⟨is', h3, h4⟩ := Option.bind_eq_some_iff.mp h2
    cases h4
    obtain ⟨g1, g2⟩ := nm_ok o h1
    obtain ⟨g3, g4, g5⟩ := nms_ok o h3
    refine ⟨pgs_cons g1 g3 (by rw [g2]; rfl), by rw [g2]; simp [g4], ?_⟩
    rw [g2, List.findIdx?_cons, if_neg (by simp)]
    rw [g5]; rfl
theorem tg_ok (o : XOk c lev e.K e.T X) {a : Expr} {t : Tg} (h : tgOf c a = some t) : PG X a (gT X.K t) := by
  unfold tgOf at h
  split at h
  · rename_i x p
    obtain ⟨i, h1, h2⟩ := Option.bind_eq_some_iff.mp h
    cases h2
    obtain ⟨h1, h2, h3⟩ := Cs.wr_ok o h1
    exact pg_name (by rw [o.N]; exact o.nd) h1 h2 h3
  · obtain ⟨is, h1, h2⟩ := Option.bind_eq_some_iff.mp h
    cases h2
    obtain ⟨g1, g2, g3⟩ := nms_ok o h1
    exact pg_tup o.calm g1 g2 g3
  · cases h
theorem cmp_okS (o : XOk c lev e.K e.T X) (hf : SEx X e f) {a : Expr} {ops : List CmpOp} {bs : List Expr} {m : E} (h : cmpOf f a ops bs = some m) :
    PE X (.Compare a ops bs pos) (tW e (wpE m)) ∧ PT X (.Compare a ops bs pos) (tWt e (wpT (.of m))) := by
  unfold cmpOf at h
  split at h
  · split at h
    · cases h
    · rename_i hb
      obtain ⟨ma, h1, h⟩ := Option.bind_eq_some_iff.mp h
      obtain ⟨mb, h2, h⟩ := Option.bind_eq_some_iff.mp h
      cases h
      have hm := fun q => behind_ok (o := q) (by simpa using hb)
      exact ⟨pe_cmpD o.kk o.units (hf _ _ h1) (hf _ _ h2) (hm _), pt_cmpD o.kk o.units (hf _ _ h1) (hf _ _ h2) (hm _)⟩
  · split at h
    · cases h
    · rename_i hb
      obtain ⟨ma, h1, h⟩ := Option.bind_eq_some_iff.mp h
      obtain ⟨mb, h2, h⟩ := Option.bind_eq_some_iff.mp h
      obtain ⟨md, h3, h⟩ := Option.bind_eq_some_iff.mp h
      cases h
      have hm := fun q => behind_ok (o := q) (by simpa using hb)
      exact ⟨pe_chainD o.kk o.units (hf _ _ h1) (hf _ _ h2) (hf _ _ h3) (hm _), pt_chainD o.kk o.units (hf _ _ h1) (hf _ _ h2) (hf _ _ h3) (hm _)⟩
  · cases h
theorem inr_okS (o : XOk c lev e.K e.T X) (hf : SEx X e f) {a : Expr} {ops : List CmpOp} {bs : List Expr} {m : E} (h : inrOf c f a ops bs = some m) :
    PE X (.Compare a ops bs pos) (tW e (wpE m)) ∧ PT X (.Compare a ops bs pos) (tWt e (wpT (.of m))) := by
  unfold inrOf at h
  split at h
  · split at h
    · rename_i hb
      simp only [Bool.and_eq_true, Bool.not_eq_true'] at hb
      obtain ⟨⟨b1, b2⟩, b3⟩ := hb
      obtain ⟨ma, h1, h⟩ := Option.bind_eq_some_iff.mp h
      obtain ⟨ml, h2, h⟩ := Option.bind_eq_some_iff.mp h
      obtain ⟨mh, h3, h⟩ := Option.bind_eq_some_iff.mp h
      cases h
      obtain ⟨rfl, g1, g2⟩ := Cs.blt_ok o (by decide) b1
      exact ⟨pe_inrD g1 g2 (hf _ _ h1) (hf _ _ h2) (hf _ _ h3) (star_ok b2) (star1_ok b3), pt_inrD g1 g2 (hf _ _ h1) (hf _ _ h2) (hf _ _ h3) (star_ok b2) (star1_ok b3)⟩
    · cases h
  · cases h
theorem ob_ok (hf : SEx X e f) {x : Option Expr} {l : Oe} (h : (match x with | none => some Oe.no | some x => (f x).bind fun m => some (.so m)) = some l) : PO X x (tWo e (wpO l)) := by
  cases x with
  | none => cases h; exact po_noD
  | some x =>
    obtain ⟨m, h1, h2⟩ := Option.bind_eq_some_iff.mp h
    cases h2
    exact po_soD (hf _ _ h1)
theorem slice_okS (o : XOk c lev e.K e.T X) (hf : SEx X e f) {a : Expr} {lo hi st : Option Expr} {p : Pos} {m : E} (h : sliceOf c f a lo hi st = some m) : PE X (.Subscript a (.Slice lo hi st p) pos) (tW e (wpE m)) := by
  unfold sliceOf at h
  split at h
  · dsimp only at h
    split at h
    · obtain ⟨i, h1, h⟩ := Option.bind_eq_some_iff.mp h
      obtain ⟨l, h2, h⟩ := Option.bind_eq_some_iff.mp h
      obtain ⟨u, h3, h⟩ := Option.bind_eq_some_iff.mp h
      cases h
      obtain ⟨g1, g2, g3, g4⟩ := Cs.rd_ok o h1
      exact pe_sloD o.kk g1 g2 g3 g4 (ob_ok hf h2) (ob_ok hf h3)
    · obtain ⟨i, h1, h⟩ := Option.bind_eq_some_iff.mp h
      obtain ⟨l, h2, h⟩ := Option.bind_eq_some_iff.mp h
      obtain ⟨u, h3, h⟩ := Option.bind_eq_some_iff.mp h
      cases h
      exact pe_slD o.kk (hf _ _ h1) (ob_ok hf h2) (ob_ok hf h3)
  · split at h
    · obtain ⟨m, h1, h2⟩ := Option.bind_eq_some_iff.mp h
      cases h2
      exact pe_revD o.kk (hf _ _ h1)
    · cases h
  · cases h
theorem bx_okS (o : XOk c lev e.K e.T X) {a b : Expr} {m : E} (h : bxOf c a b = some m) : PE X (.Subscript a b pos) (tW e (wpE m)) := by
  unfold bxOf at h
  split at h
  · split at h
    · obtain ⟨i, h1, h⟩ := Option.bind_eq_some_iff.mp h
      obtain ⟨g1, g2, g3, g4⟩ := Cs.rd_ok o h1
      split at h
      · rename_i hk; cases h; subst hk; exact pe_bxD (k := 0) (.inl rfl) g1 g2 g3 g4
      · split at h
        · rename_i hk; cases h; subst hk; exact pe_bxD (k := 1) (.inr (.inl rfl)) g1 g2 g3 g4
        · split at h
          · rename_i hk; cases h; subst hk; exact pe_bxD (k := 2) (.inr (.inr rfl)) g1 g2 g3 g4
          · cases h
    · cases h
  · cases h
theorem bxp_okS (o : XOk c lev e.K e.T X) {y m : Str} {args : List Expr} {apos p2 : Pos} {r : E} (h : bxpOf c y m args apos pos = some r) : PE X (.Call (.Attribute (.Name y p2) m apos) args [] pos) (tW e (wpE r)) := by
  unfold bxpOf at h
  split at h
  · split at h
    · rename_i hb
      rw [Bool.and_eq_true, Bool.and_eq_true] at hb
      obtain ⟨i, h1, h⟩ := Option.bind_eq_some_iff.mp h
      obtain ⟨g1, g2, g3, g4⟩ := Cs.rd_ok o h1
      have := eq_of_beq hb.1.2
      subst this
      cases h
      exact pe_bxpD g1 g2 g3 g4 hb.2
    · cases h
  · cases h
theorem bxl_okS (o : XOk c lev e.K e.T X) {id : Str} {args : List Expr} {p2 : Pos} {r : E} (h : bxlOf c id args = some r) : PE X (.Call (.Name id p2) args [] pos) (tW e (wpE r)) := by
  unfold bxlOf at h
  split at h
  · split at h
    · rename_i hb
      rw [Bool.and_eq_true] at hb
      obtain ⟨i, h1, h⟩ := Option.bind_eq_some_iff.mp h
      obtain ⟨g1, g2, g3, g4⟩ := Cs.rd_ok o h1
      obtain ⟨rfl, b1, b2⟩ := Cs.blt_ok o (by decide) hb.1
      cases h
      exact pe_bxlD g1 g2 g3 g4 b1 b2
    · cases h
  · cases h
theorem ix_okS (o : XOk c lev e.K e.T X) (hf : SEx X e f) {a b : Expr} {m : E} (h : ixOf c f a b = some m) : PE X (.Subscript a b pos) (tW e (wpE m)) := by
  unfold ixOf at h
  split at h
  · cases h
  · rename_i hb
    have hp := plainIx_ok (b := b) (by simpa using hb)
    split at h
    · obtain ⟨i, h1, h⟩ := Option.bind_eq_some_iff.mp h
      obtain ⟨l, h2, h⟩ := Option.bind_eq_some_iff.mp h
      cases h
      obtain ⟨g1, g2, g3, g4⟩ := Cs.rd_ok o h1
      exact pe_ixoD o.kk g1 g2 g3 g4 (hf _ _ h2) hp
    · obtain ⟨i, h1, h⟩ := Option.bind_eq_some_iff.mp h
      obtain ⟨l, h2, h⟩ := Option.bind_eq_some_iff.mp h
      cases h
      exact pe_ixD o.kk (hf _ _ h1) (hf _ _ h2) hp
theorem pop_okS (o : XOk c lev e.K e.T X) (hf : SEx X e f) {y m : Str} {args : List Expr} {apos p2 : Pos} {r : E} (h : popOf c f y m args apos pos = some r) : PE X (.Call (.Attribute (.Name y p2) m apos) args [] pos) (tW e (wpE r)) := by
  unfold popOf at h
  split at h
  · rename_i hb
    rw [Bool.and_eq_true] at hb
    obtain ⟨b1, b2⟩ := hb
    have := eq_of_beq b1
    subst this
    split at h
    · obtain ⟨i, h1, h⟩ := Option.bind_eq_some_iff.mp h
      cases h
      obtain ⟨g1, g2, g3, g4⟩ := Cs.rd_ok o h1
      exact pe_poplD g1 g2 g3 g4 rfl b2
    · split at h
      · cases h
      · rename_i k hk
        obtain ⟨i, h1, h⟩ := Option.bind_eq_some_iff.mp h
        obtain ⟨l, h2, h⟩ := Option.bind_eq_some_iff.mp h
        cases h
        obtain ⟨g1, g2, g3, g4⟩ := Cs.rd_ok o h1
        have hs : isStar k = false := by simpa using hk
        exact pe_popoD g1 g2 g3 g4 (hf _ _ h2) rfl (by rw [nostar_all (by simp [hs])]; rfl) b2 (star_ok hs)
    · cases h
  · cases h
theorem bi_step {x s : Str} {k n : Nat} {y b : Bi} {z : Option Bi} (h : (if (x == s && n == k) = true then some y else z) = some b) : (s = x ∧ y = b) ∨ z = some b := by
  split at h
  · rename_i hb
    rw [Bool.and_eq_true] at hb
    cases h
    exact .inl ⟨(eq_of_beq hb.1).symm, rfl⟩
  · exact .inr h
theorem biOf_ok {x : Str} {n : Nat} {b : Bi} (h : biOf x n = some b) : b ≠ .sset ∧ (biName b).1 = x ∧ x ∈ blNames := by
  unfold biOf at h
  rcases bi_step h with ⟨e1, e2⟩ | h
  · subst e1 e2; exact ⟨(fun z => nomatch z), rfl, by decide⟩
  rcases bi_step h with ⟨e1, e2⟩ | h
  · subst e1 e2; exact ⟨(fun z => nomatch z), rfl, by decide⟩
  rcases bi_step h with ⟨e1, e2⟩ | h
  · subst e1 e2; exact ⟨(fun z => nomatch z), rfl, by decide⟩
  rcases bi_step h with ⟨e1, e2⟩ | h
  · subst e1 e2; exact ⟨(fun z => nomatch z), rfl, by decide⟩
  rcases bi_step h with ⟨e1, e2⟩ | h
  · subst e1 e2; exact ⟨(fun z => nomatch z), rfl, by decide⟩
  rcases bi_step h with ⟨e1, e2⟩ | h
  · subst e1 e2; exact ⟨(fun z => nomatch z), rfl, by decide⟩
  rcases bi_step h with ⟨e1, e2⟩ | h
  · subst e1 e2; exact ⟨(fun z => nomatch z), rfl, by decide⟩
  rcases bi_step h with ⟨e1, e2⟩ | h
  · subst e1 e2; exact ⟨(fun z => nomatch z), rfl, by decide⟩
  rcases bi_step h with ⟨e1, e2⟩ | h
  · subst e1 e2; exact ⟨(fun z => nomatch z), rfl, by decide⟩
  rcases bi_step h with ⟨e1, e2⟩ | h
  · subst e1 e2; exact ⟨(fun z => nomatch z), rfl, by decide⟩
  rcases bi_step h with ⟨e1, e2⟩ | h
  · subst e1 e2; exact ⟨(fun z => nomatch z), rfl, by decide⟩
  rcases bi_step h with ⟨e1, e2⟩ | h
  · subst e1 e2; exact ⟨(fun z => nomatch z), rfl, by decide⟩
  rcases bi_step h with ⟨e1, e2⟩ | h
  · subst e1 e2; exact ⟨(fun z => nomatch z), rfl, by decide⟩
  cases h
theorem bc_okS (o : XOk c lev e.K e.T X) (hf : SEx X e f) {id : Str} {args : List Expr} {p2 : Pos} {r : E} (h : bcOf c f id args = some r) : PE X (.Call (.Name id p2) args [] pos) (tW e (wpE r)) := by
  unfold bcOf at h
  split at h
  · cases h
  · obtain ⟨b, h1, h⟩ := Option.bind_eq_some_iff.mp h
    split at h
    · rename_i hg
      obtain ⟨ms, h2, h⟩ := Option.bind_eq_some_iff.mp h
      cases h
      obtain ⟨q1, q2, q3⟩ := biOf_ok h1
      obtain ⟨m, ms', s0, s1, s2, rfl⟩ := esOf_cons h2
      exact pe_bcD o.kk o.calm q1 q2 (Cs.gn_ok o hg).1 (o.bl _ q3) (es_ok hf h2) (star_ok s0) (nostar_any (esOf_star s2))
    · cases h
theorem tyOf_ok {x : Str} {t : String} (h : tyOf x = some t) : bootBuiltins x = some (.type t) ∧ t ∈ ["bool", "int", "str", "tuple", "list"] ∧ x ∈ blNames := by
  unfold tyOf at h
  repeat' (split at h; · (rename_i hb; cases h; have := eq_of_beq hb; subst this; exact ⟨by decide +kernel, by decide, by decide⟩))
  cases h
theorem call_okS (o : XOk c lev e.K e.T X) (hf : SEx X e f) {id : Str} {args : List Expr} {p2 : Pos} {r : E} (h : callOf c f id args = some r) : PE X (.Call (.Name id p2) args [] pos) (tW e (wpE r)) := by
  unfold callOf at h
  split at h
  · rename_i C hC
    split at h
    · rename_i hg
      obtain ⟨ms, h2, h⟩ := Option.bind_eq_some_iff.mp h
      cases h
      obtain ⟨g, fd, ps, q1, q2, q3, q4⟩ := o.fn _ _ hC
      rw [o.kk] at q1
      have q1' : FnOk X.prog X.w X.K X.mg X.base CX0 lev g fd ps (spC X.K e.T C) := by rw [o.kk]; exact q1
      obtain ⟨g1, g2, _⟩ := Cs.gn_ok o hg
      cases args with
      | nil => cases h2; exact pe_call0D o.kk q1' o.room g1 q2 q3 q4 (Ex := E0) pass0 g2
      | cons a es =>
        obtain ⟨m, ms', s0, s1, s2, e2⟩ := esOf_cons h2
        exact pe_callD o.kk q1' o.room g1 q2 q3 q4 (Ex := E0) pass0 (es_ok hf h2) g2 (star_ok s0) (nostar_any (esOf_star s2))
    · cases h
  · split at h
    · split at h
      · rename_i hl
        split at h
        · rename_i i hi
          cases h
          obtain ⟨rfl, b1, b2⟩ := Cs.blt_ok o (by decide) hl
          obtain ⟨g1, g2, g3, g4⟩ := Cs.rd_ok o hi
          exact pe_lenoD o.kk o.calm g1 g2 g3 g4 b1 b2
        · exact bc_okS o hf h
      · exact bc_okS o hf h
    · split at h
      · rename_i hl
        split at h
        · cases h
        · rename_i hs
          simp only [Bool.or_eq_true, Bool.not_eq_true', not_or] at hs
          obtain ⟨t, h1, h⟩ := Option.bind_eq_some_iff.mp h
          obtain ⟨m, h2, h⟩ := Option.bind_eq_some_iff.mp h
          cases h
          obtain ⟨rfl, b1, b2⟩ := Cs.blt_ok o (by decide) hl
          obtain ⟨t1, t2, t3⟩ := tyOf_ok h1
          obtain ⟨g1, g2, g3⟩ := Cs.gn_ok o (by simpa using hs.2)
          exact pe_isiD o.kk t1 t2 b1 b2 g1 (o.bl _ t3) g3 g2 (hf _ _ h2) (star_ok (by simpa using hs.1))
      · exact bc_okS o hf h
    · split at h
      · rename_i hl
        rw [Bool.and_eq_true] at hl
        split at h
        · cases h
        · rename_i hs
          obtain ⟨m, h2, h⟩ := Option.bind_eq_some_iff.mp h
          cases h
          obtain ⟨rfl, b1, b2⟩ := Cs.blt_ok o (by decide) hl.1
          obtain ⟨rfl, b3, b4⟩ := Cs.blt_ok o (by decide) hl.2
          exact pe_ssetD o.kk o.calm b1 b2 b3 b4 (hf _ _ h2) (star1_ok (by simpa using hs))
      · exact bc_okS o hf h
    · exact bc_okS o hf h
theorem it_okS (o : XOk c lev e.K e.T X) (hf : SEx X e f) {tg x : Expr} {r : It} (h : itOf c f tg x = some r) : PI X tg x (tI e (wpI r)) := by
  have tup : ∀ tg, isTupE tg = true → ∃ es k p, tg = .Tuple es k p := fun tg h => by
    cases tg <;> first | exact ⟨_, _, _, rfl⟩ | cases h
  unfold itOf at h
  split at h
  · split at h
    · rename_i hl
      split at h
      · cases h
      · rename_i hs
        obtain ⟨m, h2, h⟩ := Option.bind_eq_some_iff.mp h
        cases h
        obtain ⟨rfl, b1, b2⟩ := Cs.blt_ok o (by decide) hl
        exact pi_range1D b1 b2 (hf _ _ h2) (star1_ok (by simpa using hs))
    · split at h
      · rename_i hl
        split at h
        · cases h
        · rename_i hs
          simp only [Bool.or_eq_true, Bool.not_eq_true', not_or] at hs
          obtain ⟨m, h2, h⟩ := Option.bind_eq_some_iff.mp h
          cases h
          obtain ⟨rfl, b1, b2⟩ := Cs.blt_ok o (by decide) hl
          obtain ⟨es, k, p, rfl⟩ := tup tg (by simpa using hs.2)
          exact pi_enumD o.kk b1 b2 (hf _ _ h2) (star1_ok (by simpa using hs.1))
      · obtain ⟨m, h2, h⟩ := Option.bind_eq_some_iff.mp h
        cases h
        exact pi_ofD o.kk (hf _ _ h2)
  · split at h
    · rename_i hl
      split at h
      · cases h
      · rename_i hs
        simp only [Bool.or_eq_true, not_or] at hs
        obtain ⟨m, h2, h⟩ := Option.bind_eq_some_iff.mp h
        obtain ⟨m2, h3, h⟩ := Option.bind_eq_some_iff.mp h
        cases h
        obtain ⟨rfl, b1, b2⟩ := Cs.blt_ok o (by decide) hl
        have s2 := star1_ok (env := X.env) (a := _) (by simpa using hs.2)
        exact pi_range2D b1 b2 (hf _ _ h2) (hf _ _ h3) (by rw [star_ok (by simpa using hs.1), s2]) s2
    · split at h
      · rename_i hl
        split at h
        · cases h
        · rename_i hs
          simp only [Bool.or_eq_true, Bool.not_eq_true', not_or] at hs
          obtain ⟨m, h2, h⟩ := Option.bind_eq_some_iff.mp h
          obtain ⟨m2, h3, h⟩ := Option.bind_eq_some_iff.mp h
          cases h
          obtain ⟨rfl, b1, b2⟩ := Cs.blt_ok o (by decide) hl
          obtain ⟨es, k, p, rfl⟩ := tup tg (by simpa using hs.2)
          exact pi_zipD o.kk b1 b2 (hf _ _ h2) (hf _ _ h3) (star_ok (by simpa using hs.1.1)) (star1_ok (by simpa using hs.1.2))
      · obtain ⟨m, h2, h⟩ := Option.bind_eq_some_iff.mp h
        cases h
        exact pi_ofD o.kk (hf _ _ h2)
  · obtain ⟨m, h2, h⟩ := Option.bind_eq_some_iff.mp h
    cases h
    exact pi_ofD o.kk (hf _ _ h2)
theorem inOwn_ok {t : Tg} {own : List (Str × Nat)} (h : t.inOwn own = true) : ∀ i ∈ t.slots, i ∈ own.map (·.2) := fun i hi => by
  have := List.all_eq_true.mp h i hi
  simpa using this
theorem noCells_ok {scope : Scope} (h : noCells scope = true) : (∀ y ∈ scope.names, y.2 ≠ .cell) ∧ scope.isCoroutine = false ∧ scope.names.lookup (".0" : Str) = some NameKind.local := by
  unfold noCells at h
  rw [Bool.and_eq_true, Bool.and_eq_true] at h
  obtain ⟨⟨h1, h2⟩, h3⟩ := h
  refine ⟨fun y hy z => ?_, by simpa using h2, eq_of_beq h3⟩
  have := List.all_eq_true.mp h1 y hy
  rw [z] at this
  simp at this
theorem isTrue_plain {a : Expr} {env : Env} (h : ∀ op x p, a ≠ .UnaryOp op x p) (h2 : ∀ o v p, a ≠ .BoolOp o v p) (h3 : ∀ x y z p, a ≠ .IfExp x y z p) (h4 : ∀ x y z p, a ≠ .Compare x y z p) :
    ∀ whole, isTrue a env whole = (do let v ← whole; standAt a.pos; holding [v] (truthy v)) := by
  intro whole
  cases a <;> first | rfl | exact absurd rfl (h _ _ _) | exact absurd rfl (h2 _ _ _) | exact absurd rfl (h3 _ _ _ _) | exact absurd rfl (h4 _ _ _ _)
end
/-- all trees -/
theorem sound : ∀ (n : Nat), (∀ (c : Cs) (lev : Nat) (X : Cx) (e : Ent), XOk c lev e.K e.T X → SEx X e (compE n c)) ∧ (∀ (c : Cs) (lev : Nat) (X : Cx) (e : Ent), XOk c lev e.K e.T X → STx X e (compT n c))
  | 0 => ⟨fun c lev X e o x m h => (by cases h), fun c lev X e o x m h => (by cases h)⟩
  | n + 1 => by
    obtain ⟨ihE, ihT⟩ := sound n
    refine ⟨fun c lev X e o x m h => ?_, fun c lev X e o x m h => ?_⟩
    · have hf := ihE c lev X e o
      have hft := ihT c lev X e o
      unfold compE at h
      split at h
      · split at h
        · rename_i i hi
          cases h
          obtain ⟨g1, g2, g3, g4⟩ := Cs.rd_ok o hi
          exact pe_varD g1 g2 g3 g4
        · split at h
          · rename_i hg
            obtain ⟨d, h1, h⟩ := Option.bind_eq_some_iff.mp h
            cases h
            obtain ⟨v, u, q1, q2, q3⟩ := o.gl _ _ h1
            obtain ⟨g1, g2, _⟩ := Cs.gn_ok o hg
            exact pe_gloD g1 q1 q2 q3 g2
          · cases h
      · exact const_ok h
      · obtain ⟨ma, h1, h⟩ := Option.bind_eq_some_iff.mp h
        obtain ⟨mb, h2, h⟩ := Option.bind_eq_some_iff.mp h
        cases h
        exact pe_binD o.kk (hf _ _ h1) (hf _ _ h2)
      · obtain ⟨ma, h1, h⟩ := Option.bind_eq_some_iff.mp h
        cases h
        exact pe_negD (hf _ _ h1)
      · obtain ⟨ma, h1, h⟩ := Option.bind_eq_some_iff.mp h
        cases h
        exact pe_notD (hf _ _ h1)
      · split at h
        · rename_i hi
          cases h
          exact (inr_okS o hf hi).1
        · exact (cmp_okS o hf h).1
      · split at h
        · cases h
        · obtain ⟨ma, h1, h⟩ := Option.bind_eq_some_iff.mp h
          cases h
          exact bop_ok hf _ h1
      · obtain ⟨mt, h0, h⟩ := Option.bind_eq_some_iff.mp h
        obtain ⟨ma, h1, h⟩ := Option.bind_eq_some_iff.mp h
        obtain ⟨mb, h2, h⟩ := Option.bind_eq_some_iff.mp h
        cases h
        exact pe_iteD (hft _ _ h0) (hf _ _ h1) (hf _ _ h2)
      · obtain ⟨ma, h1, h⟩ := Option.bind_eq_some_iff.mp h
        cases h
        exact pe_tupD (es_ok hf h1)
      · obtain ⟨ma, h1, h⟩ := Option.bind_eq_some_iff.mp h
        cases h
        exact pe_lstD (es_ok hf h1)
      · exact slice_okS o hf h
      · split at h
        · rename_i hm
          cases h
          exact bx_okS o hm
        · exact ix_okS o hf h
      · split at h
        · rename_i hb
          simp only [Bool.and_eq_true, Bool.not_eq_true', Bool.or_eq_false_iff] at hb
          obtain ⟨⟨b1, b2, b3⟩, b4⟩ := hb
          obtain ⟨it, h1, h⟩ := Option.bind_eq_some_iff.mp h
          obtain ⟨t, h2, h⟩ := Option.bind_eq_some_iff.mp h
          obtain ⟨mm, h3, h⟩ := Option.bind_eq_some_iff.mp h
          dsimp only at h
          split at h
          · rename_i hk
            rw [Bool.and_eq_true] at hk
            obtain ⟨k1, k2⟩ := hk
            obtain ⟨n1, n2, n3⟩ := noCells_ok b4
            obtain ⟨hr, cd, P, c1, c2, c3⟩ := o.code b1
            have hN : X.N.Nodup := by rw [o.N]; exact o.nd
            have hI := it_okS o hf h1
            have hE : ∀ (s : Shared) (H : Hp) (env : Env) (fp : List Addr) (A : Around), env.scope = _ → Room lev A → PE (Gx.gcx X s H env fp A) _ (tU X.K e.T (wpE mm)) :=
              fun s H env fp A he hA => by rw [o.kk]; exact pe_U fun e' e1 e2 => ihE _ lev _ e' (by rw [e1, e2]; exact o.gen _ s H env fp A he hA) _ _ h3
            split at h
            · rename_i hl
              cases h
              obtain ⟨rfl, g1, g2⟩ := Cs.blt_ok o (by decide) hl
              exact pe_genD true o.kk c3 (inOwn_ok k2) hr o.calm hN g1 g2 c2 c1 hI (by rw [o.N, o.sc]; exact blkB_ok k1) n1 n2 n3 (fun s H env fp A he hA => tg_ok (o.gen _ s H env fp A he hA) h2) hE (genFold_ok b2 b3)
            · split at h
              · rename_i hl
                cases h
                obtain ⟨rfl, g1, g2⟩ := Cs.blt_ok o (by decide) hl
                exact pe_genD false o.kk c3 (inOwn_ok k2) hr o.calm hN g1 g2 c2 c1 hI (by rw [o.N, o.sc]; exact blkB_ok k1) n1 n2 n3 (fun s H env fp A he hA => tg_ok (o.gen _ s H env fp A he hA) h2) hE (genFold_ok b2 b3)
              · cases h
          · cases h
        · cases h
      · split at h
        · rename_i hm
          cases h
          exact bxl_okS o hm
        · exact call_okS o hf h
      · split at h
        · rename_i hm
          cases h
          exact bxp_okS o hm
        · exact pop_okS o hf h
      · split at h
        · cases h
        · rename_i hb
          obtain ⟨it, h1, h⟩ := Option.bind_eq_some_iff.mp h
          obtain ⟨t, h2, h⟩ := Option.bind_eq_some_iff.mp h
          obtain ⟨ts, h4, h⟩ := Option.bind_eq_some_iff.mp h
          obtain ⟨mm, h3, h⟩ := Option.bind_eq_some_iff.mp h
          dsimp only at h
          split at h
          · rename_i hk
            cases h
            rw [Bool.and_eq_true, Bool.and_eq_true] at hk
            obtain ⟨⟨k1, k2⟩, k3⟩ := hk
            refine pe_compD (pe_compL o.kk o.calm (by rw [o.N]; exact o.nd) (it_okS o hf h1) (by rw [o.N, o.sc]; exact blkB_ok k1) (inOwn_ok k2) (fun s H C cl fp => tg_ok (o.comp _ s H C cl fp) h2) (fun s H C cl fp => ?_) (fun s H C cl fp => ?_) (setFold_ok (by simpa using hb)))
            · rw [o.kk]
              exact pts_U fun e' e1 e2 => ifs_ok (ihT _ lev _ e' (by rw [e1, e2]; exact o.comp _ s H C cl fp)) h4 (by simpa using k3)
            · rw [o.kk]
              exact pe_U fun e' e1 e2 => ihE _ lev _ e' (by rw [e1, e2]; exact o.comp _ s H C cl fp) _ _ h3
          · cases h
      · cases h
    · have hf := ihE c lev X e o
      have hft := ihT c lev X e o
      unfold compT at h
      split at h
      · obtain ⟨ma, h1, h⟩ := Option.bind_eq_some_iff.mp h
        cases h
        exact pt_notD (hft _ _ h1)
      · split at h
        · cases h
        · obtain ⟨ma, h1, h⟩ := Option.bind_eq_some_iff.mp h
          cases h
          exact (bopT_ok hft _ h1).pt
      · split at h
        · rename_i hi
          cases h
          exact (inr_okS o hf hi).2
        · obtain ⟨ma, h1, h⟩ := Option.bind_eq_some_iff.mp h
          cases h
          exact (cmp_okS o hf h1).2
      · cases h
      · rename_i n1 n2 n3 n4
        obtain ⟨ma, h1, h⟩ := Option.bind_eq_some_iff.mp h
        cases h
        refine pt_ofD (hf _ _ h1) o.kk ?_
        intro whole
        cases x <;> first
          | rfl
          | exact absurd rfl (n2 _ _ _)
          | exact absurd rfl (n3 _ _ _ _)
          | exact absurd rfl (n4 _ _ _ _)
          | (rename_i op x p; cases op <;> first | rfl | exact absurd rfl (n1 _ _))
end Py
set_option Elab.async false
set_option linter.all false
set_option maxRecDepth 100000
set_option maxHeartbeats 4000000
/-! Statements and defs: the tree reader, its soundness. -/
namespace Py
open PySem PySem.Spec PyProof.Rows L2 GxR

def isComp : Expr → Bool
  | .ListComp _ _ _ _ => true | .SetComp _ _ _ _ => true | .DictComp _ _ _ _ _ => true | _ => false
/-- a comprehension's parts -/
def lcOf (n : Nat) (c : Cs) (elt : Expr) (gs : List Comprehension) (scope : Scope) : Option (E × Tg × It × Ts × List (Str × Nat)) :=
  match gs with
  | [⟨tg, iter, ifs, 0⟩] =>
    if isSetD iter = true then none else
    (itOf c (compE n c) tg iter).bind fun it => (tgOf (c.comp scope) tg).bind fun t => (tsOf (compT n (c.comp scope)) ifs).bind fun ts => (compE n (c.comp scope) elt).bind fun m =>
      let own := ownOf c.N scope.names
      if (blkB c.N c.sc scope own && t.inOwn own && decide (ifs.length ≤ 1)) = true then some (m, t, it, ts, own) else none
  | _ => none
/-- a fresh list, no comprehension -/
def leOf (n : Nat) (c : Cs) (v : Expr) : Option Le :=
  match v with
  | .List es _ => (esOf (compE n c) es).bind fun ms => some (.lst ms)
  | .Call (.Name id _) [.Call (.Name id2 _) [a] [] _] [] _ => if (c.blt id "list" && c.blt id2 "range" && !isStar a) = true then (compE n c a).bind fun m => some (.range m) else none
  | .Call (.Name id _) [.Name y p] [] _ => if c.blt id "list" = true then (compE n c (.Name y p)).bind fun m => some (.list m) else none
  | _ => none
def pvOf (n : Nat) (c : Cs) (o : Bool) (v : Expr) : Option Pv :=
  if o = true then (leOf n c v).bind fun l => some (.l l) else (compE n c v).bind fun m => some (.v m)
def isTupD : Expr → Bool
  | .Tuple _ _ _ => true | _ => false
/-- name = .. -/
def setOf (n : Nat) (c : Cs) (x : Str) (px : Pos) (v : Expr) (pos : Pos) : Option Sm :=
  match v with
  | .ListComp elt gs scope vp =>
    (lcOf n c elt gs scope).bind fun r => (c.wr x).bind fun i =>
      if (c.sc.kind == .function && c.sc.names.lookup x == some .local && px.line == vp.line && !(scope.names.any fun (n, k) => n == x && (k == .local || k == .cell))) = true then
        (if c.own.contains x = true then some (.setL i (.comp r.1 r.2.1 r.2.2.1 r.2.2.2.1 r.2.2.2.2)) else some (.set i (.comp r.1 r.2.1 r.2.2.1 r.2.2.2.1 r.2.2.2.2)))
      else if (c.sc.names.lookup x == some .local) = true then none else
        (if c.own.contains x = true then some (.setL i (.comp r.1 r.2.1 r.2.2.1 r.2.2.2.1 r.2.2.2.2)) else some (.set i (.comp r.1 r.2.1 r.2.2.1 r.2.2.2.1 r.2.2.2.2)))
  | v => if isComp v = true then none else (c.wr x).bind fun i => if c.own.contains x = true then (match leOf n c v with
      | some l => some (.setL i l)
      | none => (compE n c v).bind fun m => some (.set i m))
    else (compE n c v).bind fun m => some (.set i m)
/-- two names at once -/
def swapB (c : Cs) (x y : Str) (px py : Pos) (a b : Expr) : Bool :=
  c.sc.kind == .function && c.sc.names.lookup x == some .local && c.sc.names.lookup y == some .local && py.line == px.line && !(x == y) && !isStar a && !isStar b
    && !(foldedForSure 8 a && foldedForSure 8 b) && !(constantsAlone 8 a && constantsAlone 8 b)
/-- the values of several names -/
def pvsOf (n : Nat) (c : Cs) : List Expr → List Expr → Option (List Pv)
  | [], [] => some []
  | .Name x _ :: ts, v :: vs => if isStar v = true then none else (pvOf n c (c.own.contains x) v).bind fun p => (pvsOf n c ts vs).bind fun ps => some (p :: ps)
  | _, _ => none
/-- the stores are surely not exchanged -/
def noSwapB (c : Cs) (ts vs : List Expr) : Bool :=
  (!(ts.length == 2) && !(ts.length == 3)) || (ts.any fun t => match t with | .Name x _ => !(c.sc.names.lookup x == some .local) | _ => false) || vs.all (foldedForSure 8)
def parOf (n : Nat) (c : Cs) (ts vs : List Expr) : Option Sm :=
  (nmsOf c ts).bind fun is => (pvsOf n c ts vs).bind fun ps =>
    if (noSwapB c ts vs && decide (is.length ≤ 1000)) = true then some (.pars is ps) else
    match ts, vs, is with
    | [.Name x px, .Name y py], [a, b], [i, j] => if (swapB c x y px py a b && !(i == j)) = true then some (.pars is ps) else none
    | _, _, _ => none
/-- x[..] = .. -/
def putOf (n : Nat) (c : Cs) (x : Str) (b v : Expr) : Option Sm :=
  if (isComp v || isTupD v || isSlice b) = true then none else
  if c.bx.contains x = true then
    match b with
    | .Constant (.int 1) _ _ => (c.rd x).bind fun i => (compE n c v).bind fun m => some (.bxw i m)
    | .Constant (.int 2) _ _ => (c.rd x).bind fun i => (compE n c v).bind fun m => some (.bxw i m)
    | _ => none
  else (c.rd x).bind fun i => (compE n c b).bind fun mb => (compE n c v).bind fun m => some (.put i mb m)
/-- list.append, list.extend -/
def mthOf (n : Nat) (c : Cs) (x m : Str) (apos : Pos) (a : Expr) (cpos : Pos) : Option Sm :=
  if (apos.endLine == cpos.line && !isStar a) = true then
    (c.rd x).bind fun i => (compE n c a).bind fun e => if (m == "append") = true then some (.app i e) else if (m == "extend") = true then some (.ext i e) else none
  else none
def smsOf (f : Stmt → Option Sm) : List Stmt → Option Sms
  | [] => some .nil
  | a :: r => (f a).bind fun m => (smsOf f r).bind fun ms => some (.cons m ms)
def compS : Nat → Cs → Stmt → Option Sm
  | 0, _, _ => none
  | n + 1, c, st => match st with
    | .Assign [.Name x px] v pos => setOf n c x px v pos
    | .Assign [.Tuple ts _ _] (.Tuple vs _ _) _ => parOf n c ts vs
    | .Assign [.Tuple es k p] v _ => if (isComp v || isTupD v) = true then none else (nmsOf c es).bind fun is => (compE n c v).bind fun m => some (.sets is m)
    | .Assign [.Subscript (.Name x _) b _] v _ => putOf n c x b v
    | .Expr (.Call (.Attribute (.Name x _) m apos) [a] [] cpos) _ => mthOf n c x m apos a cpos
    | .Expr v _ => if isComp v = true then none else (compE n c v).bind fun m => some (.ex m)
    | .Return (some v) _ => (compE n c v).bind fun m => some (.ret m)
    | .Return none _ => some .retn
    | .If t a b _ => (compT n c t).bind fun mt => (smsOf (compS n c) a).bind fun ma => (smsOf (compS n c) b).bind fun mb => some (.iff mt ma mb)
    | .For tg iter b [] _ => if isSetD iter = true then none else (tgOf c tg).bind fun t => (itOf c (compE n c) tg iter).bind fun it => (smsOf (compS n c) b).bind fun mb => some (.fr t it mb)
    | .While t b [] _ => (compT n c t).bind fun mt => (smsOf (compS n c) b).bind fun mb => some (.whil mt mb)
    | .Pass _ => some .pass
    | .Break _ => some .brk
    | .Continue _ => some .cont
    | .AugAssign (.Name x _) .Add v _ => (c.wr x).bind fun i => (compE n c v).bind fun m => some (.aug .Add i m)
    | .AugAssign (.Name x _) .Sub v _ => (c.wr x).bind fun i => (compE n c v).bind fun m => some (.aug .Sub i m)
    | _ => none

/-! ### soundness -/
section
variable {c : Cs} {lev n : Nat} {X : Cx} {e : Ent} {pos : Pos}
theorem swap_plain {v : Expr} {t : Option Expr} {l : Nat} {env : Env} (h : isComp v = false) : swapsWith v t l env = pure false := by
  cases v <;> first | rfl | cases h
theorem sole_plain {v : Expr} {t : Expr} {l : Nat} {env : Env} (h : isComp v = false) : swapsWithSole [t] v l env = pure false := swap_plain h
theorem swapped_plain {v t : Expr} {env : Env} (h : isTupD v = false) : swappedStores [t] v env = pure none := by
  cases t <;> cases v <;> first | rfl | cases h
theorem lcOf_ok (o : XOk c lev e.K e.T X) {elt : Expr} {gs : List Comprehension} {scope : Scope} {r : E × Tg × It × Ts × List (Str × Nat)} (h : lcOf n c elt gs scope = some r) :
    ∃ tg iter ifs, gs = [⟨tg, iter, ifs, 0⟩] ∧ (∀ v, foldedSetIterable iter X.env v = pure v) ∧ PI X tg iter (tI e (wpI r.2.2.1)) ∧ BlkOk X.N X.env.scope scope r.2.2.2.2 ∧ (∀ i ∈ r.2.1.slots, i ∈ r.2.2.2.2.map (·.2)) ∧
      (∀ (s : Shared) (H : Hp) (C : Addr) (cl : List (Str × Addr)) (fp : List Addr), PG (X.blk s H scope (compEnvC scope cl C X.env) fp) tg (gT X.K r.2.1)) ∧
      (∀ (s : Shared) (H : Hp) (C : Addr) (cl : List (Str × Addr)) (fp : List Addr), PTs (X.blk s H scope (compEnvC scope cl C X.env) fp) ifs (tUt X.K e.T (wpTs r.2.2.2.1))) ∧
      (∀ (s : Shared) (H : Hp) (C : Addr) (cl : List (Str × Addr)) (fp : List Addr), PE (X.blk s H scope (compEnvC scope cl C X.env) fp) elt (tU X.K e.T (wpE r.1))) := by
  obtain ⟨ihE, ihT⟩ := sound n
  unfold lcOf at h
  split at h
  · split at h
    · cases h
    · rename_i hb
      obtain ⟨it, h1, h⟩ := Option.bind_eq_some_iff.mp h
      obtain ⟨t, h2, h⟩ := Option.bind_eq_some_iff.mp h
      obtain ⟨ts, h4, h⟩ := Option.bind_eq_some_iff.mp h
      obtain ⟨mm, h3, h⟩ := Option.bind_eq_some_iff.mp h
      dsimp only at h
      split at h
      · rename_i hk
        cases h
        rw [Bool.and_eq_true, Bool.and_eq_true] at hk
        obtain ⟨⟨k1, k2⟩, k3⟩ := hk
        refine ⟨_, _, _, rfl, setFold_ok (by simpa using hb), it_okS o (ihE _ _ _ _ o) h1, by rw [o.N, o.sc]; exact blkB_ok k1, inOwn_ok k2, fun s H C cl fp => tg_ok (o.comp _ s H C cl fp) h2, fun s H C cl fp => ?_, fun s H C cl fp => ?_⟩
        · rw [o.kk]
          exact pts_U fun e' e1 e2 => ifs_ok (ihT _ lev _ e' (by rw [e1, e2]; exact o.comp _ s H C cl fp)) h4 (by simpa using k3)
        · rw [o.kk]
          exact pe_U fun e' e1 e2 => ihE _ lev _ e' (by rw [e1, e2]; exact o.comp _ s H C cl fp) _ _ h3
      · cases h
  · cases h
theorem leOf_ok (o : XOk c lev e.K e.T X) {v : Expr} {l : Le} (h : leOf n c v = some l) : PE X v (tL e (wpL l)) := by
  have hf := (sound n).1 c lev X e o
  unfold leOf at h
  split at h
  · obtain ⟨ms, h1, h⟩ := Option.bind_eq_some_iff.mp h
    cases h
    exact pe_lstL (es_ok hf h1)
  · split at h
    · rename_i hb
      rw [Bool.and_eq_true, Bool.and_eq_true] at hb
      obtain ⟨m, h1, h⟩ := Option.bind_eq_some_iff.mp h
      cases h
      obtain ⟨rfl, b1, b2⟩ := Cs.blt_ok o (by decide) hb.1.1
      obtain ⟨rfl, b3, b4⟩ := Cs.blt_ok o (by decide) hb.1.2
      exact pe_rangeL o.calm b1 b2 b3 b4 (hf _ _ h1) (star1_ok (by simpa using hb.2))
    · cases h
  · split at h
    · rename_i hb
      obtain ⟨m, h1, h⟩ := Option.bind_eq_some_iff.mp h
      cases h
      obtain ⟨rfl, b1, b2⟩ := Cs.blt_ok o (by decide) hb
      exact pe_listL o.kk b1 b2 (hf _ _ h1) (star1_ok rfl)
    · cases h
  · cases h
theorem pvOf_ok (o : XOk c lev e.K e.T X) {b : Bool} {v : Expr} {p : Pv} (h : pvOf n c b v = some p) : PE X v (tP e (wpP p)) := by
  have hf := (sound n).1 c lev X e o
  unfold pvOf at h
  split at h
  · obtain ⟨m, h1, h⟩ := Option.bind_eq_some_iff.mp h
    cases h
    exact pe_Pl (leOf_ok o h1)
  · obtain ⟨m, h1, h⟩ := Option.bind_eq_some_iff.mp h
    cases h
    exact pe_Pv (hf _ _ h1)
theorem ps_setG {p2 : Pos} {a : Expr} {x : Str} {i : Nat} {ma : E} (hN : X.N.Nodup) (hi : X.N[i]? = some x) (hx : L2.Loc X.env.scope x) (hf : X.fn x = true ∨ X.env.scope.names.lookup x = some .local) (ha : PE X a (tW e (wpE ma))) (hs : swapsWith a (some (.Name x p2)) pos.line X.env = pure false) : PS X (.Assign [.Name x p2] a pos) (tS e (wpS (.set i ma))) :=
  PS.imp (ps_set hN hi hx ha hs hf) fun D σ H ⟨ρ, S, F, G, Q, s, h, le⟩ => ⟨ρ, S, F, G, s, monoE ma h fun d ρ1 S1 q v F1 G1 H1 s1 r1 x1 => le.nx _ _ q F1 G1 _ H1 (s1.setV i r1)⟩
theorem ps_setLG {p2 : Pos} {a : Expr} {x : Str} {i : Nat} {l : Le} (hN : X.N.Nodup) (hi : X.N[i]? = some x) (hx : L2.Loc X.env.scope x) (hf : X.fn x = true ∨ X.env.scope.names.lookup x = some .local) (ha : PE X a (tL e (wpL l))) (hs : swapsWith a (some (.Name x p2)) pos.line X.env = pure false) :
    PS X (.Assign [.Name x p2] a pos) (tS e (wpS (.setL i l))) :=
  PS.imp (ps_set hN hi hx ha hs hf) fun D σ H ⟨ρ, S, F, G, Q, s, h, le⟩ => ⟨ρ, S, F, G, s, wpL_mono l _ _ _ _ h fun ds ρ1 S1 q a F1 G1 H1 s1 f1 x1 => le.nx _ _ q F1 G1 _ H1 (f1.toOwn s1 i)⟩
theorem set_ok (o : XOk c lev e.K e.T X) {x : Str} {px : Pos} {v : Expr} {m : Sm} (h : setOf n c x px v pos = some m) : PS X (.Assign [.Name x px] v pos) (tS e (wpS m)) := by
  have hf := (sound n).1 c lev X e o
  have hN : X.N.Nodup := by rw [o.N]; exact o.nd
  unfold setOf at h
  split at h
  · obtain ⟨r, h1, h⟩ := Option.bind_eq_some_iff.mp h
    obtain ⟨i, h2, hh⟩ := Option.bind_eq_some_iff.mp h
    obtain ⟨tg, iter, ifs, eg, q1, q2, q3, q4, q5, q6, q7⟩ := lcOf_ok o h1
    subst eg
    obtain ⟨g1, g2, g3⟩ := Cs.wr_ok o h2
    split at hh
    · rename_i hb
      simp only [Bool.and_eq_true, Bool.not_eq_true'] at hb
      obtain ⟨⟨⟨b1, b2⟩, b3⟩, b4⟩ := hb
      have hl : X.env.scope.names.lookup x = some .local := by rw [o.sc]; exact eq_of_beq b2
      have base := ps_setLc (spos := pos) (py := px) o.calm hN g1 hl (sw_true (by rw [o.sc]; exact eq_of_beq b1) hl b3 b4) q2 q3 q5 q6 q7 q1
      split at hh
      · cases hh
        exact ps_setF hN g1 hl base (fun σ H Q z => tLc_of o.kk q4 z) (wpL_mono _)
      · cases hh
        exact PS.imp base fun D σ H ⟨ρ, S, F, G, Q, s, h, le⟩ => tLc_of (t := r.2.1) o.kk q4 ⟨ρ, S, F, G, s, wpComp_mono _ _ (fun ds ρ1 S1 => Q.nx (ρ1.set i (.v (.lst ds))) S1) _ h fun ds ρ1 S1 q a F1 G1 H1 s1 f1 x1 => by
          obtain ⟨F2, s2, r2, x2⟩ := f1.freeze s1
          exact le.nx _ _ q F2 G1 _ H1 (s2.setV i r2)⟩
    · split at hh
      · cases hh
      · rename_i hnl
        have hnl : (X.env.kindOf x == some .local) = false := by
          show (X.env.scope.names.lookup x == some .local) = false
          rw [o.sc]
          simpa using hnl
        have hs : ∀ vp el gs sc l, swapsWith (.ListComp el gs sc vp) (some (.Name x px)) l X.env = pure false := fun vp el gs sc l => by
          unfold swapsWith
          simp [hnl]
        have base := fun vp => pe_compL (pos := vp) (it := r.2.2.1) (ts := r.2.2.2.1) (elt := r.1) o.kk o.calm hN q2 q3 q4 q5 q6 q7 q1
        split at hh
        · cases hh
          exact ps_setLG hN g1 g2 g3 (base _) (hs _ _ _ _ _)
        · cases hh
          exact ps_setG hN g1 g2 g3 (pe_compD (base _)) (hs _ _ _ _ _)
  · split at h
    · cases h
    · rename_i hc
      have hs : ∀ t l, swapsWith v t l X.env = pure false := fun t l => swap_plain (by simpa using hc)
      obtain ⟨i, h2, h⟩ := Option.bind_eq_some_iff.mp h
      obtain ⟨g1, g2, g3⟩ := Cs.wr_ok o h2
      split at h
      · split at h
        · rename_i l hl
          cases h
          exact ps_setLG hN g1 g2 g3 (leOf_ok o hl) (hs _ _)
        · obtain ⟨mm, h3, h⟩ := Option.bind_eq_some_iff.mp h
          cases h
          exact ps_setG hN g1 g2 g3 (hf _ _ h3) (hs _ _)
      · obtain ⟨mm, h3, h⟩ := Option.bind_eq_some_iff.mp h
        cases h
        exact ps_setG hN g1 g2 g3 (hf _ _ h3) (hs _ _)
theorem swapB_ok (o : XOk c lev e.K e.T X) {x y : Str} {px py pt p3 : Pos} {kt k2 : Nat} {a b : Expr} (h : swapB c x y px py a b = true) :
    swappedStores [.Tuple [.Name x px, .Name y py] kt pt] (.Tuple [a, b] k2 p3) X.env = pure (some [x, y]) := by
  unfold swapB at h
  simp only [Bool.and_eq_true, Bool.not_eq_true'] at h
  obtain ⟨⟨⟨⟨⟨⟨⟨⟨h1, h2⟩, h3⟩, h4⟩, h5⟩, h6⟩, h7⟩, h8⟩, h9⟩ := h
  have hk : X.env.blockKind = .function := by unfold Env.blockKind; rw [o.sc, eq_of_beq h1]; rfl
  have kx : X.env.kindOf x = some .local := by show X.env.scope.names.lookup x = _; rw [o.sc]; exact eq_of_beq h2
  have ky : X.env.kindOf y = some .local := by show X.env.scope.names.lookup y = _; rw [o.sc]; exact eq_of_beq h3
  have hyx : (y == x) = false := by
    cases q : (y == x) with
    | false => rfl
    | true => rw [eq_of_beq q, beq_self_eq_true] at h5; cases h5
  have hed : [x, y].eraseDups.length = 2 := by
    rw [List.eraseDups_cons]
    simp [hyx, List.eraseDups_cons]
  unfold swappedStores
  simp only [hk, kx, ky, h4, Expr.pos, List.length_cons, List.length_nil, List.filterMap_cons, List.filterMap_nil, List.head?_cons, Option.map_some, Option.getD_some, List.all_cons, List.all_nil, Bool.and_true, h8, h9, List.any_cons, List.any_nil, Bool.or_false, beq_self_eq_true]
  simp only [if_true, hed]
  have fin : ∀ (p q : Bool), p = false → q = false → (if (p || q) = true then (pure none : Sem (Option (List Str))) else pure (some [x, y])) = pure (some [x, y]) := by
    intro p q hp hq
    subst hp hq
    rfl
  have e1 : ∀ (z : Expr), isStar z = false → (match z with | .Starred .. => true | _ => false) = false := fun z hz => by cases z <;> first | rfl | cases hz
  simp
  intro hz
  rcases hz with hz | hz
  · split at hz
    · cases h6
    · cases hz
  · split at hz
    · cases h7
    · cases hz
theorem pvsOf_ok : ∀ {ts vs : List Expr} {ps : List Pv} {e : Ent}, XOk c lev e.K e.T X → pvsOf n c ts vs = some ps → PA X vs (tPs e (wpPs ps)) ∧ ps.length = ts.length ∧ vs.length = ts.length ∧ vs.all (fun a => !isStar a) = true
  | [], [], ps, e, o, h => by cases h; exact ⟨pa_Pnil, rfl, rfl, rfl⟩
  | t :: ts, v :: vs, ps, e, o, h => by
    unfold pvsOf at h
    split at h
    · rename_i h1 h2
      cases h1
    · rename_i x px ts' v' vs' h1 h2
      cases h1
      cases h2
      split at h
      · cases h
      · rename_i hs
        obtain ⟨p, g1, h⟩ := Option.bind_eq_some_iff.mp h
        obtain ⟨ps', g2, h⟩ := Option.bind_eq_some_iff.mp h
        cases h
        obtain ⟨q1, q2, q3, q4⟩ := pvsOf_ok o g2
        exact ⟨pa_Pcons (pvOf_ok o g1) (pa_PsU fun e' e1 e2 => (pvsOf_ok (by rw [e1, e2]; exact o) g2).1) (star_ok (by simpa using hs)), by simp [q2], by simp [q3], by rw [List.all_cons, q4]; simp [hs]⟩
    · cases h
  | [], _ :: _, ps, e, o, h => by cases h
  | t :: _, [], ps, e, o, h => by
    unfold pvsOf at h
    split at h
    · rename_i h1 h2; cases h1
    · rename_i h1 h2; cases h2
    · cases h
theorem nmsOf_names : ∀ {ts : List Expr} {is : List Nat}, nmsOf c ts = some is → is.length = ts.length
  | [], is, h => by cases h; rfl
  | a :: r, is, h => by
    unfold nmsOf at h
    obtain ⟨i, h1, h2⟩ := Option.bind_eq_some_iff.mp h
    obtain ⟨is', h3, h4⟩ := Option.bind_eq_some_iff.mp h2
    cases h4
    simp [nmsOf_names h3]
theorem filterMap_lt {α β : Type} {f : α → Option β} : ∀ {l : List α}, (∃ x ∈ l, f x = none) → (l.filterMap f).length < l.length
  | [], ⟨x, h, _⟩ => by cases h
  | a :: r, ⟨x, h, hx⟩ => by
    rcases List.mem_cons.mp h with e | e
    · subst e
      rw [List.filterMap_cons_none hx]
      exact Nat.lt_succ_of_le (List.length_filterMap_le ..)
    · have ih := filterMap_lt (l := r) ⟨x, e, hx⟩
      cases q : f a with
      | none => rw [List.filterMap_cons_none q]; exact Nat.lt_succ_of_lt ih
      | some b => rw [List.filterMap_cons_some q]; exact Nat.succ_lt_succ ih
theorem noSwap_ok (o : XOk c lev e.K e.T X) {ts vs : List Expr} {k k2 : Nat} {p p2 : Pos} (hl : vs.length = ts.length) (h : noSwapB c ts vs = true) : swappedStores [.Tuple ts k p] (.Tuple vs k2 p2) X.env = pure none := by
  unfold noSwapB at h
  rw [Bool.or_eq_true, Bool.or_eq_true] at h
  unfold swappedStores
  rcases h with (h | h) | h
  · simp only [Bool.and_eq_true, Bool.not_eq_true'] at h
    simp [h.1, h.2]
  · obtain ⟨t, ht, hz⟩ := List.any_eq_true.mp h
    simp only []
    split
    · rfl
    · split
      · rfl
      · split
        · rfl
        · rename_i hneg
          refine absurd ?_ hneg
          rw [Bool.or_eq_true]
          refine .inl (bne_iff_ne.mpr (Nat.ne_of_lt (filterMap_lt ⟨t, ht, ?_⟩)))
          split at hz
          · rename_i x px
            have e1 : (X.env.kindOf x == some .local) = false := by
              show (X.env.scope.names.lookup x == some .local) = false
              rw [o.sc]
              simpa using hz
            simp [e1]
          · cases hz
  · simp only []
    split
    · rfl
    · split
      · rfl
      · split
        · rfl
        · simp only [h, if_true]
theorem par_ok (o : XOk c lev e.K e.T X) {ts vs : List Expr} {pt p3 : Pos} {kt k2 : Nat} {m : Sm} (h : parOf n c ts vs = some m) : PS X (.Assign [.Tuple ts kt pt] (.Tuple vs k2 p3) pos) (tS e (wpS m)) := by
  unfold parOf at h
  obtain ⟨is, g1, h⟩ := Option.bind_eq_some_iff.mp h
  obtain ⟨ps, g2, h⟩ := Option.bind_eq_some_iff.mp h
  obtain ⟨a1, a2, a3, a4⟩ := pvsOf_ok o g2
  have li := nmsOf_names g1
  split at h
  · rename_i hb
    cases h
    rw [Bool.and_eq_true] at hb
    obtain ⟨q1, q2, q3⟩ := nms_ok o g1
    exact ps_parsD (by rw [a2, li]) (by simpa using hb.2) a1 (pg_tup o.calm q1 q2 q3) rfl (noSwap_ok o a3 hb.1) rfl
  · split at h
    · split at h
      · rename_i hb
        cases h
        rw [Bool.and_eq_true] at hb
        have hsw := swapB_ok (pt := pt) (p3 := p3) (kt := kt) (k2 := k2) o hb.1
        have hb1 := hb.1
        unfold swapB at hb1
        simp only [Bool.and_eq_true, Bool.not_eq_true'] at hb1
        obtain ⟨⟨⟨⟨⟨⟨⟨⟨h1, h2⟩, h3⟩, h4⟩, h5⟩, h6⟩, h7⟩, h8⟩, h9⟩ := hb1
        unfold nmsOf at g1
        obtain ⟨i', r1, g1⟩ := Option.bind_eq_some_iff.mp g1
        obtain ⟨is', r2, g1⟩ := Option.bind_eq_some_iff.mp g1
        unfold nmsOf at r2
        obtain ⟨j', r3, r2⟩ := Option.bind_eq_some_iff.mp r2
        obtain ⟨is'', r4, r2⟩ := Option.bind_eq_some_iff.mp r2
        cases r2
        cases g1
        obtain ⟨b1, b2, b3⟩ := Cs.wr_ok o (show c.wr _ = some _ from r1)
        obtain ⟨b4, b5, b6⟩ := Cs.wr_ok o (show c.wr _ = some _ from r3)
        match ps, a2, a1 with
        | [p, q], _, a1 => exact ps_par2D o.calm (by rw [o.N]; exact o.nd) b1 b4 (by simpa using hb.2) (by rw [o.sc]; exact eq_of_beq h2) (by rw [o.sc]; exact eq_of_beq h3) a1 hsw rfl
      · cases h
    · cases h
theorem mth_ok (o : XOk c lev e.K e.T X) {x m : Str} {apos cpos p2 : Pos} {a : Expr} {r : Sm} (h : mthOf n c x m apos a cpos = some r) : PS X (.Expr (.Call (.Attribute (.Name x p2) m apos) [a] [] cpos) pos) (tS e (wpS r)) := by
  have hf := (sound n).1 c lev X e o
  unfold mthOf at h
  split at h
  · rename_i hb
    rw [Bool.and_eq_true] at hb
    have hs : isStar a = false := by simpa using hb.2
    obtain ⟨i, h1, h⟩ := Option.bind_eq_some_iff.mp h
    obtain ⟨me, h2, h⟩ := Option.bind_eq_some_iff.mp h
    obtain ⟨g1, g2, g3, g4⟩ := Cs.rd_ok o h1
    have few : ((backTo cpos (starEach [a] X.env)).all (fun x => !x.1) && (backToKw cpos (keywordEach [] X.env)).all (fun x => x.1.isSome) && decide ([a].length + ([] : List Keyword).length + (if ([] : List Keyword).isEmpty then 0 else 1) < 30)) = true := by
      rw [nostar_all (by simp [hs])]; rfl
    split at h
    · rename_i hm
      cases h
      have := eq_of_beq hm
      subst this
      exact ps_appD g1 g2 g3 g4 (hf _ _ h2) rfl few hb.1 (star_ok hs) rfl
    · split at h
      · rename_i hm
        cases h
        have := eq_of_beq hm
        subst this
        exact ps_extD g1 g2 g3 g4 (hf _ _ h2) rfl few hb.1 (star_ok hs) rfl
      · cases h
  · cases h
theorem put_ok (o : XOk c lev e.K e.T X) {x : Str} {p2 p4 : Pos} {b v : Expr} {r : Sm} (h : putOf n c x b v = some r) : PS X (.Assign [.Subscript (.Name x p2) b p4] v pos) (tS e (wpS r)) := by
  have hf := (sound n).1 c lev X e o
  unfold putOf at h
  split at h
  · cases h
  · rename_i hb
    simp only [Bool.or_eq_true, not_or] at hb
    have hs : ∀ t l, swapsWithSole [t] v l X.env = pure false := fun t l => sole_plain (by simpa using hb.1.1)
    have hw : ∀ t, swappedStores [t] v X.env = pure none := fun t => swapped_plain (by simpa using hb.1.2)
    split at h
    · split at h
      · obtain ⟨i, h1, h⟩ := Option.bind_eq_some_iff.mp h
        obtain ⟨m, h2, h⟩ := Option.bind_eq_some_iff.mp h
        cases h
        obtain ⟨g1, g2, g3, g4⟩ := Cs.rd_ok o h1
        exact ps_bxwD (k := 1) (.inl rfl) g1 g2 g3 g4 (hf _ _ h2) (hs _ _) (hw _)
      · obtain ⟨i, h1, h⟩ := Option.bind_eq_some_iff.mp h
        obtain ⟨m, h2, h⟩ := Option.bind_eq_some_iff.mp h
        cases h
        obtain ⟨g1, g2, g3, g4⟩ := Cs.rd_ok o h1
        exact ps_bxwD (k := 2) (.inr rfl) g1 g2 g3 g4 (hf _ _ h2) (hs _ _) (hw _)
      · cases h
    · obtain ⟨i, h1, h⟩ := Option.bind_eq_some_iff.mp h
      obtain ⟨mb, h3, h⟩ := Option.bind_eq_some_iff.mp h
      obtain ⟨m, h2, h⟩ := Option.bind_eq_some_iff.mp h
      cases h
      obtain ⟨g1, g2, g3, g4⟩ := Cs.rd_ok o h1
      refine ps_putD g1 g2 g3 g4 (hf _ _ h2) (hf _ _ h3) (fun w => ?_) (hs _ _) (hw _)
      have hsl : isSlice b = false := by simpa using hb.2
      cases b <;> first | rfl | cases hsl
theorem sms_ok {f : Stmt → Option Sm} (hf : ∀ st m, f st = some m → PS X st (tS e (wpS m))) : ∀ {b : List Stmt} {ms : Sms}, smsOf f b = some ms → PSs X b (tS e (wpSs ms))
  | [], ms, h => by cases h; exact pss_nilD
  | a :: r, ms, h => by
    unfold smsOf at h
    obtain ⟨m, h1, h⟩ := Option.bind_eq_some_iff.mp h
    obtain ⟨ms', h2, h⟩ := Option.bind_eq_some_iff.mp h
    cases h
    exact pss_consD (hf _ _ h1) (sms_ok hf h2)
end
theorem soundS : ∀ (n : Nat) (c : Cs) (lev : Nat) (X : Cx) (e : Ent), XOk c lev e.K e.T X → PassesOwn (model X.prog X.w) X.A X.env X.xe → ∀ st m, compS n c st = some m → PS X st (tS e (wpS m))
  | 0, c, lev, X, e, o, hp, st, m, h => by cases h
  | n + 1, c, lev, X, e, o, hp, st, m, h => by
    have ih := soundS n c lev X e o hp
    have hf := (sound n).1 c lev X e o
    have hft := (sound n).2 c lev X e o
    have hN : X.N.Nodup := by rw [o.N]; exact o.nd
    unfold compS at h
    split at h
    · exact set_ok o h
    · exact par_ok o h
    · split at h
      · cases h
      · rename_i hb
        rw [Bool.or_eq_true, not_or] at hb
        obtain ⟨is, h1, h⟩ := Option.bind_eq_some_iff.mp h
        obtain ⟨mm, h2, h⟩ := Option.bind_eq_some_iff.mp h
        cases h
        obtain ⟨q1, q2, q3⟩ := nms_ok o h1
        exact ps_setsD o.kk (ps_asg (hf _ _ h2) (pg_tup o.calm q1 q2 q3) (sole_plain (by simpa using hb.1)) (swapped_plain (by simpa using hb.2)) rfl) (te := tW e (wpE mm))
    · exact put_ok o h
    · exact mth_ok o h
    · split at h
      · cases h
      · rename_i hb
        obtain ⟨mm, h2, h⟩ := Option.bind_eq_some_iff.mp h
        cases h
        exact ps_exD (hf _ _ h2) (swap_plain (by simpa using hb))
    · obtain ⟨mm, h2, h⟩ := Option.bind_eq_some_iff.mp h
      cases h
      exact ps_retD (hf _ _ h2)
    · cases h
      exact ps_retnD
    · obtain ⟨mt, h1, h⟩ := Option.bind_eq_some_iff.mp h
      obtain ⟨ma, h2, h⟩ := Option.bind_eq_some_iff.mp h
      obtain ⟨mb, h3, h⟩ := Option.bind_eq_some_iff.mp h
      cases h
      exact ps_iffD (hft _ _ h1) (sms_ok ih h2) (sms_ok ih h3)
    · split at h
      · cases h
      · rename_i hb
        obtain ⟨t, h1, h⟩ := Option.bind_eq_some_iff.mp h
        obtain ⟨it, h2, h⟩ := Option.bind_eq_some_iff.mp h
        obtain ⟨mb, h3, h⟩ := Option.bind_eq_some_iff.mp h
        cases h
        exact ps_frD o.kk hp o.calm (it_okS o hf h2) (tg_ok o h1) (pss_U fun e' e1 e2 => sms_ok (soundS n c lev X e' (by rw [e1, e2]; exact o) hp) h3) (setFold_ok (by simpa using hb))
    · obtain ⟨mt, h1, h⟩ := Option.bind_eq_some_iff.mp h
      obtain ⟨mb, h3, h⟩ := Option.bind_eq_some_iff.mp h
      cases h
      exact ps_whilD hp (hft _ _ h1) (sms_ok ih h3)
    · cases h; exact ps_passD
    · cases h; exact ps_brkD
    · cases h; exact ps_contD
    · obtain ⟨i, h1, h⟩ := Option.bind_eq_some_iff.mp h
      obtain ⟨mm, h2, h⟩ := Option.bind_eq_some_iff.mp h
      cases h
      obtain ⟨g1, g2, g3⟩ := Cs.wr_ok o h1
      refine PS.imp (ps_aug hN g1 g2 (hf _ _ h2) ip_add g3) fun D σ H ⟨ρ, S, F, G, Q, s, ⟨a, ha, h⟩, le⟩ => ?_
      obtain ⟨v, hv, rv⟩ := s.val ha
      cases rv
      refine ⟨_, hv, ρ, S, F, G, s, monoE mm h fun d ρ1 S1 ⟨b, ed, q⟩ u F1 G1 H1 s1 r1 x1 => ?_⟩
      subst ed
      cases r1
      rcases q with ⟨_, q⟩ | ⟨z, _⟩
      · exact ⟨_, _, rfl, rfl, le.nx _ _ q F1 G1 _ H1 (s1.setV i (.int _))⟩
      · cases z
    · obtain ⟨i, h1, h⟩ := Option.bind_eq_some_iff.mp h
      obtain ⟨mm, h2, h⟩ := Option.bind_eq_some_iff.mp h
      cases h
      obtain ⟨g1, g2, g3⟩ := Cs.wr_ok o h1
      refine PS.imp (ps_aug hN g1 g2 (hf _ _ h2) ip_sub g3) fun D σ H ⟨ρ, S, F, G, Q, s, ⟨a, ha, h⟩, le⟩ => ?_
      obtain ⟨v, hv, rv⟩ := s.val ha
      cases rv
      refine ⟨_, hv, ρ, S, F, G, s, monoE mm h fun d ρ1 S1 ⟨b, ed, q⟩ u F1 G1 H1 s1 r1 x1 => ?_⟩
      subst ed
      cases r1
      rcases q with ⟨z, _⟩ | ⟨_, q⟩
      · cases z
      · exact ⟨_, _, rfl, rfl, le.nx _ _ q F1 G1 _ H1 (s1.setV i (.int _))⟩
    · cases h
end Py
set_option Elab.async false
set_option linter.all false
set_option maxRecDepth 100000
set_option maxHeartbeats 4000000
/-! A def keeps its contract. -/
namespace Py
open PySem PySem.Spec PyProof.Rows L2 GxR

def startR (n : Nat) (ds : List D) : Ro := ds.map .v ++ List.replicate (n - ds.length) .un
def endsQ (Q : D → Ss → Prop) : EndsD := { nx := fun _ S => Q .non S, rt := Q, bk := fun _ _ => False, ct := fun _ _ => False }
theorem startR_get : ∀ (ds : List D) (n i : Nat) , getS (startR n ds) i = match ds[i]? with | some d => .v d | none => .un
  | [], n, i => by
    unfold startR
    simp only [List.map_nil, List.nil_append, List.getElem?_nil]
    generalize n - 0 = k
    clear n
    induction k generalizing i with
    | zero => rfl
    | succ k ih => cases i with
      | zero => rfl
      | succ i => exact ih i
  | d :: ds, n, 0 => rfl
  | d :: ds, n, i + 1 => by
    have := startR_get ds (n - 1) i
    unfold startR at this ⊢
    simp only [List.map_cons, List.cons_append, List.length_cons, List.getElem?_cons_succ]
    show getS (ds.map .v ++ List.replicate (n - (ds.length + 1)) .un) i = _
    rw [← this]
    congr 3
    omega
theorem start_sr {K : PySem.W.Frag} {T : List Addr} {S : Ss} {F : Hp} {G : Gs} {H : Hp} {N : List Str} {vs : List V} {ds : List D} (g : GR ⟨K, T, H, F, G⟩ S F G H) (r : RpAll K F G vs ds) : SR ⟨K, T, H, F, G⟩ (startR N.length ds) S F G (L2.start N vs) H where
  g := g
  sl := fun i => by
    rw [startR_get]
    cases q : ds[i]? with
    | none => trivial
    | some d =>
      obtain ⟨v, hv, rv⟩ := r.getD q
      refine ⟨v, ?_, rv⟩
      unfold L2.start
      have hi : i < vs.length := (List.getElem?_eq_some_iff.mp hv).1
      rw [List.getElem?_append_left (by simpa using hi), List.getElem?_map, hv]
      rfl
  ap := fun i j a es fs hij h1 => by
    rw [startR_get] at h1
    split at h1 <;> cases h1
  len := by
    unfold startR L2.start
    simp [r.length]
/-- what is known of the module, where defs of level lev are called -/
structure MOk (gl : List (Str × D)) (ct : List (Str × Ct)) (lev : Nat) (P : Program) (w : World) (K : PySem.W.Frag) (mg : Str → Option Value) (base : Heap) (T : List Addr) : Prop where
  gl : ∀ x d, gl.lookup x = some d → ∃ v u, mg x = some u ∧ RelV v u ∧ ∀ F G, Rp K F G v d
  bl : ∀ x ∈ blNames, mg x = none
  fn : ∀ x C, ct.lookup x = some C → ∃ f fd ps, FnOk P w K mg base CX0 lev f fd ps (spC K T C) ∧ mg x = some (.ref f) ∧ PySem.W.keepIn K (.ref f) = true ∧ Binds K fd ps []
theorem fn_okD {gl : List (Str × D)} {ct : List (Str × Ct)} {lev n : Nat} {P : Program} {w : World} {K : PySem.W.Frag} {mg : Str → Option Value} {base : Heap} {T : List Addr} {x qual : Str} {params : Arguments} {body : List Stmt} {scope : Scope} {f : Addr} {fd : FuncData}
    {N ps own bx ce : List Str} {ga : Bool} {C : Ct} {ms : Sms} (M : MOk gl ct lev P w K mg base T) (F : FunD K x qual params body scope [] [] f fd) (S : FnScope N ps scope) (hn : ps.length = C.n) (tab : ga = true → ∃ cd Pt, fd.code = .ref cd ∧ TabB base mg cd Pt ∧ Pt ∈ T)
    (hc : smsOf (compS n ⟨N, scope, gl, ct, own, bx, ce, fun _ => true, ga⟩) body = some ms)
    (hw : ∀ ds S Q, ds.length = C.n → C.run ds S Q → wpSs ms (startR N.length ds) S (endsQ Q)) : FnOk P w K mg base CX0 (lev + 2) f fd ps (spC K T C) := by
  obtain ⟨oc, od, dV, kV, doc, pm, an, cdv, ct', osl, rfl, lk, hcd, _, _⟩ := F.ex
  refine fn_of lk hcd S (fun vs H Q E ⟨S, F, G, ds, Q0, g, r, hl, _⟩ => by rw [r.length, hl, hn]) fun A outer s H vs Q E hr ⟨S0, F0, G0, ds, Q0, g, r, hl, hrun, hpost⟩ => ?_
  have o : XOk ⟨N, scope, gl, ct, own, bx, ce, fun _ => true, ga⟩ lev K T (cxOf CX0 P w K mg base N qual scope f cdv A outer s H E) :=
    ⟨rfl, S.nd, rfl, rfl, rfl, hr.mono (Nat.le_succ _), M.gl, M.bl, M.fn, fun _ _ => rfl, fun h => ⟨hr, by
      obtain ⟨cd, Pt, h1, h2, h3⟩ := tab h
      exact ⟨cd, Pt, h1, h2, h3⟩⟩⟩
  refine ⟨tS ⟨K, T, H, F0, G0⟩ (wpSs ms), sms_ok (soundS n _ lev _ ⟨K, T, H, F0, G0⟩ o (passes_of rfl)) hc, startR N.length ds, S0, F0, G0, endsQ Q0, start_sr g r, hw ds S0 Q0 hl hrun, ⟨?_, ?_, ?_, ?_⟩⟩
  · exact fun ρ S h F G σ H' s => hpost _ _ h _ F G H' ⟨s.g⟩ .non
  · exact fun d S h v ρ F G σ H' s r => hpost _ _ h v F G H' ⟨s.g⟩ r
  · exact fun ρ S h => h.elim
  · exact fun ρ S h => h.elim
/-- a promise for a call, from the contract -/
theorem Ct.le {K : PySem.W.Frag} {T : List Addr} {C C' : Ct} (hn : C'.n = C.n) (h : ∀ ds S Q, C'.run ds S Q → C.run ds S Q) : ∀ vs H Q E, spC K T C' vs H Q E → spC K T C vs H Q E :=
  fun vs H Q E ⟨S, F, G, ds, Q0, g, r, hl, hr, hp⟩ => ⟨S, F, G, ds, Q0, g, r, by rw [hl, hn], h _ _ _ hr, hp⟩
end Py
set_option Elab.async false
set_option linter.all false
set_option maxRecDepth 100000
set_option maxHeartbeats 4000000
/-! A new box of draws. -/
namespace Py
open PySem PySem.Spec PyProof.Rows L2 GxR

section
variable {e : Ent} {S : Ss} {F : Hp} {G : Gs} {H H' : Hp} {q l : Addr}
theorem GR.box (g : GR e S F G H) (k : ∀ b o, H b = some o → H' b = some o) (hq : H q = none) (hl : H l = none) (bx : BoxOk H' (q, l) 0) : GR e (S ++ [.box 0]) F (G ++ [(q, l)]) H' where
  sub := fun a o h => k a o (g.sub a o h)
  base := fun a o h h1 h2 => k a o (g.base a o h h1 h2)
  fnew := g.fnew
  fold := g.fold
  gpre := by
    obtain ⟨x, hx, hn⟩ := g.gpre
    refine ⟨x ++ [(q, l)], by rw [hx, List.append_assoc], fun p hp => ?_⟩
    rcases List.mem_append.mp hp with hp | hp
    · exact hn p hp
    · have : p = (q, l) := by simpa using hp
      subst this
      exact ⟨g.none₀ hq, g.none₀ hl⟩
  slen := by simp [g.slen]
  cells := fun n p c h1 h2 => by
    by_cases hn : n < G.length
    · rw [List.getElem?_append_left hn] at h1
      rw [List.getElem?_append_left (by rw [g.slen]; exact hn)] at h2
      have c0 := g.cells n p c h1 h2
      obtain ⟨⟨o1, q1, _⟩, o2, q2, _⟩ := c0.there
      exact c0.same (Ext.refl _ _) (by rw [q1, k _ _ q1]) (by rw [q2, k _ _ q2])
    · have hl1 := (List.getElem?_eq_some_iff.mp h1).1
      have e1 : n = G.length := by
        simp at hl1
        omega
      subst e1
      rw [List.getElem?_append_right (Nat.le_refl _)] at h1
      rw [← g.slen, List.getElem?_append_right (Nat.le_refl _)] at h2
      simp at h1 h2
      subst h1 h2
      exact bx
  gap := fun i j p r hij h1 h2 => by
    have old : ∀ (n : Nat) (p : Addr × Addr), G[n]? = some p → p.1 ≠ q ∧ p.1 ≠ l ∧ p.2 ≠ q ∧ p.2 ≠ l := fun n p h => by
      have t1 := g.foot_there ⟨p, List.mem_of_getElem? h, .inl rfl⟩
      have t2 := g.foot_there ⟨p, List.mem_of_getElem? h, .inr rfl⟩
      obtain ⟨o1, q1, _⟩ := t1
      obtain ⟨o2, q2, _⟩ := t2
      exact ⟨fun z => (by rw [z, hq] at q1; cases q1), fun z => (by rw [z, hl] at q1; cases q1), fun z => (by rw [z, hq] at q2; cases q2), fun z => (by rw [z, hl] at q2; cases q2)⟩
    have cs : ∀ (n : Nat) (p : Addr × Addr), (G ++ [(q, l)])[n]? = some p → G[n]? = some p ∨ (n = G.length ∧ p = (q, l)) := fun n p h => by
      by_cases hn : n < G.length
      · rw [List.getElem?_append_left hn] at h; exact .inl h
      · have hl1 := (List.getElem?_eq_some_iff.mp h).1
        have e1 : n = G.length := by
          simp at hl1
          omega
        subst e1
        rw [List.getElem?_append_right (Nat.le_refl _)] at h
        simp at h
        exact .inr ⟨rfl, h.symm⟩
    rcases cs i p h1 with a | ⟨a, a'⟩ <;> rcases cs j r h2 with b | ⟨b, b'⟩
    · exact g.gap i j p r hij a b
    · subst b'
      obtain ⟨o1, o2, o3, o4⟩ := old i p a
      exact ⟨o1, o2, o3, o4⟩
    · subst a'
      obtain ⟨o1, o2, o3, o4⟩ := old j r b
      exact ⟨Ne.symm o1, Ne.symm o3, Ne.symm o2, Ne.symm o4⟩
    · exact absurd (a.trans b.symm) hij
  gF := fun p hp => by
    rcases List.mem_append.mp hp with hp | hp
    · exact g.gF p hp
    · have : p = (q, l) := by simpa using hp
      subst this
      exact ⟨g.noneF hq, g.noneF hl⟩
  tabs := fun P hP => by
    obtain ⟨⟨ps, h1, h2⟩, h3⟩ := g.tabs P hP
    exact ⟨⟨ps, k _ _ h1, h2⟩, h3⟩
end
/-- the box of a script -/
def cBox : Ct := ⟨1, fun ds S Q => ∃ ns, ds = [.scr ns] ∧ Q (.obj S.length) (S ++ [.box 0])⟩
theorem box_fn {P : Program} {w : World} {K : PySem.W.Frag} {mg : Str → Option Value} {base : Heap} {T : List Addr} {x qual : Str} {params : Arguments} {scope : Scope} {f : Addr} {fd : FuncData} {k : Nat}
    {p0 p1 p2 p3 p4 p5 p6 p7 p8 p9 p10 p11 p12 : Pos} {j1 j2 j3 : Nat} (bl : ∀ x ∈ blNames, mg x = none)
    (F : FunD K x qual params [.Return (some (.List [.Call (.Name "list" p1) [.Subscript (.Name "script" p2) (.Slice none (some (.Constant (.int 63) j1 p3)) none p4) p5] [] p6, .Constant (.int 0) j2 p7,
      .BinOp (.Constant (.int 4711) j3 p8) .Add (.Call (.Name "len" p9) [.Name "script" p10] [] p11) p12] p0)) p0] scope [] [] f fd)
    (Sc : FnScope ["script"] ["script"] scope) (g1 : scope.names.lookup ("list" : Str) = some .globalImplicit) (g2 : scope.names.lookup ("len" : Str) = some .globalImplicit) (g3 : scope.names.lookup ("script" : Str) = some .local) :
    FnOk P w K mg base CX0 (k + 1) f fd ["script"] (spC K T cBox) := by
  obtain ⟨oc, od, dV, kV, doc, pm, an, cdv, ct', osl, rfl, lk, hcd, _, _⟩ := F.ex
  refine fn_of lk hcd Sc (fun vs H Q E ⟨S, F, G, ds, Q0, g, r, hl, _⟩ => by rw [r.length, hl]; rfl) fun A outer s H vs Q E hr ⟨S0, F0, G0, ds, Q0, g, r, hl, ⟨ns, eds, hq⟩, hpost⟩ => ?_
  subst eds
  cases r with
  | cons r rr =>
    cases rr
    cases r with
    | @scr a _ hs =>
      have pv : ∀ (p : Pos), PE (cxOf CX0 P w K mg base ["script"] qual scope f cdv A outer s H E) (.Name "script" p) (tVar 0) := fun p => pe_var rfl (.inl g3) (by decide) (by decide)
      refine ⟨_, pss_one (ps_ret (pe_lst (pa_cons (pe_callTy call_list_of g1 (bl _ (by decide)) boot_list (pa_cons (pe_slice sl_list (pv p2) po_none (po_some pe_int)) pa_nil)) (pa_cons pe_int (pa_cons (pe_op (rAny_ok (binaryOp .Add)) pe_int (pe_callB call_len_seq g2 (bl _ (by decide)) PySem.boot_len (pa_cons (pv p10) pa_nil))) pa_nil))))), ?_⟩
      have hs0 : SqL K H a (ns.map V.int) := SqL.ext g.sub hs
      refine ⟨.ref a, rfl, 63, rfl, a, _, rfl, hs0, fun p hp => ⟨p, _, rfl, .inl (.of upd_same), fun l hl => ?_⟩⟩
      have k1 : ∀ b o, H b = some o → upd (upd H p (.lst (cutV (ns.map V.int) none (some 63)))) l (.lst (cutV (ns.map V.int) none (some 63))) b = some o := fun b o h => by
        have h1 : upd H p (.lst (cutV (ns.map V.int) none (some 63))) b = some o := by rw [upd_ne (ne_of_none h hp)]; exact h
        rw [upd_ne (ne_of_none h1 hl)]; exact h1
      refine ⟨.ref a, rfl, a, _, rfl, .inl (SqL.ext k1 hs0), ⟨_, op_add, 4711, _, rfl, rfl, ?_⟩⟩
      refine ⟨by show 3 ≤ sizeLine; decide, fun q hq2 => ?_⟩
      have hl0 : H l = none := by
        cases z : H l with
        | none => rfl
        | some o =>
          have h1 : upd H p (.lst (cutV (ns.map V.int) none (some 63))) l = some o := by rw [upd_ne (ne_of_none z hp)]; exact z
          rw [h1] at hl; cases hl
      have hq0 : H q = none := by
        cases z : H q with
        | none => rfl
        | some o => rw [k1 q o z] at hq2; cases hq2
      have hql : l ≠ q := fun z => by
        rw [← z, upd_same] at hq2
        cases hq2
      have ec : cutV (ns.map V.int) none (some 63) = ((ns.drop (HT.sIx ns.length 0 none)).take (HT.sIx ns.length ns.length (some 63) - HT.sIx ns.length 0 none)).map V.int := by
        unfold cutV
        rw [List.length_map, List.map_take, List.map_drop]
      refine hpost _ _ hq (.ref q) F0 (G0 ++ [(q, l)]) _ ⟨(GR.box (q := q) (l := l) g (fun b o h => ?_) hq0 hl0 ⟨(ns.drop (HT.sIx ns.length 0 none)).take (HT.sIx ns.length ns.length (some 63) - HT.sIx ns.length 0 none), 0, _, Nat.zero_le _, upd_same, ?_, Ne.symm hql, Int.le_refl _, ?_⟩)⟩ (.obj (p := (q, l)) ?_)
      · have h1 := k1 b o h
        rw [upd_ne (ne_of_none h1 hq2)]; exact h1
      · rw [upd_ne hql, upd_same, ec]
      · omega
      · rw [g.slen]; simp
end Py
set_option Elab.async false
set_option linter.all false
set_option maxRecDepth 100000
set_option maxHeartbeats 4000000
/-! The draws keep their contracts. -/
namespace Py
open PySem PySem.Spec PyProof.Rows L2 GxR

/-- a number from the box: at least 0 -/
def cLoad : Ct := ⟨1, fun ds S Q => ∃ n, ds = [.obj n] ∧ S[n]? = some (.box 0) ∧ ∀ d : Int, 0 ≤ d → Q (.int d) S⟩
/-- a number under many -/
def cDraw : Ct := ⟨2, fun ds S Q => ∃ (n : Nat) (m : Int), ds = [.obj n, .int m] ∧ S[n]? = some (.box 0) ∧ 0 < m ∧ m < 1073741824 ∧ ∀ d : Int, 0 ≤ d → d < m → Q (.int d) S⟩
def mDraw : Sms := (.cons (.iff (.of (.cmp .Lt (.bx 0 1) (.var 1))) (.cons (.bxw 0 (.call "_law_load" cLoad (.cons (.var 0) .nil))) .nil) .nil) (.cons (.set 2 (.bin .Mod (.bc .int (.cons (.bx 0 1) .nil)) (.var 1))) (.cons (.bxw 0 (.bin .FloorDiv (.bx 0 1) (.var 1))) (.cons (.ret (.var 2)) .nil))))
theorem draw_wp (ds : List D) (S : Ss) (Q : D → Ss → Prop) (hl : ds.length = cDraw.n) (h : cDraw.run ds S Q) : wpSs mDraw (startR 3 ds) S (endsQ Q) := by
  obtain ⟨n, m, e, hS, h0, h1, hq⟩ := h
  subst e
  have tail : ∀ ρ : Ro, getS ρ 0 = .v (.obj n) → getS ρ 1 = .v (.int m) → 2 < ρ.length → wpSs (.cons (.set 2 (.bin .Mod (.bc .int (.cons (.bx 0 1) .nil)) (.var 1))) (.cons (.bxw 0 (.bin .FloorDiv (.bx 0 1) (.var 1))) (.cons (.ret (.var 2)) .nil))) ρ S (endsQ Q) := by
    intro ρ g0 g1 gl
    have g0' : ∀ x, getS (ρ.set 2 x) 0 = .v (.obj n) := fun x => by rw [getS_set, if_neg (by omega)]; exact g0
    have g1' : ∀ x, getS (ρ.set 2 x) 1 = .v (.int m) := fun x => by rw [getS_set, if_neg (by omega)]; exact g1
    have g2' : ∀ x, getS (ρ.set 2 x) 2 = x := fun x => by rw [getS_set, if_pos ⟨rfl, gl⟩]
    refine ⟨n, 0, g0, hS, .inr ⟨.inl rfl, fun d hd => ⟨trivial, ?_⟩⟩⟩
    simp only [wpE, g1, wpSs, wpS, wpEs]
    refine ⟨h0, n, 0, g0' _, hS, .inr ⟨.inl trivial, fun d2 hd2 => ?_⟩⟩
    rw [g1']
    refine ⟨⟨h0, h1⟩, d2 / m, n, 0, rfl, Int.ediv_nonneg hd2 (by omega), g0' _, hS, ?_⟩
    rw [g2']
    exact hq _ (Int.emod_nonneg _ (by omega)) (Int.emod_lt_of_pos _ h0)
  refine ⟨n, 0, rfl, hS, .inr ⟨.inl rfl, fun d hd => ⟨trivial, ⟨trivial, ?_⟩⟩⟩⟩
  show if decide (d < m) = true then _ else _
  split
  · refine ⟨rfl, _, ⟨n, rfl, hS, fun d hd => ?_⟩, fun d S' z => z⟩
    exact ⟨d, n, 0, rfl, hd, rfl, hS, tail _ rfl rfl (Nat.lt_succ_self 2)⟩
  · exact tail _ rfl rfl (Nat.lt_succ_self 2)
def mLoad : Sms := (.cons (.set 1 (.bx 0 0)) (.cons (.iff (.of (.cmp .Gt (.bxl 1) (.int 0))) (.cons (.set 4 (.bc .int (.cons (.bxp 1) .nil))) (.cons (.set 5 (.ite (.of (.cmp .GtE (.var 4) (.int 0))) (.bin .Mult (.int 2) (.var 4)) (.bin .Sub (.bin .Mult (.neg (.int 2)) (.var 4)) (.int 1)))) (.cons (.iff (.of (.cmp .GtE (.var 5) (.int 1000000000000000000))) (.cons (.ret (.var 5)) .nil) .nil) (.cons (.bxw 0 (.bin .Mod (.bc .int (.cons (.bin .Add (.bin .Add (.bin .Mult (.bx 0 2) (.int 69621)) (.bin .Mult (.var 5) (.int 48271))) (.int 11)) .nil)) (.int 2147483647))) .nil)))) .nil) (.cons (.set 2 (.bin .Mod (.bc .int (.cons (.bin .Add (.bin .Mult (.bx 0 2) (.int 48271)) (.int 17)) .nil)) (.int 2147483629))) (.cons (.set 3 (.bin .Mod (.bc .int (.cons (.bin .Add (.bin .Mult (.var 2) (.int 69621)) (.int 5)) .nil)) (.int 2147483587))) (.cons (.bxw 0 (.bin .Mod (.bc .int (.cons (.bin .Add (.bin .Mult (.var 3) (.int 40692)) (.int 3)) .nil)) (.int 2147483563))) (.cons (.ret (.bin .Add (.bin .Add (.bin .Mult (.var 2) (.int 4611686014132420609)) (.bin .Mult (.var 3) (.int 2147483647))) (.bx 0 2))) .nil))))))
theorem cmul {i : Int} {k : Int} (h : -(2 ^ 64) < k ∧ k < 2 ^ 64) : CMul i k := .inr h
theorem set_box {S : Ss} {n k : Nat} {c : Cell} (h : S[n]? = some c) : (S.set n (.box k))[n]? = some (.box k) := by
  rw [List.getElem?_set, if_pos rfl, if_pos (List.getElem?_eq_some_iff.mp h).1]
theorem set_same {S : Ss} {n : Nat} {c : Cell} (h : S[n]? = some c) : S.set n c = S := by
  apply List.ext_getElem?
  intro m
  rw [List.getElem?_set]
  by_cases hm : n = m
  · subst hm
    rw [if_pos rfl, if_pos (List.getElem?_eq_some_iff.mp h).1, h]
  · rw [if_neg hm]
theorem set_set {S : Ss} {n : Nat} {c d : Cell} : (S.set n c).set n d = S.set n d := by simp
theorem load_wp (ds : List D) (S : Ss) (Q : D → Ss → Prop) (hl : ds.length = cLoad.n) (h : cLoad.run ds S Q) : wpSs mLoad (startR 6 ds) S (endsQ Q) := by
  obtain ⟨n, e, hS, hq⟩ := h
  subst e
  have tail : ∀ (ρ : Ro), getS ρ 0 = .v (.obj n) → ρ.length = 6 → wpSs (.cons (.set 2 (.bin .Mod (.bc .int (.cons (.bin .Add (.bin .Mult (.bx 0 2) (.int 48271)) (.int 17)) .nil)) (.int 2147483629))) (.cons (.set 3 (.bin .Mod (.bc .int (.cons (.bin .Add (.bin .Mult (.var 2) (.int 69621)) (.int 5)) .nil)) (.int 2147483587))) (.cons (.bxw 0 (.bin .Mod (.bc .int (.cons (.bin .Add (.bin .Mult (.var 3) (.int 40692)) (.int 3)) .nil)) (.int 2147483563))) (.cons (.ret (.bin .Add (.bin .Add (.bin .Mult (.var 2) (.int 4611686014132420609)) (.bin .Mult (.var 3) (.int 2147483647))) (.bx 0 2))) .nil)))) ρ S (endsQ Q) := by
    intro ρ g0 gl
    refine ⟨n, 0, g0, hS, .inr ⟨.inr rfl, fun d hd => ⟨cmul (by decide), trivial, trivial, by decide, ?_⟩⟩⟩
    have g2 : getS (ρ.set 2 (.v (.int ((d * 48271 + 17) % 2147483629)))) 2 = .v (.int ((d * 48271 + 17) % 2147483629)) := by rw [getS_set, if_pos ⟨rfl, by omega⟩]
    generalize hf : (d * 48271 + 17) % 2147483629 = f at *
    have hf0 : 0 ≤ f := by omega
    simp only [wpSs, wpS, wpE, wpEs, g2, hf]
    refine ⟨cmul (by decide), trivial, trivial, by decide, ?_⟩
    generalize hs : (f * 69621 + 5) % 2147483587 = t at *
    have hs0 : 0 ≤ t := by omega
    have g3 : getS ((ρ.set 2 (.v (.int f))).set 3 (.v (.int t))) 3 = .v (.int t) := by rw [getS_set, if_pos ⟨rfl, by simp; omega⟩]
    have g30 : getS ((ρ.set 2 (.v (.int f))).set 3 (.v (.int t))) 0 = .v (.obj n) := by rw [getS_set, if_neg (by omega), getS_set, if_neg (by omega)]; exact g0
    have g32 : getS ((ρ.set 2 (.v (.int f))).set 3 (.v (.int t))) 2 = .v (.int f) := by rw [getS_set, if_neg (by omega)]; exact g2
    simp only [g3, hs]
    refine ⟨cmul (by decide), trivial, trivial, by decide, _, n, 0, rfl, by omega, g30, hS, ?_⟩
    simp only [g32, g3]
    refine ⟨cmul (by decide), cmul (by decide), trivial, n, 0, g30, hS, .inr ⟨.inr trivial, fun u hu => ⟨trivial, hq _ ?_⟩⟩⟩
    omega
  refine ⟨n, 0, rfl, hS, .inl ⟨rfl, ?_⟩⟩
  refine ⟨n, 0, rfl, hS, fun m => ⟨trivial, ⟨trivial, ?_⟩⟩⟩
  show if decide (0 < (m : Int)) = true then _ else _
  split
  · rename_i hm
    have hm : 0 < m := by simpa using hm
    refine ⟨n, m, rfl, set_box hS, hm, fun z => ⟨trivial, ?_⟩⟩
    have e1 : (S.set n (.box m)).set n (.box 0) = S := by rw [set_set, set_same hS]
    rw [e1]
    have rest : ∀ sz : Int, 0 ≤ sz → wpSs (.cons (.iff (.of (.cmp .GtE (.var 5) (.int 1000000000000000000))) (.cons (.ret (.var 5)) .nil) .nil) (.cons (.bxw 0 (.bin .Mod (.bc .int (.cons (.bin .Add (.bin .Add (.bin .Mult (.bx 0 2) (.int 69621)) (.bin .Mult (.var 5) (.int 48271))) (.int 11)) .nil)) (.int 2147483647))) .nil)) [.v (.obj n), .v (.cel n), .un, .un, .v (.int z), .v (.int sz)] S { endsQ Q with nx := fun ρ1 S1 => wpSs (.cons (.set 2 (.bin .Mod (.bc .int (.cons (.bin .Add (.bin .Mult (.bx 0 2) (.int 48271)) (.int 17)) .nil)) (.int 2147483629))) (.cons (.set 3 (.bin .Mod (.bc .int (.cons (.bin .Add (.bin .Mult (.var 2) (.int 69621)) (.int 5)) .nil)) (.int 2147483587))) (.cons (.bxw 0 (.bin .Mod (.bc .int (.cons (.bin .Add (.bin .Mult (.var 3) (.int 40692)) (.int 3)) .nil)) (.int 2147483563))) (.cons (.ret (.bin .Add (.bin .Add (.bin .Mult (.var 2) (.int 4611686014132420609)) (.bin .Mult (.var 3) (.int 2147483647))) (.bx 0 2))) .nil)))) ρ1 S1 (endsQ Q) } := by
      intro sz hz
      refine ⟨trivial, ⟨trivial, ?_⟩⟩
      show if decide ((1000000000000000000 : Int) ≤ sz) = true then _ else _
      split
      · exact hq _ hz
      · refine ⟨n, 0, rfl, hS, .inr ⟨.inr rfl, fun d hd => ⟨cmul (by decide), cmul (by decide), trivial, trivial, trivial, by decide, _, n, 0, rfl, by omega, rfl, hS, ?_⟩⟩⟩
        exact tail _ rfl rfl
    refine ⟨trivial, ⟨trivial, ?_⟩⟩
    show if decide ((0 : Int) ≤ z) = true then _ else _
    split
    · rename_i hz
      have hz : 0 ≤ z := by simpa using hz
      exact ⟨.inl ⟨by decide, by decide⟩, rest (2 * z) (by omega)⟩
    · rename_i hz
      have hz : z < 0 := by simpa using hz
      refine ⟨2, rfl, .inl ⟨by decide, by decide⟩, trivial, rest (-2 * z - 1) (by omega)⟩
  · rename_i hm
    have hm : m = 0 := by
      have : ¬ 0 < (m : Int) := by simpa using hm
      omega
    subst hm
    show wpSs _ _ (S.set n (.box 0)) _
    rw [set_same hS]
    exact tail _ rfl rfl
end Py
set_option Elab.async false
set_option linter.all false
set_option maxRecDepth 100000
set_option maxHeartbeats 4000000
/-! How one goes through loops, comprehensions, generator expressions. -/
namespace Py
open PySem PySem.Spec PyProof.Rows L2 GxR

structure EndsD.Im (Q Q' : EndsD) : Prop where
  nx : ∀ ρ S, Q.nx ρ S → Q'.nx ρ S
  rt : ∀ d S, Q.rt d S → Q'.rt d S
  bk : ∀ ρ S, Q.bk ρ S → Q'.bk ρ S
  ct : ∀ ρ S, Q.ct ρ S → Q'.ct ρ S
theorem frW_mono {tg} {b : Ro → Ss → EndsD → Prop} (hg : MonoG tg) (hb : ∀ ρ S (Q Q' : EndsD), b ρ S Q → Q.Im Q' → b ρ S Q') : ∀ (xs : List D) {ρ S} {Q Q' : EndsD}, frW tg b xs ρ S Q → Q.Im Q' → frW tg b xs ρ S Q'
  | [], ρ, S, Q, Q', h, k => k.nx _ _ h
  | x :: xs, ρ, S, Q, Q', h, k => hg _ _ _ _ h fun ρ1 h1 => hb _ _ _ _ h1 ⟨fun ρ2 S2 q => frW_mono hg hb xs q k, k.rt, k.nx, fun ρ2 S2 q => frW_mono hg hb xs q k⟩
theorem mG (t : Tg) : MonoG (tgW t) := fun _ _ _ _ a b => tgW_mono a b
mutual
theorem monoS : ∀ (m : Sm) {ρ S} {Q Q' : EndsD}, wpS m ρ S Q → Q.Im Q' → wpS m ρ S Q'
  | .set i e, ρ, S, Q, Q', h, k => monoE e h fun _ _ _ q => k.nx _ _ q
  | .setL i l, ρ, S, Q, Q', h, k => wpL_mono l _ _ _ _ h fun _ _ _ q => k.nx _ _ q
  | .sets is e, ρ, S, Q, Q', h, k => monoE e h fun _ _ _ ⟨ds, e1, e2, q⟩ => ⟨ds, e1, e2, k.nx _ _ q⟩
  | .pars is ps, ρ, S, Q, Q', h, k => wpPs_mono ps _ _ _ _ h fun _ _ _ q => k.nx _ _ q
  | .ex e, ρ, S, Q, Q', h, k => monoE e h fun _ _ _ q => k.nx _ _ q
  | .app i e, ρ, S, Q, Q', h, k => ⟨h.1, monoE e h.2 fun _ _ _ ⟨ds, e1, e2, q⟩ => ⟨ds, e1, e2, k.nx _ _ q⟩⟩
  | .ext i e, ρ, S, Q, Q', h, k => ⟨h.1, monoE e h.2 fun _ _ _ ⟨ds, es, e1, e2, e3, q⟩ => ⟨ds, es, e1, e2, e3, k.nx _ _ q⟩⟩
  | .ret e, ρ, S, Q, Q', h, k => monoE e h fun _ _ _ q => k.rt _ _ q
  | .retn, ρ, S, Q, Q', h, k => k.rt _ _ h
  | .iff t a b, ρ, S, Q, Q', h, k => monoT t h fun c ρ1 S1 q => mono_if q (fun q => monoSs a q k) (fun q => monoSs b q k)
  | .fr t it b, ρ, S, Q, Q', h, k => monoI it h fun items ρ1 S1 q => frW_mono (b := wpSs b) (mG t) (fun _ _ _ _ a c => monoSs b a c) items q k
  | .whil t b, ρ, S, Q, Q', ⟨I, h0, h⟩, k => ⟨I, h0, fun m ρ S im => monoT t (h m ρ S im) fun c ρ1 S1 q => mono_if q (fun q => monoSs b q ⟨fun _ _ h => h, k.rt, k.nx, fun _ _ h => h⟩) (fun q => k.nx _ _ q)⟩
  | .pass, ρ, S, Q, Q', h, k => k.nx _ _ h
  | .brk, ρ, S, Q, Q', h, k => k.bk _ _ h
  | .cont, ρ, S, Q, Q', h, k => k.ct _ _ h
  | .aug o i e, ρ, S, Q, Q', ⟨a, h0, h⟩, k => ⟨a, h0, monoE e h fun _ _ _ ⟨b, e1, q⟩ => ⟨b, e1, q.imp (fun ⟨z, q⟩ => ⟨z, k.nx _ _ q⟩) (fun ⟨z, q⟩ => ⟨z, k.nx _ _ q⟩)⟩⟩
  | .bxw i e, ρ, S, Q, Q', h, k => monoE e h fun _ _ _ ⟨z, n, j, e1, e2, e3, e4, q⟩ => ⟨z, n, j, e1, e2, e3, e4, k.nx _ _ q⟩
  | .put i b e, ρ, S, Q, Q', h, k => monoE e h fun _ _ _ ⟨h1, h2⟩ => ⟨h1, monoE b h2 fun _ _ _ ⟨ds, j, e1, e2, e3, e4, q⟩ => ⟨ds, j, e1, e2, e3, e4, k.nx _ _ q⟩⟩
theorem monoSs : ∀ (m : Sms) {ρ S} {Q Q' : EndsD}, wpSs m ρ S Q → Q.Im Q' → wpSs m ρ S Q'
  | .nil, ρ, S, Q, Q', h, k => k.nx _ _ h
  | .cons s r, ρ, S, Q, Q', h, k => monoS s h ⟨fun ρ1 S1 q => monoSs r q k, k.rt, k.bk, k.ct⟩
end
/-- a for, by an invariant of what is left -/
theorem fr_ok {t : Tg} {ms : Sms} {Q : EndsD} (I : List D → Ro → Ss → Prop) : ∀ (items : List D) {ρ S}, I items ρ S →
    (∀ x xs ρ S, I (x :: xs) ρ S → tgW t x ρ fun ρ1 => wpSs ms ρ1 S { nx := I xs, ct := I xs, bk := Q.nx, rt := Q.rt }) → (∀ ρ S, I [] ρ S → Q.nx ρ S) → frW (tgW t) (wpSs ms) items ρ S Q
  | [], ρ, S, h, step, done => done _ _ h
  | x :: xs, ρ, S, h, step, done => tgW_mono (step x xs ρ S h) fun ρ1 q => monoSs ms q ⟨fun ρ2 S2 q => fr_ok I xs q step done, fun _ _ h => h, fun _ _ h => h, fun ρ2 S2 q => fr_ok I xs q step done⟩

/-! ### slots of blocks -/
theorem wipeR_length (ρ : Ro) : ∀ vs : List Nat, (wipeR ρ vs).length = ρ.length
  | [] => rfl
  | v :: vs => by show ((wipeR ρ vs).set v .un).length = _; rw [List.length_set, wipeR_length ρ vs]
theorem wipeR_get (ρ : Ro) (i : Nat) : ∀ vs : List Nat, getS (wipeR ρ vs) i = if i ∈ vs then .un else getS ρ i
  | [] => by simp [wipeR]
  | v :: vs => by
    show getS ((wipeR ρ vs).set v .un) i = _
    rw [getS_set, wipeR_get ρ i vs, wipeR_length]
    by_cases h : v = i
    · subst h
      by_cases h2 : v < ρ.length
      · simp [h2]
      · have : getS ρ v = .un := by
          cases q : getS ρ v with
          | un => rfl
          | _ => exact absurd (getS_lt (by rw [q]; intro z; cases z)) h2
        simp [h2, this]
    · simp [h, Ne.symm h, eq_comm]
theorem ro_ext : ∀ {a b : Ro}, a.length = b.length → (∀ i, getS a i = getS b i) → a = b
  | [], [], _, _ => rfl
  | x :: a, y :: b, hl, h => by
    have h0 : x = y := h 0
    rw [h0, ro_ext (by simpa using hl) fun i => h (i + 1)]
  | [], _ :: _, hl, _ => by cases hl
  | _ :: _, [], hl, _ => by cases hl
theorem back_same {ρ1 ρ' : Ro} {vs : List Nat} (h : wipeR ρ' vs = wipeR ρ1 vs) : backR ρ1 ρ' vs = ρ1 := by
  have hl : ρ'.length = ρ1.length := by rw [← wipeR_length ρ' vs, h, wipeR_length]
  refine ro_ext (by rw [backR_length, hl]) fun i => ?_
  rw [backR_get]
  by_cases c : i ∈ vs ∧ i < ρ'.length
  · rw [if_pos c]
  · rw [if_neg c]
    by_cases m : i ∈ vs
    · have h1 : ∀ ρ : Ro, ρ.length ≤ i → getS ρ i = .un := fun ρ hi => by
        cases q : getS ρ i with
        | un => rfl
        | _ => exact absurd (getS_lt (by rw [q]; intro z; cases z)) (by omega)
      have : ρ'.length ≤ i := by
        by_cases q : i < ρ'.length
        · exact absurd ⟨m, q⟩ c
        · omega
      rw [h1 _ this, h1 _ (by omega)]
    · have e := congrArg (getS · i) h
      simp only [wipeR_get, if_neg m] at e
      exact e
inductive All2 {α β : Type} (R : α → β → Prop) : List α → List β → Prop
  | nil : All2 R [] []
  | cons {a b as bs} : R a b → All2 R as bs → All2 R (a :: as) (b :: bs)
theorem All2.map {α β : Type} {f : α → β} : ∀ {as : List α} {bs : List β}, All2 (fun a b => b = f a) as bs → bs = as.map f
  | _, _, .nil => rfl
  | _, _, .cons h r => by rw [h, All2.map r]; rfl
theorem All2.length {α β : Type} {R : α → β → Prop} : ∀ {as : List α} {bs : List β}, All2 R as bs → as.length = bs.length
  | _, _, .nil => rfl
  | _, _, .cons h r => by simp [All2.length r]
/-- a list comprehension whose element leaves all as it is -/
theorem lc_rel {t : Tg} {ts : Ts} {elt : E} {vs : List Nat} {ρ1 : Ro} {S : Ss} {Q : KL} (p : D → Bool) (R : D → D → Prop) :
    ∀ (items acc : List D) (ρ : Ro), wipeR ρ vs = wipeR ρ1 vs → acc.length + items.length ≤ sizeLine →
    (∀ x ∈ items, tgW t x (wipeR ρ1 vs) fun ρ => wpTs ts ρ S fun b ρ2 S2 => S2 = S ∧ wipeR ρ2 vs = wipeR ρ1 vs ∧ b = p x ∧ (p x = true → wpE elt ρ2 S fun y ρ3 S3 => R x y ∧ S3 = S ∧ wipeR ρ3 vs = wipeR ρ1 vs)) →
    (∀ ys, All2 R (items.filter p) ys → Q (acc ++ ys) ρ1 S) → lcW (fun d r => tgW t d (wipeR r vs)) (wpTs ts) (wpE elt) items acc ρ S fun ds ρ2 S2 => Q ds (backR ρ1 ρ2 vs) S2
  | [], acc, ρ, hw, hl, h, hq => by
    show Q acc (backR ρ1 ρ vs) S
    rw [back_same hw]
    have := hq [] .nil
    rwa [List.append_nil] at this
  | x :: xs, acc, ρ, hw, hl, h, hq => by
    show tgW t x (wipeR ρ vs) _
    rw [hw]
    refine tgW_mono (h x (List.mem_cons_self ..)) fun ρ' h1 => monoTs ts h1 fun b ρ2 S2 ⟨e1, e2, e3, h2⟩ => ?_
    subst e1 e3
    by_cases hp : p x = true
    · rw [if_pos hp]
      refine monoE elt (h2 hp) fun y ρ3 S3 ⟨r, e4, e5⟩ => ?_
      subst e4
      simp only [List.length_cons] at hl
      refine ⟨by omega, lc_rel p R xs (acc ++ [y]) ρ3 e5 (by simp; omega) (fun z hz => h z (List.mem_cons_of_mem _ hz)) fun ys a => ?_⟩
      have := hq (y :: ys) (by rw [List.filter_cons_of_pos hp]; exact .cons r a)
      simpa using this
    · rw [if_neg hp]
      simp only [List.length_cons] at hl
      refine lc_rel p R xs acc ρ2 e2 (by omega) (fun z hz => h z (List.mem_cons_of_mem _ hz)) fun ys a => ?_
      exact hq ys (by rw [List.filter_cons_of_neg hp]; exact a)
/-- all or any of a generator expression whose element leaves all as it is -/
theorem gn_rel {c : Bool} {t : Tg} {elt : E} {vs : List Nat} {ρ1 : Ro} {S : Ss} {Q : KD} (p : D → Bool) :
    ∀ (items : List D) (ρ : Ro), wipeR ρ vs = wipeR ρ1 vs →
    (∀ x ∈ items, tgW t x (wipeR ρ1 vs) fun ρ => wpE elt ρ S fun y ρ3 S3 => y = .bl (p x) ∧ S3 = S ∧ wipeR ρ3 vs = wipeR ρ1 vs) →
    Q (.bl (if c = true then items.all p else items.any p)) ρ1 S → gnW c (fun d r => tgW t d (wipeR r vs)) (wpE elt) items ρ S fun d ρ2 S2 => Q d (backR ρ1 ρ2 vs) S2
  | [], ρ, hw, h, hq => by
    show Q (.bl c) (backR ρ1 ρ vs) S
    rw [back_same hw]
    cases c <;> exact hq
  | x :: xs, ρ, hw, h, hq => by
    show tgW t x (wipeR ρ vs) _
    rw [hw]
    refine tgW_mono (h x (List.mem_cons_self ..)) fun ρ' h1 => monoE elt h1 fun y ρ3 S3 ⟨e1, e2, e3⟩ => ⟨p x, e1, ?_⟩
    subst e2
    by_cases hp : p x = c
    · rw [if_pos hp]
      refine gn_rel p xs ρ3 e3 (fun z hz => h z (List.mem_cons_of_mem _ hz)) ?_
      rw [List.all_cons, List.any_cons, hp] at hq
      cases c <;> simpa using hq
    · rw [if_neg hp]
      show Q (.bl (p x)) (backR ρ1 ρ3 vs) _
      rw [back_same e3]
      have : p x = !c := by cases c <;> cases q : p x <;> simp_all
      rw [List.all_cons, List.any_cons, this] at hq
      rw [this]
      cases c <;> simpa using hq
end Py
set_option Elab.async false
set_option linter.all false
set_option maxRecDepth 100000
set_option maxHeartbeats 4000000
/-! _law_same. -/
namespace Py
open PySem PySem.Spec PyProof.Rows L2 GxR
mutual
def eqD : D → D → Bool
  | .non, .non => true
  | .bl a, .bl b => a == b
  | .int a, .int b => a == b
  | .str a, .str b => a == b
  | .tup a, .tup b => eqDs a b
  | .lst a, .lst b => eqDs a b
  | _, _ => false
def eqDs : List D → List D → Bool
  | [], [] => true
  | a :: as, b :: bs => eqD a b && eqDs as bs
  | _, _ => false
end
/-- data of depth under k -/
def szD : Nat → D → Prop
  | 0, _ => False
  | _ + 1, .non => True
  | _ + 1, .bl _ => True
  | _ + 1, .int _ => True
  | _ + 1, .str x => PyData.strOk x = true
  | k + 1, .tup ds => ds.length ≤ 1000000 ∧ ∀ d ∈ ds, szD k d
  | k + 1, .lst ds => ds.length ≤ 1000000 ∧ ∀ d ∈ ds, szD k d
  | _ + 1, _ => False
def cSame (k : Nat) : Ct := ⟨2, fun ds S Q => ∃ a b, ds = [a, b] ∧ szD k a ∧ szD k b ∧ Q (.bl (eqD a b)) S⟩
def mSame (C : Ct) : Sms := (.cons (.iff (.bop false (.cons (.bop true (.cons (.of (.isi (.var 0) "tuple")) (.cons (.of (.isi (.var 1) "tuple")) .nil))) (.cons (.bop true (.cons (.of (.isi (.var 0) "list")) (.cons (.of (.isi (.var 1) "list")) .nil))) .nil))) (.cons (.ret (.bop true (.cons (.cmp .Eq (.leno 0) (.leno 1)) (.cons (.bc .all (.cons (.comp (.call "_law_same" C (.cons (.ixo 0 (.var 2)) (.cons (.ixo 1 (.var 2)) .nil))) (.name 2) (.range1 (.leno 0)) .nil [("k", 2)]) .nil)) .nil)))) .nil) .nil) (.cons (.iff (.bop false (.cons (.of (.isi (.var 0) "bool")) (.cons (.of (.isi (.var 1) "bool")) .nil))) (.cons (.ret (.bop true (.cons (.isi (.var 0) "bool") (.cons (.isi (.var 1) "bool") (.cons (.cmp .Eq (.var 0) (.var 1)) .nil))))) .nil) .nil) (.cons (.iff (.bop false (.cons (.bop true (.cons (.of (.isi (.var 0) "int")) (.cons (.of (.isi (.var 1) "int")) .nil))) (.cons (.bop true (.cons (.of (.isi (.var 0) "str")) (.cons (.of (.isi (.var 1) "str")) .nil))) .nil))) (.cons (.ret (.cmp .Eq (.var 0) (.var 1))) .nil) .nil) (.cons (.ret (.bop true (.cons (.cmp .Is (.var 0) .non) (.cons (.cmp .Is (.var 1) .non) .nil)))) .nil))))
theorem eq_intW {i j : Int} {Q : Bool → Prop} (h : Q (i == j)) : optW (cmpV .Eq (.int i) (.int j)) Q := ⟨⟨rfl, rfl⟩, by
  have : PyData.eqv (.int i) (.int j) = (i == j) := by
    first
      | rfl
      | simp [PyData.eqv]
  rw [this]; exact h⟩
theorem eq_blW {i j : Bool} {Q : Bool → Prop} (h : Q (i == j)) : optW (cmpV .Eq (.bl i) (.bl j)) Q := ⟨⟨rfl, rfl⟩, by
  have : PyData.eqv (.bool i) (.bool j) = (i == j) := by
    cases i <;> cases j <;> rfl
  rw [this]; exact h⟩
theorem eq_strW {i j : Str} {Q : Bool → Prop} (hi : PyData.strOk i = true) (hj : PyData.strOk j = true) (h : Q (i == j)) : optW (cmpV .Eq (.str i) (.str j)) Q := ⟨⟨by simp [SeqAt.shaped, PyData.canLay0, PyData.depth]; try exact hi, by simp [SeqAt.shaped, PyData.canLay0, PyData.depth]; try exact hj⟩, by
  have : PyData.eqv (.str i) (.str j) = (i == j) := by
    first
      | rfl
      | simp [PyData.eqv]
  rw [this]; exact h⟩
theorem filter_true {α : Type} : ∀ l : List α, (l.filter fun _ => true) = l
  | [] => rfl
  | a :: r => by rw [List.filter_cons_of_pos rfl, filter_true r]
theorem boolsD_map {α : Type} (f : α → Bool) : ∀ l : List α, boolsD (l.map fun x => .bl (f x)) = some (l.map f)
  | [] => rfl
  | a :: r => by
    show (boolsD (r.map fun x => .bl (f x))).map (f a :: ·) = _
    rw [boolsD_map f r]; rfl
theorem eqDs_zip : ∀ (xs ys : List D), xs.length = ys.length → eqDs xs ys = (List.zipWith eqD xs ys).all id
  | [], [], _ => rfl
  | x :: xs, y :: ys, h => by
    show (eqD x y && eqDs xs ys) = _
    rw [eqDs_zip xs ys (by simpa using h)]; rfl
  | [], _ :: _, h => by cases h
  | _ :: _, [], h => by cases h
theorem eqDs_len : ∀ (xs ys : List D), xs.length ≠ ys.length → eqDs xs ys = false
  | [], [], h => absurd rfl h
  | x :: xs, y :: ys, h => by
    show (eqD x y && eqDs xs ys) = _
    rw [eqDs_len xs ys (by simpa using h), Bool.and_false]
  | [], _ :: _, h => rfl
  | _ :: _, [], h => rfl
/-- a place of data -/
def nthD (xs : List D) : D → D
  | .int k => xs.getD k.toNat .non
  | _ => .non
theorem rangeD_map {α : Type} (f : D → α) (g : Nat → α) (h : ∀ k : Nat, f (.int k) = g k) : ∀ (n lo : Nat), (rangeD lo n).map f = (List.range' lo n).map g
  | 0, _ => rfl
  | n + 1, lo => by
    show f (.int lo) :: (rangeD ((lo : Int) + 1) n).map f = g lo :: (List.range' (lo + 1) n).map g
    have e : ((lo : Int) + 1) = ((lo + 1 : Nat) : Int) := by omega
    rw [h lo, e, rangeD_map f g h n (lo + 1)]
theorem zip_range (xs ys : List D) (hl : xs.length = ys.length) : (rangeD 0 xs.length).map (fun x => eqD (nthD xs x) (nthD ys x)) = List.zipWith eqD xs ys := by
  have := rangeD_map (fun x => eqD (nthD xs x) (nthD ys x)) (fun k => eqD (xs.getD k .non) (ys.getD k .non)) (fun k => by simp [nthD]) xs.length 0
  rw [show ((0 : Nat) : Int) = 0 from rfl] at this
  rw [this]
  apply List.ext_getElem?
  intro i
  rw [List.getElem?_map, List.getElem?_zipWith]
  by_cases h : i < xs.length
  · rw [List.getElem?_range' (by omega)]
    have h2 : i < ys.length := by omega
    simp [h, h2]
  · have h2 : ¬ i < ys.length := by omega
    simp [h, h2]
theorem at_nth {xs : List D} {k : Nat} (h : k < xs.length) : atD xs (k : Nat) = some (xs.getD k .non) := by
  unfold atD L2.atI L2.ixN
  rw [if_pos (by omega), if_pos (by omega)]
  simp [h]
theorem same_seq (k : Nat) (xs ys : List D) (A B : D) (S : Ss) (Q : D → Ss → Prop) (ha : bcV .len [A] = some (True, .int xs.length)) (hb : bcV .len [B] = some (True, .int ys.length)) (ia : ∀ j : Nat, ixV A (.int j) = someT (atD xs j)) (ib : ∀ j : Nat, ixV B (.int j) = someT (atD ys j))
    (hx : xs.length ≤ 1000000) (sx : ∀ d ∈ xs, szD k d) (sy : ∀ d ∈ ys, szD k d) (hq : Q (.bl (eqDs xs ys)) S) :
    wpE (.bop true (.cons (.cmp .Eq (.leno 0) (.leno 1)) (.cons (.bc .all (.cons (.comp (.call "_law_same" (cSame k) (.cons (.ixo 0 (.var 2)) (.cons (.ixo 1 (.var 2)) .nil))) (.name 2) (.range1 (.leno 0)) .nil [("k", 2)]) .nil)) .nil))) [.v A, .v B, .un] S fun d _ S1 => Q d S1 := by
  refine ⟨A, rfl, ?_⟩
  rw [ha]
  refine ⟨trivial, B, rfl, ?_⟩
  rw [hb]
  refine ⟨trivial, eq_intW ⟨_, rfl, ?_⟩⟩
  by_cases hl : xs.length = ys.length
  · rw [if_pos (beq_iff_eq.mpr (by omega))]
    refine ⟨A, rfl, ?_⟩
    rw [ha]
    refine ⟨trivial, xs.length, rfl, ⟨by omega, by omega⟩, ⟨trivial, trivial⟩, ?_⟩
    refine lc_rel (t := .name 2) (ts := .nil) (elt := .call "_law_same" (cSame k) (.cons (.ixo 0 (.var 2)) (.cons (.ixo 1 (.var 2)) .nil))) (vs := [2]) (ρ1 := [.v A, .v B, .un]) (S := S) (Q := fun ds ρ1 S1 => optW (bcV .all [.lst ds]) fun z => Q z S1) (p := fun _ => true) (fun x y => y = .bl (eqD (nthD xs x) (nthD ys x))) (rangeD 0 (xs.length : Int).toNat) [] _ rfl ?_ (fun x hx' => ?_) fun res a => ?_
    · simp [rangeD_length, sizeLine_eq]; omega
    · obtain ⟨i, hi⟩ := List.mem_iff_getElem?.mp hx'
      obtain ⟨h1, rfl⟩ := rangeD_get _ _ _ _ hi
      have h1 : i < xs.length := by simpa using h1
      rw [Int.zero_add]
      refine ⟨rfl, rfl, rfl, fun _ => ?_⟩
      refine ⟨rfl, A, rfl, ?_⟩
      show optW (ixV A (.int (i : Nat))) _
      rw [ia, at_nth h1]
      refine ⟨trivial, rfl, B, rfl, ?_⟩
      show optW (ixV B (.int (i : Nat))) _
      rw [ib, at_nth (by omega)]
      refine ⟨trivial, rfl, fun d S' => d = .bl (eqD (xs.getD i .non) (ys.getD i .non)) ∧ S' = S, ⟨_, _, rfl, sx _ ?_, sy _ ?_, rfl, rfl⟩, ?_⟩
      · rw [List.getD_eq_getElem?_getD, List.getElem?_eq_getElem h1]; exact List.getElem_mem _
      · rw [List.getD_eq_getElem?_getD, List.getElem?_eq_getElem (by omega)]; exact List.getElem_mem _
      · rintro d S' ⟨rfl, rfl⟩
        exact ⟨by simp [nthD], rfl, rfl⟩
    · rw [filter_true] at a
      have := a.map
      subst this
      show optW (bcV .all [.lst ([] ++ _)]) _
      rw [List.nil_append]
      show optW ((boolsD _).map _) _
      rw [boolsD_map]
      refine ⟨trivial, ?_⟩
      have e := zip_range xs ys hl
      rw [Int.toNat_natCast, e, ← eqDs_zip xs ys hl]
      exact hq
  · rw [if_neg (fun z => hl (by have := beq_iff_eq.mp z; omega))]
    have e : eqDs xs ys = ((xs.length : Int) == (ys.length : Int)) := by
      rw [eqDs_len xs ys hl]
      exact (beq_eq_false_iff_ne.mpr (by omega)).symm
    rw [← e]
    exact hq
theorem same_wp (k : Nat) (ds : List D) (S : Ss) (Q : D → Ss → Prop) (hl : ds.length = 2) (h : (cSame (k + 1)).run ds S Q) : wpSs (mSame (cSame k)) (startR 3 ds) S (endsQ Q) := by
  obtain ⟨a, b, e, ha, hb, hq⟩ := h
  subst e
  cases a with
  | tup xs =>
    cases b with
    | tup ys => exact ⟨true, rfl, trivial, true, rfl, trivial, same_seq k xs ys _ _ S _ rfl rfl (fun _ => rfl) (fun _ => rfl) ha.1 ha.2 hb.2 hq⟩
    | _ =>
      first
        | exact hb.elim
        | (simp [mSame, startR, endsQ, wpSs, wpS, wpE, wpEs, wpT, wpTB, wpB, getS, tyB, tyB.kitB', optW, truV, cmpV, isN]; simpa [eqD] using hq)
  | lst xs =>
    cases b with
    | lst ys => exact ⟨false, rfl, trivial, true, rfl, trivial, true, rfl, trivial, same_seq k xs ys _ _ S _ rfl rfl (fun _ => rfl) (fun _ => rfl) ha.1 ha.2 hb.2 hq⟩
    | _ =>
      first
        | exact hb.elim
        | (simp [mSame, startR, endsQ, wpSs, wpS, wpE, wpEs, wpT, wpTB, wpB, getS, tyB, tyB.kitB', optW, truV, cmpV, isN]; simpa [eqD] using hq)
  | bl x =>
    cases b with
    | bl y => exact ⟨false, rfl, trivial, false, rfl, trivial, true, rfl, trivial, true, rfl, true, rfl, true, rfl, true, rfl, (if_pos rfl).mpr (show optW (cmpV .Eq (.bl x) (.bl y)) (fun z => Q (.bl z) S) from eq_blW hq)⟩
    | _ =>
      first
        | exact hb.elim
        | (simp [mSame, startR, endsQ, wpSs, wpS, wpE, wpEs, wpT, wpTB, wpB, getS, tyB, tyB.kitB', optW, truV, cmpV, isN]; simpa [eqD] using hq)
  | int x =>
    cases b with
    | int y => exact ⟨false, rfl, trivial, false, rfl, trivial, false, rfl, trivial, false, rfl, trivial, true, rfl, trivial, true, rfl, trivial, (show optW (cmpV .Eq (.int x) (.int y)) (fun z => Q (.bl z) S) from eq_intW hq)⟩
    | _ =>
      first
        | exact hb.elim
        | (simp [mSame, startR, endsQ, wpSs, wpS, wpE, wpEs, wpT, wpTB, wpB, getS, tyB, tyB.kitB', optW, truV, cmpV, isN]; simpa [eqD] using hq)
  | str x =>
    cases b with
    | str y => exact ⟨false, rfl, trivial, false, rfl, trivial, false, rfl, trivial, false, rfl, trivial, false, rfl, trivial, true, rfl, trivial, true, rfl, trivial, (show optW (cmpV .Eq (.str x) (.str y)) (fun z => Q (.bl z) S) from eq_strW ha hb hq)⟩
    | _ =>
      first
        | exact hb.elim
        | (simp [mSame, startR, endsQ, wpSs, wpS, wpE, wpEs, wpT, wpTB, wpB, getS, tyB, tyB.kitB', optW, truV, cmpV, isN]; simpa [eqD] using hq)
  | non =>
    cases b with
    | _ =>
      first
        | exact hb.elim
        | (simp [mSame, startR, endsQ, wpSs, wpS, wpE, wpEs, wpT, wpTB, wpB, getS, tyB, tyB.kitB', optW, truV, cmpV, isN]; simpa [eqD] using hq)
  | _ => exact ha.elim
end Py
set_option Elab.async false
set_option linter.all false
set_option maxRecDepth 100000
set_option maxHeartbeats 4000000
/-! The box of a script, the return's place apart. -/
namespace Py
open PySem PySem.Spec PyProof.Rows L2 GxR

theorem box_fn2 {P : Program} {w : World} {K : PySem.W.Frag} {mg : Str → Option Value} {base : Heap} {T : List Addr} {x qual : Str} {params : Arguments} {scope : Scope} {f : Addr} {fd : FuncData} {k : Nat}
    {p0 p1 p2 p3 p4 p5 p6 p7 p8 p9 p10 p11 p12 p13 : Pos} {j1 j2 j3 : Nat} (bl : ∀ x ∈ blNames, mg x = none)
    (F : FunD K x qual params [.Return (some (.List [.Call (.Name "list" p1) [.Subscript (.Name "script" p2) (.Slice none (some (.Constant (.int 63) j1 p3)) none p4) p5] [] p6, .Constant (.int 0) j2 p7,
      .BinOp (.Constant (.int 4711) j3 p8) .Add (.Call (.Name "len" p9) [.Name "script" p10] [] p11) p12] p0)) p13] scope [] [] f fd)
    (Sc : FnScope ["script"] ["script"] scope) (g1 : scope.names.lookup ("list" : Str) = some .globalImplicit) (g2 : scope.names.lookup ("len" : Str) = some .globalImplicit) (g3 : scope.names.lookup ("script" : Str) = some .local) :
    FnOk P w K mg base CX0 (k + 1) f fd ["script"] (spC K T cBox) := by
  obtain ⟨oc, od, dV, kV, doc, pm, an, cdv, ct', osl, rfl, lk, hcd, _, _⟩ := F.ex
  refine fn_of lk hcd Sc (fun vs H Q E ⟨S, F, G, ds, Q0, g, r, hl, _⟩ => by rw [r.length, hl]; rfl) fun A outer s H vs Q E hr ⟨S0, F0, G0, ds, Q0, g, r, hl, ⟨ns, eds, hq⟩, hpost⟩ => ?_
  subst eds
  cases r with
  | cons r rr =>
    cases rr
    cases r with
    | @scr a _ hs =>
      have pv : ∀ (p : Pos), PE (cxOf CX0 P w K mg base ["script"] qual scope f cdv A outer s H E) (.Name "script" p) (tVar 0) := fun p => pe_var rfl (.inl g3) (by decide) (by decide)
      refine ⟨_, pss_one (ps_ret (pe_lst (pa_cons (pe_callTy call_list_of g1 (bl _ (by decide)) boot_list (pa_cons (pe_slice sl_list (pv p2) po_none (po_some pe_int)) pa_nil)) (pa_cons pe_int (pa_cons (pe_op (rAny_ok (binaryOp .Add)) pe_int (pe_callB call_len_seq g2 (bl _ (by decide)) PySem.boot_len (pa_cons (pv p10) pa_nil))) pa_nil))))), ?_⟩
      have hs0 : SqL K H a (ns.map V.int) := SqL.ext g.sub hs
      refine ⟨.ref a, rfl, 63, rfl, a, _, rfl, hs0, fun p hp => ⟨p, _, rfl, .inl (.of upd_same), fun l hl => ?_⟩⟩
      have k1 : ∀ b o, H b = some o → upd (upd H p (.lst (cutV (ns.map V.int) none (some 63)))) l (.lst (cutV (ns.map V.int) none (some 63))) b = some o := fun b o h => by
        have h1 : upd H p (.lst (cutV (ns.map V.int) none (some 63))) b = some o := by rw [upd_ne (ne_of_none h hp)]; exact h
        rw [upd_ne (ne_of_none h1 hl)]; exact h1
      refine ⟨.ref a, rfl, a, _, rfl, .inl (SqL.ext k1 hs0), ⟨_, op_add, 4711, _, rfl, rfl, ?_⟩⟩
      refine ⟨by show 3 ≤ sizeLine; decide, fun q hq2 => ?_⟩
      have hl0 : H l = none := by
        cases z : H l with
        | none => rfl
        | some o =>
          have h1 : upd H p (.lst (cutV (ns.map V.int) none (some 63))) l = some o := by rw [upd_ne (ne_of_none z hp)]; exact z
          rw [h1] at hl; cases hl
      have hq0 : H q = none := by
        cases z : H q with
        | none => rfl
        | some o => rw [k1 q o z] at hq2; cases hq2
      have hql : l ≠ q := fun z => by
        rw [← z, upd_same] at hq2
        cases hq2
      have ec : cutV (ns.map V.int) none (some 63) = ((ns.drop (HT.sIx ns.length 0 none)).take (HT.sIx ns.length ns.length (some 63) - HT.sIx ns.length 0 none)).map V.int := by
        unfold cutV
        rw [List.length_map, List.map_take, List.map_drop]
      refine hpost _ _ hq (.ref q) F0 (G0 ++ [(q, l)]) _ ⟨(GR.box (q := q) (l := l) g (fun b o h => ?_) hq0 hl0 ⟨(ns.drop (HT.sIx ns.length 0 none)).take (HT.sIx ns.length ns.length (some 63) - HT.sIx ns.length 0 none), 0, _, Nat.zero_le _, upd_same, ?_, Ne.symm hql, Int.le_refl _, ?_⟩)⟩ (.obj (p := (q, l)) ?_)
      · have h1 := k1 b o h
        rw [upd_ne (ne_of_none h1 hq2)]; exact h1
      · rw [upd_ne hql, upd_same, ec]
      · omega
      · rw [g.slen]; simp
end Py
set_option Elab.async false
set_option linter.all false
set_option maxRecDepth 100000
set_option maxHeartbeats 4000000
/-! The module's facts, and a def called by its name. -/
namespace Py
open PySem PySem.Spec PyProof.Rows L2 GxR

def dfs (p : Str × Stmt) : He.DefD := ⟨(p.1, none), p.1, p.1, defArgs p.2, defBody p.2, defScope p.2, [], []⟩
def faOf (gi : List (Str × Int)) (fs : List (Str × Stmt)) : List He.Fa := blNames.map .free ++ (gi.map (fun p => .int p.1 p.2) ++ fs.map fun p => .glo p.1)
def fnOf' (fs : List (Str × Stmt)) : List He.DefD := fs.map dfs
def tfOf (fs : List (Str × Stmt)) : List He.Defn := fs.map fun p => (p.1, none)
def glOf (gi : List (Str × Int)) : List (Str × D) := gi.map fun p => (p.1, .int p.2)
def TOf (K : PySem.W.Frag) (fs : List (Str × Stmt)) : List Addr := (tfOf fs).map fun p => (He.cT K p).2
structure Md (gi : List (Str × Int)) (fs : List (Str × Stmt)) (w : World) (K : PySem.W.Frag) (mg : Str → Option Value) (base : Heap) : Prop where
  X : K.In base
  G : base.Ns mainGlobals mg
  c : He.SaysD (faOf gi fs) (fnOf' fs) K
  tb : ∀ p ∈ (tfOf fs).map (He.cT K), TabB base mg p.1 p.2
def Cal (P : Program) (w : World) (K : PySem.W.Frag) (mg : Str → Option Value) (base : Heap) (T : List Addr) (lev : Nat) (x : Str) (C : Ct) : Prop :=
  ∃ f fd ps, FnOk P w K mg base CX0 lev f fd ps (spC K T C) ∧ mg x = some (.ref f) ∧ PySem.W.keepIn K (.ref f) = true ∧ Binds K fd ps []
theorem Cal.up {P : Program} {w : World} {K : PySem.W.Frag} {mg : Str → Option Value} {base : Heap} {T : List Addr} {lev l' : Nat} {x : Str} {C : Ct} (h : Cal P w K mg base T lev x C) (le : lev ≤ l') : Cal P w K mg base T l' x C :=
  let ⟨f, fd, ps, a, b⟩ := h; ⟨f, fd, ps, a.mono le, b⟩
def CtOk (P : Program) (w : World) (K : PySem.W.Frag) (mg : Str → Option Value) (base : Heap) (T : List Addr) (lev : Nat) : List (Str × Ct) → Prop
  | [] => True
  | (x, C) :: r => Cal P w K mg base T lev x C ∧ CtOk P w K mg base T lev r
theorem CtOk.get {P : Program} {w : World} {K : PySem.W.Frag} {mg : Str → Option Value} {base : Heap} {T : List Addr} {lev : Nat} : ∀ {l : List (Str × Ct)}, CtOk P w K mg base T lev l → ∀ x C, l.lookup x = some C → Cal P w K mg base T lev x C
  | [], _, x, C, h => by cases h
  | (y, D) :: r, ⟨h1, h2⟩, x, C, h => by
    have h3 : (match x == y with | true => some D | false => r.lookup x) = some C := h
    cases q : (x == y) with
    | true =>
      rw [q] at h3
      cases Option.some.inj h3
      rw [beq_iff_eq.mp q]
      exact h1
    | false =>
      rw [q] at h3
      exact h2.get x C h3
theorem glOf_get : ∀ {gi : List (Str × Int)} {x d}, (glOf gi).lookup x = some d → ∃ i, (x, i) ∈ gi ∧ d = .int i
  | [], x, d, h => by cases h
  | (y, i) :: r, x, d, h => by
    have h3 : (match x == y with | true => some (D.int i) | false => (glOf r).lookup x) = some d := h
    cases q : (x == y) with
    | true =>
      rw [q] at h3
      refine ⟨i, ?_, (Option.some.inj h3).symm⟩
      rw [beq_iff_eq.mp q]
      exact List.mem_cons_self ..
    | false =>
      rw [q] at h3
      obtain ⟨j, h4, h5⟩ := glOf_get h3
      exact ⟨j, List.mem_cons_of_mem _ h4, h5⟩
section
variable {gi : List (Str × Int)} {fs : List (Str × Stmt)} {P : Program} {w : World} {K : PySem.W.Frag} {mg : Str → Option Value} {base : Heap}
theorem Md.bl (M : Md gi fs w K mg base) : ∀ x ∈ blNames, mg x = none := fun x hx =>
  He.free_ok M.X M.G (M.c.facts (List.mem_append_left _ (List.mem_map.mpr ⟨x, hx, rfl⟩)))
theorem Md.glo (M : Md gi fs w K mg base) {p : Str × Stmt} (hp : p ∈ fs) : mg p.1 = some (.ref (He.ga K p.1)) :=
  He.glo_ok M.X M.G (M.c.facts (List.mem_append_right _ (List.mem_append_right _ (List.mem_map.mpr ⟨p, hp, rfl⟩))))
theorem Md.gl (M : Md gi fs w K mg base) : ∀ x d, (glOf gi).lookup x = some d → ∃ v u, mg x = some u ∧ RelV v u ∧ ∀ F G, Rp K F G v d := fun x d h => by
  obtain ⟨i, h1, rfl⟩ := glOf_get h
  obtain ⟨t, ht⟩ := He.int_ok M.X M.G (M.c.facts (f := .int x i) (List.mem_append_right _ (List.mem_append_left _ (List.mem_map.mpr ⟨(x, i), h1, rfl⟩))))
  exact ⟨.int i, _, ht, ⟨t, rfl⟩, fun F G => .int i⟩
theorem Md.mok (M : Md gi fs w K mg base) {lev : Nat} {ct : List (Str × Ct)} (h : CtOk P w K mg base (TOf K fs) lev ct) : MOk (glOf gi) ct lev P w K mg base (TOf K fs) :=
  ⟨M.gl, M.bl, h.get⟩
def BindAll (p : Str × Stmt) (ps : List Str) : Prop := ∀ (kV doc pm : Value) (an : Option Addr) (cdv ct : Value) (us : List Value), us.length = ps.length →
  bindArgs (PySem.W.fnOf p.1 p.1 (defArgs p.2) (defBody p.2) (defScope p.2) .none kV doc pm an cdv ct) ⟨us, []⟩ = pure (ps.zip us)
theorem Md.fund (M : Md gi fs w K mg base) {p : Str × Stmt} (hp : p ∈ fs) : ∃ fd, FunD K p.1 p.1 (defArgs p.2) (defBody p.2) (defScope p.2) [] [] (He.ga K p.1) fd :=
  M.c.defs (d := dfs p) (List.mem_map.mpr ⟨p, hp, rfl⟩)
theorem Md.tab (M : Md gi fs w K mg base) {p : Str × Stmt} {fd : FuncData} (hp : p ∈ fs) (F : FunD K p.1 p.1 (defArgs p.2) (defBody p.2) (defScope p.2) [] [] (He.ga K p.1) fd) : ∃ cd Pt, fd.code = .ref cd ∧ TabB base mg cd Pt ∧ Pt ∈ TOf K fs := by
  obtain ⟨oc, od, dV, kV, doc, pm, an, cdv, ct', osl, e, lk, hcd, _, _⟩ := F.ex
  obtain ⟨cd, rfl⟩ := He.codeIn_ref hcd
  have e1 : fd.code = .ref cd := by rw [e]
  have e2 : He.codeOf K (p.1, none) = cd := He.codeOf_eq (p := (p.1, none)) lk e1
  have hm : (p.1, none) ∈ tfOf fs := List.mem_map.mpr ⟨p, hp, rfl⟩
  refine ⟨cd, (He.cT K (p.1, none)).2, e1, ?_, List.mem_map.mpr ⟨_, hm, rfl⟩⟩
  have := M.tb _ (List.mem_map.mpr ⟨_, hm, rfl⟩)
  have e3 : (He.cT K (p.1, none)).1 = cd := e2
  rw [e3] at this
  exact this
theorem Md.cal (M : Md gi fs w K mg base) {lev n : Nat} {ct : List (Str × Ct)} {p : Str × Stmt} {N ps own bx ce : List Str} {ga : Bool} {C : Ct} {ms : Sms} (h : CtOk P w K mg base (TOf K fs) lev ct) (hp : p ∈ fs)
    (S : FnScope N ps (defScope p.2)) (hn : ps.length = C.n) (hb : BindAll p ps)
    (hc : smsOf (compS n ⟨N, defScope p.2, glOf gi, ct, own, bx, ce, fun _ => true, ga⟩) (defBody p.2) = some ms)
    (hw : ∀ ds S Q, ds.length = C.n → C.run ds S Q → wpSs ms (startR N.length ds) S (endsQ Q)) : Cal P w K mg base (TOf K fs) (lev + 2) p.1 C := by
  obtain ⟨fd, F⟩ := M.fund hp
  exact ⟨_, fd, ps, fn_okD (M.mok h) F S hn (fun _ => M.tab hp F) hc hw, M.glo hp, F.kp, F.bindsN hb⟩
/-- nothing is promised -/
theorem Md.no (M : Md gi fs w K mg base) {p : Str × Stmt} {ps : List Str} {C : Ct} (hp : p ∈ fs) (hb : BindAll p ps) (hC : ∀ ds S Q, ¬ C.run ds S Q) : Cal P w K mg base (TOf K fs) 0 p.1 C := by
  obtain ⟨fd, F⟩ := M.fund hp
  exact ⟨_, fd, ps, ⟨fun vs H Q E ⟨S, F, G, ds, Q0, g, r, hl, hr, _⟩ => (hC _ _ _ hr).elim, fun A outer s H args us vs Q E _ _ _ _ ⟨S, F, G, ds, Q0, g, r, hl, hr, _⟩ => (hC _ _ _ hr).elim⟩, M.glo hp, F.kp, F.bindsN hb⟩
end
/-- the objects but the tables -/
def noTbl : Hp → Hp := fun H b => match H b with
  | some (.tbl _) => none
  | o => o
theorem noTbl_of {H : Hp} {a : Addr} {o} (h : noTbl H a = some o) : H a = some o := by
  unfold noTbl at h
  split at h
  · cases h
  · exact h
/-- the end's premise: from the script -/
theorem spC_start {K : PySem.W.Frag} {T : List Addr} {C : Ct} {H : Hp} {a : Addr} {ns : List Int} (hn : C.n = 1) (hT : ∀ P ∈ T, H P = some (.tbl #[])) (hs : SqL K H a (ns.map V.int))
    (hC : ∀ Q : D → Ss → Prop, (∀ S, Q (.bl true) S) → C.run [.scr ns] [] Q) : spC K T C [.ref a] H (fun v _ => v = .bl true) fun _ _ _ => False := by
  have hs2 : SqL K (noTbl H) a (ns.map V.int) := by
    rcases hs with (h | ⟨o, h⟩) | h
    · exact .inl (.inl (by unfold noTbl; rw [h]))
    · exact .inl (.inr ⟨o, by unfold noTbl; rw [h]⟩)
    · exact .inr h
  refine ⟨[], noTbl H, [], [.scr ns], fun d _ => d = .bl true, ⟨fun b o h => noTbl_of h, fun b o h _ _ => h, fun b o h => .inl h, fun b o h => h, ⟨[], rfl, fun p hp => (nomatch hp)⟩, rfl, fun n p c h => (by simp at h), fun i j p q _ h => (by simp at h), fun p hp => (nomatch hp), fun P hP => ⟨⟨#[], hT P hP, (by first | trivial | exact .nil | simp [TriplesOk])⟩, (by unfold noTbl; rw [hT P hP])⟩⟩, .cons (.scr hs2) .nil, hn.symm, hC _ fun S => rfl, ?_⟩
  rintro d S' rfl v F' G' H' _ r
  cases r
  rfl
end Py
set_option Elab.async false
set_option linter.all false
set_option maxRecDepth 100000
set_option maxHeartbeats 4000000
/-! k96: the first defs. -/
namespace Py
open PySem PySem.Spec PyProof.Rows L2 GxR

/-- a value whose type can be asked for -/
def plD : D → Prop
  | .obj _ => False | .scr _ => False | .cel _ => False | _ => True
def numIn : D → Int → Int → Bool
  | .int i, lo, hi => decide (lo ≤ i) && decide (i ≤ hi)
  | _, _, _ => false
def rowIn : D → Int → Int → Bool
  | .tup ds, lo, hi => decide (lo ≤ (ds.length : Int)) && decide ((ds.length : Int) ≤ hi)
  | _, _, _ => false
def cNum : Ct := ⟨3, fun ds S Q => ∃ v lo hi, ds = [v, .int lo, .int hi] ∧ plD v ∧ Q (.bl (numIn v lo hi)) S⟩
def cRow : Ct := ⟨3, fun ds S Q => ∃ v lo hi, ds = [v, .int lo, .int hi] ∧ plD v ∧ Q (.bl (rowIn v lo hi)) S⟩
def mNum : Sms := (.cons (.ret (.bop true (.cons (.isi (.var 0) "int") (.cons (.not (.isi (.var 0) "bool")) (.cons (.chain .LtE .LtE (.var 1) (.var 0) (.var 2)) .nil))))) .nil)
def mRow : Sms := (.cons (.ret (.bop true (.cons (.isi (.var 0) "tuple") (.cons (.chain .LtE .LtE (.var 1) (.leno 0) (.var 2)) .nil)))) .nil)
theorem num_wp (ds : List D) (S : Ss) (Q : D → Ss → Prop) (hl : ds.length = 3) (h : cNum.run ds S Q) : wpSs mNum (startR 3 ds) S (endsQ Q) := by
  obtain ⟨v, lo, hi, e, hp, hq⟩ := h
  subst e
  cases v with
  | int i =>
    simp [mNum, startR, endsQ, wpSs, wpS, wpE, wpEs, wpB, getS, tyB, tyB.kitB', optW, cmpV]
    simp only [numIn] at hq
    split
    · rename_i h1; simpa [h1] using hq
    · rename_i h1; simpa [h1] using hq
  | obj _ => exact hp.elim
  | scr _ => exact hp.elim
  | cel _ => exact hp.elim
  | _ => simp [mNum, startR, endsQ, wpSs, wpS, wpE, wpEs, wpB, getS, tyB, tyB.kitB', optW, cmpV]; simpa [numIn] using hq
theorem row_wp (ds : List D) (S : Ss) (Q : D → Ss → Prop) (hl : ds.length = 3) (h : cRow.run ds S Q) : wpSs mRow (startR 3 ds) S (endsQ Q) := by
  obtain ⟨v, lo, hi, e, hp, hq⟩ := h
  subst e
  cases v with
  | tup i =>
    simp [mRow, startR, endsQ, wpSs, wpS, wpE, wpEs, wpB, getS, tyB, tyB.kitB', optW, cmpV, slD, bcV]
    simp only [rowIn] at hq
    split
    · rename_i h1; simpa [h1] using hq
    · rename_i h1; simpa [h1] using hq
  | obj _ => exact hp.elim
  | scr _ => exact hp.elim
  | cel _ => exact hp.elim
  | _ => simp [mRow, startR, endsQ, wpSs, wpS, wpE, wpEs, wpB, getS, tyB, tyB.kitB', optW, cmpV]; simpa [rowIn] using hq
def pl1 : D → Prop
  | .tup ds => ∀ d ∈ ds, plD d
  | v => plD v
def areW (v : D) : Bool := rowIn v 1 8 && (match v with | .tup ds => ds.all fun d => numIn d 1 64 | _ => true)
def cAre : Ct := ⟨1, fun ds S Q => ∃ v, ds = [v] ∧ pl1 v ∧ Q (.bl (areW v)) S⟩
def mAre : Sms := (.cons (.ret (.bop true (.cons (.call "is_row" cRow (.cons (.var 0) (.cons (.int 1) (.cons (.glo "MOST_LINES" (.int 8)) .nil)))) (.cons (.gen true (.call "is_number" cNum (.cons (.var 1) (.cons (.int 1) (.cons (.glo "MOST_WAIT" (.int 64)) .nil)))) (.name 1) (.of (.var 0)) [("wait", 1)]) .nil)))) .nil)
theorem are_wp (ds : List D) (S : Ss) (Q : D → Ss → Prop) (hl : ds.length = 1) (h : cAre.run ds S Q) : wpSs mAre (startR 2 ds) S (endsQ Q) := by
  obtain ⟨v, e, hp, hq⟩ := h
  subst e
  have pv : plD v := by cases v <;> first | trivial | exact hp
  refine ⟨rfl, fun d S' => d = .bl (rowIn v 1 8) ∧ S' = S, ⟨v, 1, 8, rfl, pv, rfl, rfl⟩, ?_⟩
  rintro d S' ⟨rfl, rfl⟩
  refine ⟨_, rfl, ?_⟩
  by_cases hr : rowIn v 1 8 = true
  · rw [if_pos hr]
    cases v with
    | tup ws =>
      refine ⟨ws, rfl, ⟨trivial, trivial⟩, ?_⟩
      refine gn_rel (c := true) (t := .name 1) (elt := .call "is_number" cNum (.cons (.var 1) (.cons (.int 1) (.cons (.glo "MOST_WAIT" (.int 64)) .nil)))) (vs := [1]) (ρ1 := [.v (.tup ws), .un]) (S := S') (Q := fun d _ S1 => Q d S1) (fun d => numIn d 1 64) ws _ rfl (fun x hx => ?_) ?_
      · refine ⟨rfl, fun d S2 => d = .bl (numIn x 1 64) ∧ S2 = S', ⟨x, 1, 64, rfl, hp x hx, rfl, rfl⟩, ?_⟩
        rintro d S2 ⟨rfl, rfl⟩
        exact ⟨rfl, rfl, rfl⟩
      · simp only [areW, hr, Bool.true_and] at hq
        exact hq
    | _ => cases hr
  · rw [if_neg hr]
    have e : areW v = false := by unfold areW; simp [hr]
    rw [e] at hq
    have e2 : rowIn v 1 8 = false := by simpa using hr
    rw [e2]
    exact hq
end Py
set_option Elab.async false
set_option linter.all false
set_option maxRecDepth 100000
set_option maxHeartbeats 4000000
/-! k96: the waits of turns. -/
namespace Py
open PySem PySem.Spec PyProof.Rows L2 GxR

/-- the places of l, from k -/
def plc (l : Int) : Nat → List Int → List Int
  | _, [] => []
  | k, x :: r => if x = l then (k : Int) :: plc l (k + 1) r else plc l (k + 1) r
def gapsOf (ps : List Int) (n : Nat) : List Int := List.zipWith (fun a b => b - a) ps (ps.tail ++ [ps.headD 0 + n])
def gapF (ns : List Int) (l : Int) : Int := maxI (gapsOf (plc l 0 ns) ns.length)
def dueF (ns : List Int) : List Int := (List.range (maxI ns + 1).toNat).map fun l : Nat => gapF ns (l : Int)
def okT (ns : List Int) : Prop := ns ≠ [] ∧ ns.length ≤ 1000 ∧ 0 ≤ maxI ns ∧ maxI ns < 1000 ∧ ∀ l : Int, 0 ≤ l → l ≤ maxI ns → l ∈ ns
def pairP (l : Int) : D → Bool
  | .tup [_, .int h] => h == l
  | _ => false
def fstD : D → D
  | .tup [a, _] => a
  | d => d
def subD : D → D
  | .tup [.int a, .int b] => .int (b - a)
  | d => d
theorem plc_pairs (l : Int) : ∀ (ns : List Int) (k : Nat), ((pairsD k (ns.map .int)).filter (pairP l)).map fstD = (plc l k ns).map .int
  | [], k => rfl
  | x :: r, k => by
    show ((D.tup [.int (k : Nat), .int x] :: pairsD (k + 1) (r.map .int)).filter (pairP l)).map fstD = _
    unfold plc
    by_cases h : x = l
    · rw [List.filter_cons_of_pos (by simp [pairP, h]), if_pos h, List.map_cons, List.map_cons, plc_pairs l r (k + 1)]
      rfl
    · rw [List.filter_cons_of_neg (by simp [pairP, h]), if_neg h, plc_pairs l r (k + 1)]
theorem pair_mem {ns : List Int} {k : Nat} {x : D} (h : x ∈ pairsD k (ns.map .int)) : ∃ (j : Nat) (v : Int), x = .tup [.int (j : Nat), .int v] := by
  obtain ⟨i, hi⟩ := List.mem_iff_getElem?.mp h
  obtain ⟨c, h1, h2⟩ := pairsD_get _ _ _ _ hi
  rw [List.getElem?_map] at h1
  cases q : ns[i]? with
  | none => rw [q] at h1; cases h1
  | some v => rw [q] at h1; cases h1; exact ⟨_, v, h2⟩
theorem plc_length (l : Int) : ∀ (ns : List Int) (k : Nat), (plc l k ns).length ≤ ns.length
  | [], k => Nat.le_refl _
  | x :: r, k => by
    unfold plc
    split
    · simp [plc_length l r (k + 1)]
    · have := plc_length l r (k + 1); simp; omega
theorem plc_ne {l : Int} : ∀ {ns : List Int} {k : Nat}, l ∈ ns → plc l k ns ≠ []
  | x :: r, k, h => by
    unfold plc
    split
    · simp
    · rename_i hx
      rcases List.mem_cons.mp h with e | e
      · exact absurd e.symm hx
      · exact plc_ne e
theorem cut_tail (ds : List D) : cutD ds (some 1) none = ds.tail := by
  unfold cutD HT.sIx
  cases ds with
  | nil => rfl
  | cons d ds =>
    have h1 : ¬ ((1 : Int) < 0) := by omega
    simp [h1]
    try rw [show min 1 (ds.length + 1) = 1 by omega]
    try simp
theorem zip_sub (ps qs : List Int) : (zipD (ps.map .int) (qs.map .int)).map subD = (List.zipWith (fun a b => b - a) ps qs).map .int := by
  unfold zipD
  rw [List.map_map]
  induction ps generalizing qs with
  | nil => rfl
  | cons p ps ih =>
    cases qs with
    | nil => rfl
    | cons q qs =>
      simp only [List.map_cons, List.zip_cons_cons, List.zipWith_cons_cons]
      rw [ih qs]
      rfl
theorem zip_mem {ps qs : List Int} {x : D} (h : x ∈ zipD (ps.map .int) (qs.map .int)) : ∃ a b : Int, x = .tup [.int a, .int b] := by
  obtain ⟨i, hi⟩ := List.mem_iff_getElem?.mp h
  obtain ⟨c, c', h1, h2, h3⟩ := zipD_get hi
  rw [List.getElem?_map] at h1 h2
  cases q : ps[i]? with
  | none => rw [q] at h1; cases h1
  | some v =>
    cases q2 : qs[i]? with
    | none => rw [q2] at h2; cases h2
    | some w => rw [q] at h1; rw [q2] at h2; cases h1; cases h2; exact ⟨v, w, h3⟩
theorem intsD_map : ∀ ns : List Int, intsD (ns.map .int) = some ns
  | [] => rfl
  | n :: r => by
    show (intsD (r.map .int)).map (n :: ·) = _
    rw [intsD_map r]; rfl
theorem gaps_ne {ps : List Int} {n : Nat} (h : ps ≠ []) : gapsOf ps n ≠ [] := by
  cases ps with
  | nil => exact absurd rfl h
  | cons p ps =>
    unfold gapsOf
    cases ps <;> simp
theorem gaps_length (ps : List Int) (n : Nat) : (gapsOf ps n).length = ps.length := by
  unfold gapsOf
  simp
  omega
def cWaits : Ct := ⟨1, fun ds S Q => ∃ ns, ds = [.tup (ns.map .int)] ∧ okT ns ∧ Q (.tup ((dueF ns).map .int)) S⟩
def comp1 (a b l : Nat) : E := .comp (.var a) (.tup [a, b]) (.enum (.var 0)) (.cons (.of (.cmp .Eq (.var b) (.var l))) .nil) [("k", a), ("here", b)]
def mWaitsB : Sms := (.cons (.set 3 (.comp (.var 5) (.tup [5, 6]) (.enum (.var 0)) (.cons (.of (.cmp .Eq (.var 6) (.var 2))) .nil) [("k", 5), ("here", 6)])) (.cons (.set 4 (.bin .Add (.slo 3 (.so (.int 1)) .no) (.lst (.cons (.bin .Add (.ixo 3 (.int 0)) (.leno 0)) .nil)))) (.cons (.app 1 (.bc .max1 (.cons (.comp (.bin .Sub (.var 8) (.var 7)) (.tup [7, 8]) (.zip (.var 3) (.var 4)) .nil [("one", 7), ("later", 8)]) .nil))) .nil)))
def mWaits : Sms := (.cons (.setL 1 (.lst .nil)) (.cons (.fr (.name 2) (.range1 (.bin .Add (.bc .max1 (.cons (.var 0) .nil)) (.int 1))) mWaitsB) (.cons (.ret (.bc .tuple (.cons (.var 1) .nil))) .nil)))
theorem waits_body {ns : List Int} {l : Int} {fs : List D} {x3 x4 : Sl} {S : Ss} {Q : EndsD} (hn : ns.length ≤ 1000) (hl : l ∈ ns) (hf : fs.length < 1000) (hq : ∀ y3 y4, Q.nx [.v (.tup (ns.map .int)), .own (fs ++ [.int (gapF ns l)]), .v (.int l), y3, y4, .un, .un, .un, .un] S) :
    wpSs mWaitsB [.v (.tup (ns.map .int)), .own fs, .v (.int l), x3, x4, .un, .un, .un, .un] S Q := by
  have hz := sizeLine_eq
  refine ⟨ns.map .int, rfl, ⟨trivial, trivial, trivial⟩, ?_⟩
  have hp := plc_length l ns 0
  have hne := plc_ne (k := 0) hl
  refine lc_rel (t := .tup [5, 6]) (ts := .cons (.of (.cmp .Eq (.var 6) (.var 2))) .nil) (elt := .var 5) (vs := [5, 6]) (ρ1 := [.v (.tup (ns.map .int)), .own fs, .v (.int l), x3, x4, .un, .un, .un, .un]) (S := S)
    (Q := fun ds ρ1 S1 => wpSs _ (ρ1.set 3 (.v (.lst ds))) S1 Q) (pairP l) (fun x y => y = fstD x) (pairsD 0 (ns.map .int)) [] _ rfl (by rw [pairsD_length]; simp; omega) (fun x hx => ?_) fun res a => ?_
  · obtain ⟨j, v, rfl⟩ := pair_mem hx
    exact ⟨rfl, ⟨rfl, rfl⟩, trivial, rfl, rfl, rfl, fun _ => ⟨rfl, rfl, rfl⟩⟩
  · have := a.map
    rw [plc_pairs l ns 0] at this
    subst this
    rw [List.nil_append]
    generalize hps : plc l 0 ns = ps at *
    obtain ⟨p0, pr, rfl⟩ := List.exists_cons_of_ne_nil hne
    refine ⟨rfl, 1, rfl, _, rfl, trivial, ?_⟩
    rw [cut_tail]
    have hix : ixV (.lst ((p0 :: pr).map .int)) (.int 0) = some (True, .int p0) := by
      show someT (atD _ _) = _
      have := at_nth (xs := (p0 :: pr).map D.int) (k := 0) (by simp)
      rw [show ((0 : Nat) : Int) = 0 from rfl] at this
      rw [this]
      rfl
    refine ⟨rfl, _, rfl, ?_⟩
    rw [hix]
    refine ⟨trivial, _, rfl, trivial, trivial, ?_⟩
    refine ⟨by show 1 ≤ sizeLine; omega, ?_⟩
    simp only [List.length_cons] at hp
    refine ⟨⟨by simp; omega, by simp; omega, by simp; omega⟩, ?_⟩
    have e : ((p0 :: pr).map D.int).tail ++ [D.int (p0 + ((ns.map D.int).length : Int))] = ((p0 :: pr).tail ++ [(p0 :: pr).headD 0 + (ns.length : Int)]).map D.int := by simp
    rw [e]
    refine ⟨⟨_, rfl⟩, .inl ⟨_, _, rfl, rfl, ⟨trivial, trivial, trivial⟩, ?_⟩⟩
    refine lc_rel (t := .tup [7, 8]) (ts := .nil) (elt := .bin .Sub (.var 8) (.var 7)) (vs := [7, 8]) (ρ1 := [.v (.tup (ns.map .int)), .own fs, .v (.int l), .v (.lst ((p0 :: pr).map .int)), .v (.lst (((p0 :: pr).tail ++ [(p0 :: pr).headD 0 + (ns.length : Int)]).map D.int)), .un, .un, .un, .un]) (S := S)
      (Q := fun ds ρ1 S1 => optW (bcV .max1 [.lst ds]) fun z => ∃ ds, getS ρ1 1 = .own ds ∧ ds.length < sizeLine ∧ Q.nx (ρ1.set 1 (.own (ds ++ [z]))) S1) (fun _ => true) (fun x y => y = subD x) (zipD ((p0 :: pr).map .int) (((p0 :: pr).tail ++ [(p0 :: pr).headD 0 + (ns.length : Int)]).map D.int)) [] _ rfl ?_ (fun x hx => ?_) fun res a => ?_
    · unfold zipD
      simp
      omega
    · obtain ⟨u, w, rfl⟩ := zip_mem hx
      exact ⟨rfl, rfl, rfl, rfl, fun _ => ⟨trivial, rfl, rfl, rfl⟩⟩
    · rw [filter_true] at a
      have := a.map
      rw [zip_sub] at this
      subst this
      rw [List.nil_append]
      show optW ((intsD _).map _) _
      rw [intsD_map]
      refine ⟨?_, fs, rfl, by omega, ?_⟩
      · exact gaps_ne (ps := p0 :: pr) (n := ns.length) (by simp)
      · have := hq (.v (.lst ((p0 :: pr).map .int))) (.v (.lst (((p0 :: pr).tail ++ [(p0 :: pr).headD 0 + (ns.length : Int)]).map D.int)))
        unfold gapF at this
        rw [hps] at this
        exact this
end Py
set_option Elab.async false
set_option linter.all false
set_option maxRecDepth 100000
set_option maxHeartbeats 4000000
/-! k96: waits_of, do_keep, rest_behind. -/
namespace Py
open PySem PySem.Spec PyProof.Rows L2 GxR

theorem optW_some {α : Type} {o : Option (Prop × α)} {c : Prop} {z : α} {Q : α → Prop} (h : o = some (c, z)) (hc : c) (hq : Q z) : optW o Q := by rw [h]; exact ⟨hc, hq⟩
theorem max1_ints (ns : List Int) : bcV .max1 [.tup (ns.map .int)] = some (ns ≠ [], .int (maxI ns)) := by
  show (intsD (ns.map .int)).map _ = _
  rw [intsD_map]; rfl
theorem rangeD_cons (lo : Int) (n : Nat) : rangeD lo (n + 1) = .int lo :: rangeD (lo + 1) n := rfl
/-- through rangeD, one by one -/
theorem fr_range {t : Tg} {ms : Sms} {Q : EndsD} (n : Nat) (J : Nat → Ro → Ss → Prop) {ρ S} (h0 : J 0 ρ S) (step : ∀ i ρ S, i < n → J i ρ S → tgW t (.int (i : Nat)) ρ fun ρ1 => wpSs ms ρ1 S { nx := J (i + 1), ct := J (i + 1), bk := Q.nx, rt := Q.rt }) (done : ∀ ρ S, J n ρ S → Q.nx ρ S) :
    frW (tgW t) (wpSs ms) (rangeD 0 n) ρ S Q := by
  refine fr_ok (fun xs ρ S => ∃ i, i ≤ n ∧ xs = rangeD (i : Nat) (n - i) ∧ J i ρ S) _ ⟨0, Nat.zero_le _, by simp, h0⟩ (fun x xs ρ S ⟨i, hi, e, j⟩ => ?_) (fun ρ S ⟨i, hi, e, j⟩ => ?_)
  · have hlt : i < n := by
      by_cases q : i < n
      · exact q
      · have : n - i = 0 := by omega
        rw [this] at e
        cases e
    obtain ⟨k, hk⟩ : ∃ k, n - i = k + 1 := ⟨n - i - 1, by omega⟩
    rw [hk, rangeD_cons] at e
    injection e with e1 e2
    subst e1
    have key : ∀ ρ S, J (i + 1) ρ S → ∃ i', i' ≤ n ∧ xs = rangeD (i' : Nat) (n - i') ∧ J i' ρ S := fun ρ S j' => ⟨i + 1, hlt, by
      rw [e2]
      congr 1
      · omega, j'⟩
    exact tgW_mono (step i ρ S hlt j) fun ρ1 q => monoSs ms q ⟨key, fun _ _ h => h, fun _ _ h => h, key⟩
  · have : n - i = 0 := by
      cases q : n - i with
      | zero => rfl
      | succ k => rw [q, rangeD_cons] at e; cases e
    have : i = n := by omega
    subst this
    exact done _ _ j
theorem waits_wp (ds : List D) (S : Ss) (Q : D → Ss → Prop) (hl : ds.length = 1) (h : cWaits.run ds S Q) : wpSs mWaits (startR 9 ds) S (endsQ Q) := by
  obtain ⟨ns, e, ⟨hne, hlen, hm0, hm1, hall⟩, hq⟩ := h
  subst e
  have hz := sizeLine_eq
  have hst : startR 9 [.tup (ns.map .int)] = [.v (.tup (ns.map .int)), .un, .un, .un, .un, .un, .un, .un, .un] := rfl
  rw [hst]
  simp only [mWaits, wpSs, wpS, wpI, wpE, wpEs, wpL, getS, List.set, max1_ints]
  refine ⟨Nat.zero_le _, hne, trivial, _, rfl, ⟨by omega, by omega⟩, ?_⟩
  refine fr_range _ (fun i ρ S' => S' = S ∧ ∃ x2 x3 x4, ρ = [.v (.tup (ns.map .int)), .own (((List.range i).map fun l : Nat => D.int (gapF ns (l : Int)))), x2, x3, x4, .un, .un, .un, .un]) ⟨rfl, .un, .un, .un, rfl⟩ (fun i ρ S' hi ⟨e1, x2, x3, x4, e2⟩ => ?_) fun ρ S' ⟨e1, x2, x3, x4, e2⟩ => ?_
  · subst e1 e2
    refine waits_body hlen (hall _ (by omega) (by omega)) (by simp; omega) fun y3 y4 => ?_
    refine ⟨rfl, .v (.int (i : Nat)), y3, y4, ?_⟩
    rw [List.range_succ, List.map_append]
    rfl
  · subst e1 e2
    refine ⟨trivial, ?_⟩
    have : (List.range (maxI ns + 1).toNat).map (fun l : Nat => D.int (gapF ns (l : Int))) = (dueF ns).map .int := by
      unfold dueF
      rw [List.map_map]
      rfl
    rw [this]
    exact hq
def cKeep : Ct := ⟨2, fun ds S Q => ∃ ns ws, ds = [.tup (ns.map .int), .tup (ws.map .int)] ∧ okT ns ∧ ws.length ≤ 1000 ∧
  Q (.bl (decide ((dueF ns).length = ws.length) && (List.zipWith (fun a b => decide (a ≤ b)) (dueF ns) ws).all id)) S⟩
def mKeep : Sms := (.cons (.set 2 (.call "waits_of" cWaits (.cons (.var 0) .nil))) (.cons (.ret (.bop true (.cons (.cmp .Eq (.leno 2) (.leno 1)) (.cons (.gen true (.cmp .LtE (.var 3) (.var 4)) (.tup [3, 4]) (.zip (.var 2) (.var 1)) [("here", 3), ("wait", 4)]) .nil)))) .nil))
def leP : D → Bool
  | .tup [.int a, .int b] => decide (a ≤ b)
  | _ => false
theorem zip_le (ps qs : List Int) : (zipD (ps.map .int) (qs.map .int)).all leP = (List.zipWith (fun a b => decide (a ≤ b)) ps qs).all id := by
  unfold zipD
  induction ps generalizing qs with
  | nil => rfl
  | cons p ps ih =>
    cases qs with
    | nil => rfl
    | cons q qs =>
      simp only [List.map_cons, List.zip_cons_cons, List.zipWith_cons_cons, List.all_cons]
      rw [ih qs]
      rfl
theorem keep_wp (ds : List D) (S : Ss) (Q : D → Ss → Prop) (hl : ds.length = 2) (h : cKeep.run ds S Q) : wpSs mKeep (startR 5 ds) S (endsQ Q) := by
  obtain ⟨ns, ws, e, hok, hws, hq⟩ := h
  subst e
  refine ⟨rfl, fun d S' => d = .tup ((dueF ns).map .int) ∧ S' = S, ⟨ns, rfl, hok, rfl, rfl⟩, ?_⟩
  rintro d S' ⟨rfl, rfl⟩
  have e1 : (((dueF ns).map D.int).length : Int) = ((dueF ns).length : Int) := by simp
  have e2 : ((ws.map D.int).length : Int) = (ws.length : Int) := by simp
  refine ⟨_, rfl, trivial, _, rfl, trivial, ⟨rfl, rfl⟩, _, rfl, ?_⟩
  show if (((((dueF ns).map D.int).length : Nat) : Int) == (((ws.map D.int).length : Nat) : Int)) = true then _ else _
  rw [e1, e2]
  by_cases hl : (dueF ns).length = ws.length
  · rw [if_pos (beq_iff_eq.mpr (by omega))]
    refine .inr ⟨_, _, rfl, rfl, ⟨trivial, trivial, trivial⟩, ?_⟩
    refine gn_rel (c := true) (t := .tup [3, 4]) (elt := .cmp .LtE (.var 3) (.var 4)) (vs := [3, 4]) (ρ1 := [.v (.tup (ns.map .int)), .v (.tup (ws.map .int)), .v (.tup ((dueF ns).map .int)), .un, .un]) (S := S') (Q := fun d _ S1 => Q d S1) leP (zipD ((dueF ns).map .int) (ws.map .int)) _ rfl (fun x hx => ?_) ?_
    · obtain ⟨u, w, rfl⟩ := zip_mem hx
      exact ⟨rfl, trivial, rfl, rfl, rfl⟩
    · rw [if_pos rfl, zip_le]
      simp only [hl, decide_true, Bool.true_and] at hq
      exact hq
  · rw [if_neg (fun z => hl (by have := beq_iff_eq.mp z; omega))]
    simp only [hl, decide_false, Bool.false_and] at hq
    have : ((((dueF ns).length : Nat) : Int) == ((ws.length : Nat) : Int)) = false := beq_eq_false_iff_ne.mpr (by omega)
    have e3 : PyData.eqv (.int ((dueF ns).length : Nat)) (.int (ws.length : Nat)) = false := this
    rw [e3]
    exact hq
end Py
set_option Elab.async false
set_option linter.all false
set_option maxRecDepth 100000
set_option maxHeartbeats 4000000
/-! k96: rest_behind. -/
namespace Py
open PySem PySem.Spec PyProof.Rows L2 GxR

def blkF (l : Int) : Nat → List Int → Bool
  | _, [] => false
  | k, x :: r => (x == 1 && !((k : Int) == l)) || blkF l (k + 1) r
def nextF (l : Int) (ws : List Int) : Nat → List Int → List Int
  | _, [] => []
  | k, x :: r => (if ((k : Int) == l) = true then ws.getD k 0 else x - 1) :: nextF l ws (k + 1) r
def restD (ws rs : List Int) (l : Int) : D := if blkF l 0 rs = true then .non else .tup ((nextF l ws 0 rs).map .int)
def cRest : Ct := ⟨3, fun ds S Q => ∃ ws rs l, ds = [.tup (ws.map .int), .tup (rs.map .int), .int l] ∧ ws.length = rs.length ∧ rs.length ≤ 1000 ∧ Q (restD ws rs l) S⟩
def blkP (l : Int) : D → Bool
  | .tup [.int k, .int x] => x == 1 && !(k == l)
  | _ => false
def nxtP (l : Int) (ws : List Int) : D → D
  | .tup [.int k, .int x] => if (k == l) = true then .int (ws.getD k.toNat 0) else .int (x - 1)
  | d => d
theorem blk_pairs (l : Int) : ∀ (rs : List Int) (k : Nat), (pairsD k (rs.map .int)).any (blkP l) = blkF l k rs
  | [], k => rfl
  | x :: r, k => by
    show (blkP l (.tup [.int (k : Nat), .int x]) || (pairsD (k + 1) (r.map .int)).any (blkP l)) = _
    rw [blk_pairs l r (k + 1)]
    rfl
theorem nxt_pairs (l : Int) (ws : List Int) : ∀ (rs : List Int) (k : Nat), (pairsD k (rs.map .int)).map (nxtP l ws) = (nextF l ws k rs).map .int
  | [], k => rfl
  | x :: r, k => by
    show nxtP l ws (.tup [.int (k : Nat), .int x]) :: (pairsD (k + 1) (r.map .int)).map (nxtP l ws) = _
    have e : nextF l ws k (x :: r) = (if ((k : Int) == l) = true then ws.getD k 0 else x - 1) :: nextF l ws (k + 1) r := rfl
    rw [nxt_pairs l ws r (k + 1), e, List.map_cons]
    congr 1
    show (if ((k : Int) == l) = true then D.int (ws.getD (k : Int).toNat 0) else D.int (x - 1)) = _
    by_cases h : ((k : Int) == l) = true
    · rw [if_pos h, if_pos h]; rfl
    · rw [if_neg h, if_neg h]
theorem pair_mem2 {ns : List Int} {x : D} (h : x ∈ pairsD 0 (ns.map .int)) : ∃ (j : Nat) (v : Int), x = .tup [.int (j : Nat), .int v] ∧ j < ns.length := by
  obtain ⟨i, hi⟩ := List.mem_iff_getElem?.mp h
  obtain ⟨c, h1, h2⟩ := pairsD_get _ _ _ _ hi
  rw [List.getElem?_map] at h1
  cases q : ns[i]? with
  | none => rw [q] at h1; cases h1
  | some v => rw [q] at h1; cases h1; exact ⟨_, v, h2, by have := (List.getElem?_eq_some_iff.mp q).1; omega⟩
def mRest : Sms := (.cons (.iff (.of (.gen false (.bop true (.cons (.cmp .Eq (.var 4) (.int 1)) (.cons (.cmp .NotEq (.var 3) (.var 2)) .nil))) (.tup [3, 4]) (.enum (.var 1)) [("k", 3), ("left", 4)])) (.cons (.ret .non) .nil) .nil) (.cons (.ret (.bc .tuple (.cons (.comp (.ite (.of (.cmp .Eq (.var 3) (.var 2))) (.ixo 0 (.var 3)) (.bin .Sub (.var 4) (.int 1))) (.tup [3, 4]) (.enum (.var 1)) .nil [("k", 3), ("left", 4)]) .nil))) .nil))
theorem at_ints {ws : List Int} {k : Nat} (h : k < ws.length) : atD (ws.map .int) (k : Nat) = some (.int (ws.getD k 0)) := by
  rw [at_nth (by simpa using h)]
  simp [h]
theorem rest_wp (ds : List D) (S : Ss) (Q : D → Ss → Prop) (hl : ds.length = 3) (h : cRest.run ds S Q) : wpSs mRest (startR 5 ds) S (endsQ Q) := by
  obtain ⟨ws, rs, l, e, hlen, hsz, hq⟩ := h
  subst e
  have hz := sizeLine_eq
  have hst : startR 5 [.tup (ws.map .int), .tup (rs.map .int), .int l] = [.v (.tup (ws.map .int)), .v (.tup (rs.map .int)), .v (.int l), .un, .un] := rfl
  rw [hst]
  refine ⟨rs.map .int, rfl, ⟨trivial, trivial, trivial⟩, ?_⟩
  refine gn_rel (c := false) (t := .tup [3, 4]) (elt := .bop true (.cons (.cmp .Eq (.var 4) (.int 1)) (.cons (.cmp .NotEq (.var 3) (.var 2)) .nil))) (vs := [3, 4]) (ρ1 := [.v (.tup (ws.map .int)), .v (.tup (rs.map .int)), .v (.int l), .un, .un]) (S := S)
    (Q := fun x ρ1 S1 => optW (truV x) fun b => if b = true then wpSs _ ρ1 S1 _ else wpSs _ ρ1 S1 _) (blkP l) (pairsD 0 (rs.map .int)) _ rfl (fun x hx => ?_) ?_
  · obtain ⟨j, v, rfl, hj⟩ := pair_mem2 hx
    refine ⟨rfl, ⟨rfl, rfl⟩, _, rfl, ?_⟩
    by_cases hv : v = 1
    · subst hv
      show if ((1 : Int) == 1) = true then _ else _
      rw [if_pos (by decide)]
      exact ⟨⟨rfl, rfl⟩, rfl, rfl, rfl⟩
    · have hv' : (v == 1) = false := beq_eq_false_iff_ne.mpr hv
      show if (v == 1) = true then _ else _
      rw [hv', if_neg (by decide)]
      refine ⟨?_, rfl, rfl⟩
      show D.bl (v == 1) = .bl (v == 1 && _)
      rw [hv']; rfl
  · rw [if_neg (by decide), blk_pairs l rs 0]
    refine ⟨trivial, ?_⟩
    show if blkF l 0 rs = true then _ else _
    by_cases hb : blkF l 0 rs = true
    · rw [if_pos hb]
      unfold restD at hq
      rw [if_pos hb] at hq
      exact hq
    · rw [if_neg hb]
      unfold restD at hq
      rw [if_neg hb] at hq
      refine ⟨rs.map .int, rfl, ⟨trivial, trivial, trivial⟩, ?_⟩
      refine lc_rel (t := .tup [3, 4]) (ts := .nil) (elt := .ite (.of (.cmp .Eq (.var 3) (.var 2))) (.ixo 0 (.var 3)) (.bin .Sub (.var 4) (.int 1))) (vs := [3, 4]) (ρ1 := [.v (.tup (ws.map .int)), .v (.tup (rs.map .int)), .v (.int l), .un, .un]) (S := S)
        (Q := fun ds ρ1 S1 => optW (bcV .tuple [.lst ds]) fun z => Q z S1) (fun _ => true) (fun x y => y = nxtP l ws x) (pairsD 0 (rs.map .int)) [] _ rfl (by rw [pairsD_length]; simp; omega) (fun x hx => ?_) fun res a => ?_
      · obtain ⟨j, v, rfl, hj⟩ := pair_mem2 hx
        refine ⟨rfl, rfl, rfl, rfl, fun _ => ⟨⟨rfl, rfl⟩, trivial, ?_⟩⟩
        show if ((j : Int) == l) = true then _ else _
        by_cases hk : ((j : Int) == l) = true
        · rw [if_pos hk]
          refine ⟨rfl, _, rfl, optW_some (c := True) (z := .int (ws.getD j 0)) ?_ trivial ⟨?_, rfl, rfl⟩⟩
          · show someT (atD (ws.map .int) (j : Nat)) = _
            rw [at_ints (by omega)]
            rfl
          · show D.int (ws.getD j 0) = if ((j : Int) == l) = true then .int (ws.getD (j : Int).toNat 0) else .int (v - 1)
            rw [if_pos hk]; rfl
        · rw [if_neg hk]
          refine ⟨trivial, ?_, rfl, rfl⟩
          show D.int (v - 1) = if ((j : Int) == l) = true then .int (ws.getD (j : Int).toNat 0) else .int (v - 1)
          rw [if_neg hk]
      · rw [filter_true] at a
        have := a.map
        rw [nxt_pairs l ws rs 0] at this
        subst this
        exact ⟨trivial, hq⟩
end Py
set_option Elab.async false
set_option linter.all false
set_option maxRecDepth 100000
set_option maxHeartbeats 4000000
/-! k96: the law's own rest_behind. -/
namespace Py
open PySem PySem.Spec PyProof.Rows L2 GxR

theorem toPys_ints : ∀ is : List Int, toPys (is.map .int) = some (is.map .int)
  | [] => rfl
  | i :: r => by
    show (match toPy (.int i), toPys (r.map .int) with | some x, some xs => some (x :: xs) | _, _ => none) = _
    rw [toPys_ints r]; rfl
theorem lay_ints : ∀ is : List Int, PyData.canLayAll0 (is.map .int) = true
  | [] => rfl
  | i :: r => by
    show (true && PyData.canLayAll0 (r.map .int)) = true
    rw [lay_ints r]; rfl
theorem depth_ints : ∀ is : List Int, PyData.depth (.list (is.map .int)) ≤ 64
  | [] => by decide
  | i :: r => by
    have := depth_ints r
    simp only [PyData.depth, List.map_cons, PyData.depthAll] at this ⊢
    omega
theorem ne_empty {is : List Int} {Q : Bool → Prop} (h : Q (!is.isEmpty)) : optW (cmpV .NotEq (.lst (is.map .int)) (.lst [])) Q := by
  have e1 : toPy (.lst (is.map .int)) = some (.list (is.map .int)) := by
    show (toPys (is.map .int)).map PyData.list = _
    rw [toPys_ints]; rfl
  have e2 : dEq (.lst (is.map .int)) (.lst []) = some (SeqAt.shaped (.list (is.map .int)) = true ∧ SeqAt.shaped (.list []) = true, PyData.eqv (.list (is.map .int)) (.list [])) := by
    unfold dEq
    rw [e1]; rfl
  have e3 : cmpV .NotEq (.lst (is.map .int)) (.lst []) = some (SeqAt.shaped (.list (is.map .int)) = true ∧ SeqAt.shaped (.list []) = true, !(PyData.eqv (.list (is.map .int)) (.list []))) := by
    show mapB (!·) (dEq _ _) = _
    rw [e2]; rfl
  refine optW_some e3 ⟨?_, by decide⟩ ?_
  · unfold SeqAt.shaped
    rw [Bool.and_eq_true]
    exact ⟨lay_ints is, decide_eq_true (depth_ints is)⟩
  · have : PyData.eqv (.list (is.map .int)) (.list []) = is.isEmpty := by cases is <;> rfl
    rw [this]; exact h
def lblkP (l : Int) (rs : List Int) : D → Bool
  | .int k => !(k == l) && (rs.getD k.toNat 0 == 1)
  | _ => false
def lnxtP (l : Int) (ws rs : List Int) : D → D
  | .int k => if (k == l) = true then .int (ws.getD k.toNat 0) else .int (rs.getD k.toNat 0 - 1)
  | d => d
theorem range_mem {n : Nat} {x : D} (h : x ∈ rangeD 0 n) : ∃ j : Nat, x = .int (j : Nat) ∧ j < n := by
  obtain ⟨i, hi⟩ := List.mem_iff_getElem?.mp h
  obtain ⟨h1, h2⟩ := rangeD_get _ _ _ _ hi
  exact ⟨i, by rw [h2]; simp, h1⟩
theorem drop_cons {rs : List Int} {k : Nat} {x : Int} {r : List Int} (h : rs.drop k = x :: r) : rs.getD k 0 = x ∧ rs.drop (k + 1) = r := by
  have h1 : rs[k]? = some x := by
    have : (rs.drop k)[0]? = some x := by rw [h]; rfl
    simpa using this
  have h2 : rs.drop (k + 1) = r := by
    have : rs.drop (k + 1) = (rs.drop k).drop 1 := by rw [List.drop_drop]
    rw [this, h]
    rfl
  exact ⟨by simp [h1], h2⟩
theorem lblk_range (l : Int) (rs : List Int) : ∀ (r : List Int) (k : Nat), rs.drop k = r → ((rangeD (k : Nat) r.length).filter (lblkP l rs)).isEmpty = !blkF l k r
  | [], k, h => rfl
  | x :: r, k, h => by
    obtain ⟨h1, h2⟩ := drop_cons h
    have ih := lblk_range l rs r (k + 1) h2
    show ((D.int (k : Nat) :: rangeD ((k : Int) + 1) r.length).filter (lblkP l rs)).isEmpty = !((x == 1 && !((k : Int) == l)) || blkF l (k + 1) r)
    have e : lblkP l rs (.int (k : Nat)) = (x == 1 && !((k : Int) == l)) := by
      show (!((k : Int) == l) && (rs.getD (k : Int).toNat 0 == 1)) = _
      rw [Int.toNat_natCast, h1, Bool.and_comm]
    have ek : ((k : Int) + 1) = ((k + 1 : Nat) : Int) := by omega
    cases q : (x == 1 && !((k : Int) == l)) with
    | true => rw [List.filter_cons_of_pos (by rw [e]; exact q)]; rfl
    | false => rw [List.filter_cons_of_neg (by rw [e, q]; decide), ek, ih]; rfl
theorem lnxt_range (l : Int) (ws rs : List Int) : ∀ (r : List Int) (k : Nat), rs.drop k = r → (rangeD (k : Nat) r.length).map (lnxtP l ws rs) = (nextF l ws k r).map .int
  | [], k, h => rfl
  | x :: r, k, h => by
    obtain ⟨h1, h2⟩ := drop_cons h
    have ih := lnxt_range l ws rs r (k + 1) h2
    have ek : ((k : Int) + 1) = ((k + 1 : Nat) : Int) := by omega
    have e : nextF l ws k (x :: r) = (if ((k : Int) == l) = true then ws.getD k 0 else x - 1) :: nextF l ws (k + 1) r := rfl
    show lnxtP l ws rs (.int (k : Nat)) :: (rangeD ((k : Int) + 1) r.length).map (lnxtP l ws rs) = _
    rw [ek, ih, e, List.map_cons]
    congr 1
    show (if ((k : Int) == l) = true then D.int (ws.getD (k : Int).toNat 0) else D.int (rs.getD (k : Int).toNat 0 - 1)) = _
    rw [Int.toNat_natCast, h1]
    by_cases h : ((k : Int) == l) = true
    · rw [if_pos h, if_pos h]
    · rw [if_neg h, if_neg h]
theorem filt_ints {p : D → Bool} : ∀ {n : Nat} {lo : Int}, ∃ is : List Int, (rangeD lo n).filter p = is.map .int
  | 0, lo => ⟨[], rfl⟩
  | n + 1, lo => by
    obtain ⟨is, h⟩ := filt_ints (p := p) (n := n) (lo := lo + 1)
    show ∃ is : List Int, (D.int lo :: rangeD (lo + 1) n).filter p = is.map .int
    by_cases q : p (.int lo) = true
    · exact ⟨lo :: is, by rw [List.filter_cons_of_pos q, h]; rfl⟩
    · exact ⟨is, by rw [List.filter_cons_of_neg q, h]⟩
def mLRest : Sms := (.cons (.iff (.of (.cmp .NotEq (.comp (.var 3) (.name 3) (.range1 (.leno 1)) (.cons (.bop true (.cons (.of (.cmp .NotEq (.var 3) (.var 2))) (.cons (.of (.cmp .Eq (.ixo 1 (.var 3)) (.int 1))) .nil))) .nil) [("k", 3)]) (.lst .nil))) (.cons (.ret .non) .nil) .nil) (.cons (.ret (.bc .tuple (.cons (.comp (.ite (.of (.cmp .Eq (.var 3) (.var 2))) (.ixo 0 (.var 3)) (.bin .Sub (.ixo 1 (.var 3)) (.int 1))) (.name 3) (.range1 (.leno 1)) .nil [("k", 3)]) .nil))) .nil))
theorem lrest_wp (ds : List D) (S : Ss) (Q : D → Ss → Prop) (hl : ds.length = 3) (h : cRest.run ds S Q) : wpSs mLRest (startR 4 ds) S (endsQ Q) := by
  obtain ⟨ws, rs, l, e, hlen, hsz, hq⟩ := h
  subst e
  have hz := sizeLine_eq
  have hst : startR 4 [.tup (ws.map .int), .tup (rs.map .int), .int l] = [.v (.tup (ws.map .int)), .v (.tup (rs.map .int)), .v (.int l), .un] := rfl
  rw [hst]
  have hln : ((rs.map D.int).length : Int) = ((rs.length : Nat) : Int) := by simp
  refine ⟨_, rfl, trivial, _, rfl, ⟨by rw [hln]; omega, by rw [hln]; omega⟩, ⟨trivial, trivial⟩, ?_⟩
  rw [hln, Int.toNat_natCast]
  have e0 : rangeD 0 rs.length = rangeD ((0 : Nat) : Int) rs.length := rfl
  have fix : ∀ j : Nat, j < rs.length → ixV (.tup (rs.map .int)) (.int (j : Nat)) = some (True, .int (rs.getD j 0)) := fun j hj => by
    show someT (atD (rs.map .int) (j : Nat)) = _
    rw [at_ints hj]; rfl
  refine lc_rel (t := .name 3) (ts := .cons (.bop true (.cons (.of (.cmp .NotEq (.var 3) (.var 2))) (.cons (.of (.cmp .Eq (.ixo 1 (.var 3)) (.int 1))) .nil))) .nil) (elt := .var 3) (vs := [3]) (ρ1 := [.v (.tup (ws.map .int)), .v (.tup (rs.map .int)), .v (.int l), .un]) (S := S)
    (Q := fun ds ρ1 S1 => (0 ≤ sizeLine) ∧ optW (cmpV .NotEq (.lst ds) (.lst [])) fun b => (True ∧ if b = true then wpSs _ ρ1 S1 _ else wpSs _ ρ1 S1 _)) (lblkP l rs) (fun x y => y = id x) (rangeD 0 rs.length) [] _ rfl (by rw [rangeD_length]; simp; omega) (fun x hx => ?_) fun res a => ?_
  · obtain ⟨j, rfl, hj⟩ := range_mem hx
    refine ⟨⟨rfl, rfl⟩, trivial, ?_⟩
    by_cases hk : ((j : Int) == l) = true
    · show if (!((j : Int) == l)) = true then _ else _
      rw [hk, if_neg (by decide)]
      refine ⟨rfl, rfl, ?_, fun z => ?_⟩
      · show (!((j : Int) == l)) = (!((j : Int) == l) && _)
        rw [hk]; rfl
      · have z : (!((j : Int) == l) && _) = true := z
        rw [hk] at z; cases z
    · have hk' : ((j : Int) == l) = false := by simpa using hk
      show if (!((j : Int) == l)) = true then _ else _
      rw [hk', if_pos (by decide)]
      refine ⟨rfl, _, rfl, ?_⟩
      rw [fix j hj]
      refine ⟨trivial, ⟨rfl, rfl⟩, trivial, rfl, rfl, ?_, fun _ => ⟨rfl, rfl, rfl⟩⟩
      show (rs.getD j 0 == 1) = (!((j : Int) == l) && (rs.getD (j : Int).toNat 0 == 1))
      rw [hk']; rfl
  · have := a.map
    rw [List.map_id] at this
    subst this
    rw [List.nil_append]
    have hb := lblk_range l rs rs 0 rfl
    rw [← e0] at hb
    obtain ⟨is, his⟩ := filt_ints (p := lblkP l rs) (n := rs.length) (lo := 0)
    rw [his] at hb ⊢
    refine ⟨Nat.zero_le _, ne_empty ⟨trivial, ?_⟩⟩
    have hb2 : (!is.isEmpty) = blkF l 0 rs := by
      rw [← Bool.not_not (b := blkF l 0 rs), ← hb]
      cases is <;> rfl
    rw [hb2]
    by_cases hk : blkF l 0 rs = true
    · rw [if_pos hk]
      unfold restD at hq
      rw [if_pos hk] at hq
      exact hq
    · rw [if_neg hk]
      unfold restD at hq
      rw [if_neg hk] at hq
      refine ⟨_, rfl, trivial, _, rfl, ⟨by rw [hln]; omega, by rw [hln]; omega⟩, ⟨trivial, trivial⟩, ?_⟩
      rw [hln, Int.toNat_natCast]
      refine lc_rel (t := .name 3) (ts := .nil) (elt := .ite (.of (.cmp .Eq (.var 3) (.var 2))) (.ixo 0 (.var 3)) (.bin .Sub (.ixo 1 (.var 3)) (.int 1))) (vs := [3]) (ρ1 := [.v (.tup (ws.map .int)), .v (.tup (rs.map .int)), .v (.int l), .un]) (S := S)
        (Q := fun ds ρ1 S1 => optW (bcV .tuple [.lst ds]) fun z => Q z S1) (fun _ => true) (fun x y => y = lnxtP l ws rs x) (rangeD 0 rs.length) [] _ rfl (by rw [rangeD_length]; simp; omega) (fun x hx => ?_) fun res a => ?_
      · obtain ⟨j, rfl, hj⟩ := range_mem hx
        refine ⟨rfl, rfl, rfl, fun _ => ⟨⟨rfl, rfl⟩, trivial, ?_⟩⟩
        show if ((j : Int) == l) = true then _ else _
        by_cases hk : ((j : Int) == l) = true
        · rw [if_pos hk]
          refine ⟨rfl, _, rfl, optW_some (c := True) (z := .int (ws.getD j 0)) ?_ trivial ⟨?_, rfl, rfl⟩⟩
          · show someT (atD (ws.map .int) (j : Nat)) = _
            rw [at_ints (by omega)]
            rfl
          · show D.int (ws.getD j 0) = if ((j : Int) == l) = true then .int (ws.getD (j : Int).toNat 0) else .int (rs.getD (j : Int).toNat 0 - 1)
            rw [if_pos hk]; rfl
        · rw [if_neg hk]
          refine ⟨rfl, _, rfl, ?_⟩
          rw [fix j hj]
          refine ⟨trivial, trivial, ?_, rfl, rfl⟩
          · show D.int (rs.getD j 0 - 1) = if ((j : Int) == l) = true then .int (ws.getD (j : Int).toNat 0) else .int (rs.getD (j : Int).toNat 0 - 1)
            rw [if_neg hk]; rfl
      · rw [filter_true] at a
        have := a.map
        have e3 := lnxt_range l ws rs rs 0 rfl
        rw [← e0] at e3
        rw [e3] at this
        subst this
        exact ⟨trivial, hq⟩
end Py
set_option Elab.async false
set_option linter.all false
set_option maxRecDepth 100000
set_option maxHeartbeats 4000000
/-! k96: the law's own waits_of. -/
namespace Py
open PySem PySem.Spec PyProof.Rows L2 GxR

/-- from one to the next -/
def dif : List Int → List Int
  | a :: b :: r => (b - a) :: dif (b :: r)
  | _ => []
theorem dif_zip (x : Int) : ∀ (r : List Int) (a : Int), List.zipWith (fun a b => b - a) (a :: r) (r ++ [x]) = dif (a :: (r ++ [x]))
  | [], a => rfl
  | b :: r, a => by
    show (b - a) :: List.zipWith (fun a b => b - a) (b :: r) (r ++ [x]) = (b - a) :: dif (b :: (r ++ [x]))
    rw [dif_zip x r b]
theorem dif_app : ∀ (as : List Int) (b : Int) (cs : List Int), dif (as ++ b :: cs) = dif (as ++ [b]) ++ dif (b :: cs)
  | [], b, cs => rfl
  | [a], b, cs => rfl
  | a :: a' :: as, b, cs => by
    show (a' - a) :: dif (a' :: as ++ b :: cs) = ((a' - a) :: dif (a' :: as ++ [b])) ++ dif (b :: cs)
    rw [dif_app (a' :: as) b cs]; rfl
theorem dif_shift (n : Int) : ∀ ps : List Int, dif (ps.map (· + n)) = dif ps
  | [] => rfl
  | [a] => rfl
  | a :: b :: r => by
    have := dif_shift n (b :: r)
    simp only [List.map_cons] at this
    show ((b + n) - (a + n)) :: dif ((b + n) :: r.map (· + n)) = (b - a) :: dif (b :: r)
    rw [this]
    congr 1
    omega
theorem dif_sub (x : Int) : ∀ (ps : List Int) (z : Int), z ∈ dif ps → z ∈ dif (ps ++ [x])
  | [], z, h => by cases h
  | [a], z, h => by cases h
  | a :: b :: r, z, h => by
    have h : z ∈ (b - a) :: dif (b :: r) := h
    show z ∈ (b - a) :: dif (b :: r ++ [x])
    rcases List.mem_cons.mp h with e | e
    · exact List.mem_cons.mpr (.inl e)
    · exact List.mem_cons.mpr (.inr (dif_sub x (b :: r) z e))
theorem maxI_congr {l l' : List Int} (hne : l ≠ []) (h : ∀ x, x ∈ l ↔ x ∈ l') : maxI l = maxI l' := by
  obtain ⟨h1, h2⟩ := maxI_mem hne
  exact maxI_unique ((h _).mp h1) fun y hy => h2 y ((h y).mpr hy)
theorem plc_shift (l : Int) (n : Nat) : ∀ (ns : List Int) (k : Nat), plc l (k + n) ns = (plc l k ns).map (· + (n : Int))
  | [], k => rfl
  | x :: r, k => by
    have := plc_shift l n r (k + 1)
    unfold plc
    rw [show k + n + 1 = k + 1 + n by omega, this]
    split
    · simp
    · rfl
theorem plc_app (l : Int) (bs : List Int) : ∀ (as : List Int) (k : Nat), plc l k (as ++ bs) = plc l k as ++ plc l (k + as.length) bs
  | [], k => rfl
  | x :: r, k => by
    have := plc_app l bs r (k + 1)
    have e1 : plc l k (x :: r ++ bs) = if x = l then (k : Int) :: plc l (k + 1) (r ++ bs) else plc l (k + 1) (r ++ bs) := rfl
    have e2 : plc l k (x :: r) = if x = l then (k : Int) :: plc l (k + 1) r else plc l (k + 1) r := rfl
    rw [e1, e2, this, show k + 1 + r.length = k + (x :: r).length by simp; omega]
    split <;> rfl
theorem two_eq {ns : List Int} {l : Int} (hl : l ∈ ns) : ∃ u, dif (plc l 0 (ns ++ ns)) = gapsOf (plc l 0 ns) ns.length ++ u ∧ gapsOf (plc l 0 ns) ns.length ≠ [] ∧ ∀ x ∈ u, x ∈ gapsOf (plc l 0 ns) ns.length := by
  rw [plc_app, plc_shift l ns.length ns 0]
  have hne := plc_ne (k := 0) hl
  generalize plc l 0 ns = ps at *
  obtain ⟨a, r, rfl⟩ := List.exists_cons_of_ne_nil hne
  have eg : gapsOf (a :: r) ns.length = dif ((a :: r) ++ [a + ns.length]) := dif_zip _ _ _
  rw [eg]
  refine ⟨dif (a :: r), ?_, by cases r <;> simp [dif], fun x hx => dif_sub _ _ _ hx⟩
  show dif ((a :: r) ++ (a + (ns.length : Int)) :: r.map (· + (ns.length : Int))) = _
  rw [dif_app]
  have es : dif ((a + (ns.length : Int)) :: r.map (· + (ns.length : Int))) = dif (a :: r) := dif_shift _ (a :: r)
  rw [es]
theorem two_ne {ns : List Int} {l : Int} (hl : l ∈ ns) : dif (plc l 0 (ns ++ ns)) ≠ [] := by
  obtain ⟨u, h1, h2, h3⟩ := two_eq hl
  rw [h1]
  exact fun z => h2 (List.append_eq_nil_iff.mp z).1
theorem two_ways {ns : List Int} {l : Int} (hl : l ∈ ns) : maxI (dif (plc l 0 (ns ++ ns))) = gapF ns l := by
  obtain ⟨u, h1, h2, h3⟩ := two_eq hl
  unfold gapF
  refine maxI_congr (two_ne hl) fun x => ?_
  rw [h1, List.mem_append]
  exact ⟨fun h => h.elim id (h3 x), .inl⟩
def atP (two : List Int) (l : Int) : D → Bool
  | .int k => two.getD k.toNat 0 == l
  | _ => false
def difP (P : List Int) : D → D
  | .int k => .int (P.getD (k + 1).toNat 0 - P.getD k.toNat 0)
  | d => d
theorem plc_range (l : Int) (two : List Int) : ∀ (r : List Int) (k : Nat), two.drop k = r → (rangeD (k : Nat) r.length).filter (atP two l) = (plc l k r).map .int
  | [], k, h => rfl
  | x :: r, k, h => by
    obtain ⟨h1, h2⟩ := drop_cons h
    have ih := plc_range l two r (k + 1) h2
    have ek : ((k : Int) + 1) = ((k + 1 : Nat) : Int) := by omega
    have ep : atP two l (.int (k : Nat)) = (x == l) := by
      show (two.getD (k : Int).toNat 0 == l) = _
      rw [Int.toNat_natCast, h1]
    show (D.int (k : Nat) :: rangeD ((k : Int) + 1) r.length).filter (atP two l) = _
    unfold plc
    by_cases hx : x = l
    · rw [List.filter_cons_of_pos (by rw [ep]; simpa using hx), if_pos hx, ek, ih]; rfl
    · rw [List.filter_cons_of_neg (by rw [ep]; simpa using hx), if_neg hx, ek, ih]
theorem dif_range (P : List Int) : ∀ (r : List Int) (a : Int) (k : Nat), P.drop k = a :: r → (rangeD (k : Nat) r.length).map (difP P) = (dif (a :: r)).map .int
  | [], a, k, h => rfl
  | b :: r, a, k, h => by
    obtain ⟨h1, h2⟩ := drop_cons h
    obtain ⟨h3, h4⟩ := drop_cons h2
    have ih := dif_range P r b (k + 1) h2
    have ek : ((k : Int) + 1) = ((k + 1 : Nat) : Int) := by omega
    show difP P (.int (k : Nat)) :: (rangeD ((k : Int) + 1) r.length).map (difP P) = .int (b - a) :: (dif (b :: r)).map .int
    rw [ek, ih]
    congr 1
    show D.int (P.getD ((k : Int) + 1).toNat 0 - P.getD (k : Int).toNat 0) = _
    rw [ek, Int.toNat_natCast, Int.toNat_natCast, h1, h3]
theorem dif_length : ∀ ps : List Int, (dif ps).length ≤ ps.length
  | [] => Nat.le_refl _
  | [a] => Nat.zero_le _
  | a :: b :: r => by
    have := dif_length (b :: r)
    show (dif (b :: r)).length + 1 ≤ _
    simp at this ⊢
    omega
def mLWaitsB : Sms := (.cons (.set 4 (.comp (.var 5) (.name 5) (.range1 (.leno 3)) (.cons (.of (.cmp .Eq (.ixo 3 (.var 5)) (.var 1))) .nil) [("k", 5)])) (.cons (.app 2 (.bc .max1 (.cons (.comp (.bin .Sub (.ixo 4 (.bin .Add (.var 5) (.int 1))) (.ixo 4 (.var 5))) (.name 5) (.range1 (.bin .Sub (.leno 4) (.int 1))) .nil [("k", 5)]) .nil))) .nil))
def mLWaits : Sms := (.cons (.pars [2, 3] [.l (.lst .nil), .v (.bin .Add (.bc .list (.cons (.var 0) .nil)) (.bc .list (.cons (.var 0) .nil)))]) (.cons (.fr (.name 1) (.range1 (.bin .Add (.bc .max1 (.cons (.var 0) .nil)) (.int 1))) mLWaitsB) (.cons (.ret (.bc .tuple (.cons (.var 2) .nil))) .nil)))
theorem lat_ints {ws : List Int} {k : Nat} (h : k < ws.length) : ixV (.lst (ws.map .int)) (.int (k : Nat)) = some (True, .int (ws.getD k 0)) := by
  show someT (atD (ws.map .int) (k : Nat)) = _
  rw [at_ints h]; rfl
theorem lwaits_body {ns : List Int} {l : Int} {fs : List D} {x4 T : Sl} {S : Ss} {Q : EndsD} (hn : ns.length ≤ 1000) (hl : l ∈ ns) (hf : fs.length < 1000) (hq : ∀ y4, Q.nx [T, .v (.int l), .own (fs ++ [.int (gapF ns l)]), .v (.lst ((ns ++ ns).map .int)), y4, .un] S) :
    wpSs mLWaitsB [T, .v (.int l), .own fs, .v (.lst ((ns ++ ns).map .int)), x4, .un] S Q := by
  have hz := sizeLine_eq
  have hp := plc_length l (ns ++ ns) 0
  have h2 := two_ways hl
  have h3 := two_ne hl
  have hne := plc_ne (l := l) (ns := ns ++ ns) (k := 0) (List.mem_append_left _ hl)
  have hr := plc_range l (ns ++ ns) (ns ++ ns) 0 rfl
  have hlen : (ns ++ ns).length ≤ 2000 := by simp; omega
  generalize ns ++ ns = two at *
  have hln : ((two.map D.int).length : Int) = ((two.length : Nat) : Int) := by simp
  refine ⟨_, rfl, trivial, _, rfl, ⟨by rw [hln]; omega, by rw [hln]; omega⟩, ⟨trivial, trivial⟩, ?_⟩
  rw [hln, Int.toNat_natCast]
  refine lc_rel (t := .name 5) (ts := .cons (.of (.cmp .Eq (.ixo 3 (.var 5)) (.var 1))) .nil) (elt := .var 5) (vs := [5]) (ρ1 := [T, .v (.int l), .own fs, .v (.lst (two.map .int)), x4, .un]) (S := S)
    (Q := fun ds ρ1 S1 => wpSs _ (ρ1.set 4 (.v (.lst ds))) S1 Q) (atP two l) (fun x y => y = id x) (rangeD 0 two.length) [] _ rfl (by rw [rangeD_length]; simp; omega) (fun x hx => ?_) fun res a => ?_
  · obtain ⟨j, rfl, hj⟩ := range_mem hx
    refine ⟨rfl, _, rfl, ?_⟩
    rw [lat_ints hj]
    exact ⟨trivial, ⟨rfl, rfl⟩, trivial, rfl, rfl, rfl, fun _ => ⟨rfl, rfl, rfl⟩⟩
  · have := a.map
    rw [List.map_id] at this
    subst this
    have hr : (rangeD 0 two.length).filter (atP two l) = (plc l 0 two).map .int := hr
    rw [hr, List.nil_append]
    generalize hP : plc l 0 two = P at *
    obtain ⟨a, r, rfl⟩ := List.exists_cons_of_ne_nil hne
    have hd := dif_range (a :: r) r a 0 rfl
    have hd : (rangeD 0 r.length).map (difP (a :: r)) = (dif (a :: r)).map .int := hd
    have hPl : ((((a :: r).map D.int).length : Nat) : Int) = ((r.length + 1 : Nat) : Int) := by simp
    simp only [List.length_cons] at hp
    refine ⟨⟨_, rfl⟩, ⟨_, rfl, trivial, trivial, _, rfl, ⟨by rw [hPl]; omega, by rw [hPl]; omega⟩, ⟨trivial, trivial⟩, ?_⟩⟩
    rw [hPl, show (((r.length + 1 : Nat) : Int) - 1).toNat = r.length by omega]
    refine lc_rel (t := .name 5) (ts := .nil) (elt := .bin .Sub (.ixo 4 (.bin .Add (.var 5) (.int 1))) (.ixo 4 (.var 5))) (vs := [5]) (ρ1 := [T, .v (.int l), .own fs, .v (.lst (two.map .int)), .v (.lst ((a :: r).map .int)), .un]) (S := S)
      (Q := fun ds ρ1 S1 => optW (bcV .max1 [.lst ds]) fun z => ∃ ds, getS ρ1 2 = .own ds ∧ ds.length < sizeLine ∧ Q.nx (ρ1.set 2 (.own (ds ++ [z]))) S1) (fun _ => true) (fun x y => y = difP (a :: r) x) (rangeD 0 r.length) [] _ rfl (by rw [rangeD_length]; simp; omega) (fun x hx => ?_) fun res a' => ?_
    · obtain ⟨j, rfl, hj⟩ := range_mem hx
      refine ⟨rfl, rfl, rfl, fun _ => ⟨rfl, trivial, _, rfl, ?_⟩⟩
      rw [show ((j : Int) + 1) = ((j + 1 : Nat) : Int) by omega, lat_ints (by simp; omega)]
      refine ⟨trivial, rfl, _, rfl, ?_⟩
      rw [lat_ints (by simp; omega)]
      refine ⟨trivial, trivial, ?_, rfl, rfl⟩
      show D.int ((a :: r).getD (j + 1) 0 - (a :: r).getD j 0) = D.int ((a :: r).getD ((j : Int) + 1).toNat 0 - (a :: r).getD (j : Int).toNat 0)
      rw [show ((j : Int) + 1) = ((j + 1 : Nat) : Int) by omega, Int.toNat_natCast, Int.toNat_natCast]
    · rw [filter_true] at a'
      have := a'.map
      rw [hd] at this
      subst this
      rw [List.nil_append]
      show optW ((intsD _).map _) _
      rw [intsD_map]
      refine ⟨?_, fs, rfl, by omega, ?_⟩
      · exact h3
      · rw [h2]
        exact hq _
theorem lwaits_wp (ds : List D) (S : Ss) (Q : D → Ss → Prop) (hl : ds.length = 1) (h : cWaits.run ds S Q) : wpSs mLWaits (startR 6 ds) S (endsQ Q) := by
  obtain ⟨ns, e, ⟨hne, hlen, hm0, hm1, hall⟩, hq⟩ := h
  subst e
  have hz := sizeLine_eq
  have hst : startR 6 [.tup (ns.map .int)] = [.v (.tup (ns.map .int)), .un, .un, .un, .un, .un] := rfl
  rw [hst]
  refine ⟨Nat.zero_le _, trivial, trivial, ⟨by simp; omega, by simp; omega, by simp; omega⟩, ?_⟩
  rw [← List.map_append]
  refine optW_some (max1_ints ns) hne ⟨trivial, _, rfl, ⟨by omega, by omega⟩, ?_⟩
  refine fr_range _ (fun i ρ S' => S' = S ∧ ∃ x2 x4, ρ = [.v (.tup (ns.map .int)), x2, .own (((List.range i).map fun l : Nat => D.int (gapF ns (l : Int)))), .v (.lst ((ns ++ ns).map .int)), x4, .un]) ⟨rfl, .un, .un, rfl⟩ (fun i ρ S' hi ⟨e1, x2, x4, e2⟩ => ?_) fun ρ S' ⟨e1, x2, x4, e2⟩ => ?_
  · subst e1 e2
    refine lwaits_body hlen (hall _ (by omega) (by omega)) (by simp; omega) fun y4 => ?_
    refine ⟨rfl, .v (.int (i : Nat)), y4, ?_⟩
    have er : (List.range (i + 1)).map (fun l : Nat => D.int (gapF ns (l : Int))) = (List.range i).map (fun l : Nat => D.int (gapF ns (l : Int))) ++ [.int (gapF ns (i : Nat))] := by
      rw [List.range_succ, List.map_append]; rfl
    rw [er]
  · subst e1 e2
    refine ⟨trivial, ?_⟩
    have : (List.range (maxI ns + 1).toNat).map (fun l : Nat => D.int (gapF ns (l : Int))) = (dueF ns).map .int := by
      unfold dueF
      rw [List.map_map]
      rfl
    rw [this]
    exact hq
end Py
set_option Elab.async false
set_option linter.all false
set_option maxRecDepth 100000
set_option maxHeartbeats 4000000
/-! k96: longest_wait. -/
namespace Py
open PySem PySem.Spec PyProof.Rows L2 GxR

def okT2 (ns : List Int) : Prop := okT ns ∧ maxI ns < 60 ∧ ∀ x ∈ ns, 0 ≤ x
def cLong : Ct := ⟨1, fun ds S Q => ∃ ns, ds = [.tup (ns.map .int)] ∧ okT2 ns ∧ Q (.int (maxI (dueF ns))) S⟩
def gapsL (ns : List Int) (l : Int) : List Int := gapsOf (plc l 0 ns) ns.length
def allGaps (ns : List Int) (ls : List Int) : List Int := ls.flatMap (gapsL ns)
theorem long_math {ns : List Int} (h : okT2 ns) : allGaps ns (ssetI ns) ≠ [] ∧ maxI (allGaps ns (ssetI ns)) = maxI (dueF ns) := by
  obtain ⟨⟨hne, hlen, hm0, hm1, hall⟩, hm2, hnn⟩ := h
  have hd : dueF ns ≠ [] := by
    unfold dueF
    have : (maxI ns + 1).toNat ≠ 0 := by omega
    simp [this]
  obtain ⟨d1, d2⟩ := maxI_mem hd
  obtain ⟨m1, m2⟩ := maxI_mem hne
  unfold dueF at d1
  obtain ⟨l0, hl0, e0⟩ := List.mem_map.mp d1
  have hl0 : l0 < (maxI ns + 1).toNat := List.mem_range.mp hl0
  have hin : (l0 : Int) ∈ ns := hall _ (by omega) (by omega)
  have hg := gaps_ne (n := ns.length) (plc_ne (k := 0) hin)
  have mem : maxI (dueF ns) ∈ allGaps ns (ssetI ns) := by
    refine List.mem_flatMap.mpr ⟨l0, mem_ssetI.mpr hin, ?_⟩
    have : maxI (dueF ns) = gapF ns l0 := by
      unfold dueF
      exact e0.symm
    rw [this]
    exact (maxI_mem hg).1
  refine ⟨fun z => (by rw [z] at mem; cases mem), (maxI_unique mem fun y hy => ?_).symm⟩
  obtain ⟨l, hl, hy⟩ := List.mem_flatMap.mp hy
  have hl := mem_ssetI.mp hl
  have h1 : y ≤ gapF ns l := (maxI_mem (gaps_ne (n := ns.length) (plc_ne (k := 0) hl))).2 y hy
  have h2 : gapF ns l ∈ dueF ns := by
    unfold dueF
    have a := hnn l hl
    have b := m2 l hl
    exact List.mem_map.mpr ⟨l.toNat, List.mem_range.mpr (by omega), by rw [Int.toNat_of_nonneg a]⟩
  have := d2 _ h2
  omega
theorem sset_len {ns : List Int} (h : okT2 ns) : (ssetI ns).length < 64 := by
  obtain ⟨⟨hne, hlen, hm0, hm1, hall⟩, hm2, hnn⟩ := h
  obtain ⟨m1, m2⟩ := maxI_mem hne
  have := nd_len (l := ssetI ns) (l' := (List.range 60).map fun i : Nat => (i : Int)) (pw_nodup pw_ssetI) fun x hx => by
    have hx := mem_ssetI.mp hx
    have a := hnn x hx
    have b := m2 x hx
    exact List.mem_map.mpr ⟨x.toNat, List.mem_range.mpr (by omega), by omega⟩
  simp at this
  omega
def mLongB : Sms := (.cons (.set 3 (.comp (.var 4) (.tup [4, 5]) (.enum (.var 0)) (.cons (.of (.cmp .Eq (.var 5) (.var 2))) .nil) [("k", 4), ("here", 5)])) (.cons (.ext 1 (.comp (.bin .Sub (.var 7) (.var 6)) (.tup [6, 7]) (.zip (.var 3) (.bin .Add (.slo 3 (.so (.int 1)) .no) (.lst (.cons (.bin .Add (.ixo 3 (.int 0)) (.leno 0)) .nil)))) .nil [("one", 6), ("later", 7)])) .nil))
def mLong : Sms := (.cons (.setL 1 (.lst .nil)) (.cons (.fr (.name 2) (.of (.bc .sset (.cons (.var 0) .nil))) mLongB) (.cons (.ret (.bc .max1 (.cons (.var 1) .nil))) .nil)))
theorem long_body {ns : List Int} {l : Int} {fs : List D} {x3 : Sl} {S : Ss} {Q : EndsD} (hn : ns.length ≤ 1000) (hl : l ∈ ns) (hf : fs.length < 1000000) (hq : ∀ y3, Q.nx [.v (.tup (ns.map .int)), .own (fs ++ (gapsL ns l).map .int), .v (.int l), y3, .un, .un, .un, .un] S) :
    wpSs mLongB [.v (.tup (ns.map .int)), .own fs, .v (.int l), x3, .un, .un, .un, .un] S Q := by
  have hz := sizeLine_eq
  refine ⟨ns.map .int, rfl, ⟨trivial, trivial, trivial⟩, ?_⟩
  have hp := plc_length l ns 0
  have hne := plc_ne (k := 0) hl
  refine lc_rel (t := .tup [4, 5]) (ts := .cons (.of (.cmp .Eq (.var 5) (.var 2))) .nil) (elt := .var 4) (vs := [4, 5]) (ρ1 := [.v (.tup (ns.map .int)), .own fs, .v (.int l), x3, .un, .un, .un, .un]) (S := S)
    (Q := fun ds ρ1 S1 => wpSs _ (ρ1.set 3 (.v (.lst ds))) S1 Q) (pairP l) (fun x y => y = fstD x) (pairsD 0 (ns.map .int)) [] _ rfl (by rw [pairsD_length]; simp; omega) (fun x hx => ?_) fun res a => ?_
  · obtain ⟨j, v, rfl⟩ := pair_mem hx
    exact ⟨rfl, ⟨rfl, rfl⟩, trivial, rfl, rfl, rfl, fun _ => ⟨rfl, rfl, rfl⟩⟩
  · have := a.map
    rw [plc_pairs l ns 0] at this
    subst this
    rw [List.nil_append]
    unfold gapsL at hq
    generalize hps : plc l 0 ns = ps at *
    obtain ⟨p0, pr, rfl⟩ := List.exists_cons_of_ne_nil hne
    refine ⟨⟨_, rfl⟩, rfl, 1, rfl, _, rfl, trivial, ?_⟩
    rw [cut_tail]
    have hix : ixV (.lst ((p0 :: pr).map .int)) (.int 0) = some (True, .int p0) := by
      show someT (atD _ _) = _
      have := at_nth (xs := (p0 :: pr).map D.int) (k := 0) (by simp)
      rw [show ((0 : Nat) : Int) = 0 from rfl] at this
      rw [this]
      rfl
    refine ⟨rfl, _, rfl, ?_⟩
    rw [hix]
    refine ⟨trivial, _, rfl, trivial, trivial, ?_⟩
    refine ⟨by show 1 ≤ sizeLine; omega, ?_⟩
    simp only [List.length_cons] at hp
    refine ⟨⟨by simp; omega, by simp; omega, by simp; omega⟩, ?_⟩
    have e : ((p0 :: pr).map D.int).tail ++ [D.int (p0 + ((ns.map D.int).length : Int))] = ((p0 :: pr).tail ++ [(p0 :: pr).headD 0 + (ns.length : Int)]).map D.int := by simp
    rw [e]
    refine .inl ⟨_, _, rfl, rfl, ⟨trivial, trivial, trivial⟩, ?_⟩
    have gl := gaps_length (p0 :: pr) ns.length
    simp only [List.length_cons] at gl
    refine lc_rel (t := .tup [6, 7]) (ts := .nil) (elt := .bin .Sub (.var 7) (.var 6)) (vs := [6, 7]) (ρ1 := [.v (.tup (ns.map .int)), .own fs, .v (.int l), .v (.lst ((p0 :: pr).map .int)), .un, .un, .un, .un]) (S := S)
      (Q := fun ds ρ1 S1 => ∃ ds0 es, getS ρ1 1 = .own ds0 ∧ D.lst ds = .lst es ∧ ds0.length + es.length ≤ sizeLine ∧ Q.nx (ρ1.set 1 (.own (ds0 ++ es))) S1) (fun _ => true) (fun x y => y = subD x) (zipD ((p0 :: pr).map .int) (((p0 :: pr).tail ++ [(p0 :: pr).headD 0 + (ns.length : Int)]).map D.int)) [] _ rfl ?_ (fun x hx => ?_) fun res a => ?_
    · unfold zipD
      simp
      omega
    · obtain ⟨u, w, rfl⟩ := zip_mem hx
      exact ⟨rfl, rfl, rfl, rfl, fun _ => ⟨trivial, rfl, rfl, rfl⟩⟩
    · rw [filter_true] at a
      have := a.map
      rw [zip_sub] at this
      subst this
      rw [List.nil_append]
      have gl2 : (List.zipWith (fun a b => b - a) (p0 :: pr) ((p0 :: pr).tail ++ [(p0 :: pr).headD 0 + (ns.length : Int)])).length = pr.length + 1 := gl
      refine ⟨fs, _, rfl, rfl, by rw [List.length_map, gl2]; omega, ?_⟩
      exact hq (.v (.lst ((p0 :: pr).map .int)))
theorem long_wp (ds : List D) (S : Ss) (Q : D → Ss → Prop) (hl : ds.length = 1) (h : cLong.run ds S Q) : wpSs mLong (startR 8 ds) S (endsQ Q) := by
  obtain ⟨ns, e, hok, hq⟩ := h
  subst e
  have hz := sizeLine_eq
  have hlen := hok.1.2.1
  have hst : startR 8 [.tup (ns.map .int)] = [.v (.tup (ns.map .int)), .un, .un, .un, .un, .un, .un, .un] := rfl
  rw [hst]
  have hs : bcV .sset [.tup (ns.map .int)] = some (ns.length < 4000 ∧ (ssetI ns).length < 64, .lst ((ssetI ns).map .int)) := by
    show (intsD (ns.map .int)).map _ = _
    rw [intsD_map]; rfl
  refine ⟨Nat.zero_le _, optW_some hs ⟨by omega, sset_len hok⟩ ⟨_, rfl, ?_⟩⟩
  have hsl := sset_len hok
  refine fr_ok (fun xs ρ S' => S' = S ∧ ∃ done rest x2 x3, ssetI ns = done ++ rest ∧ xs = rest.map .int ∧ (allGaps ns done).length ≤ done.length * 1000 ∧ ρ = [.v (.tup (ns.map .int)), .own ((allGaps ns done).map .int), x2, x3, .un, .un, .un, .un]) _
    ⟨rfl, [], ssetI ns, .un, .un, rfl, rfl, Nat.zero_le _, rfl⟩ (fun x xs ρ S' ⟨e1, done, rest, x2, x3, e2, e3, e4, e5⟩ => ?_) (fun ρ S' ⟨e1, done, rest, x2, x3, e2, e3, e4, e5⟩ => ?_)
  · subst e1 e5
    cases rest with
    | nil => cases e3
    | cons l rest =>
      injection e3 with e6 e7
      subst e6
      have hin : l ∈ ns := mem_ssetI.mp (by rw [e2]; simp)
      have hdl : done.length < 64 := by
        have : (done ++ l :: rest).length < 64 := by rw [← e2]; exact hsl
        simp at this; omega
      have hg : (gapsL ns l).length ≤ 1000 := by
        unfold gapsL
        rw [gaps_length]
        have := plc_length l ns 0
        omega
      have key : ∀ y3, S' = S' ∧ ∃ done' rest' x2 x3', ssetI ns = done' ++ rest' ∧ xs = rest'.map .int ∧ (allGaps ns done').length ≤ done'.length * 1000 ∧ [Sl.v (.tup (ns.map .int)), .own ((allGaps ns done).map .int ++ (gapsL ns l).map .int), .v (.int l), y3, .un, .un, .un, .un] = [.v (.tup (ns.map .int)), .own ((allGaps ns done').map .int), x2, x3', .un, .un, .un, .un] := fun y3 => by
        have ea : allGaps ns (done ++ [l]) = allGaps ns done ++ gapsL ns l := by unfold allGaps; simp
        refine ⟨rfl, done ++ [l], rest, .v (.int l), y3, by rw [e2]; simp, e7, ?_, by rw [ea, List.map_append]⟩
        rw [ea, List.length_append, List.length_append]
        simp
        omega
      exact long_body hlen hin (by rw [List.length_map]; omega) key
  · subst e1 e5
    cases rest with
    | cons l rest => cases e3
    | nil =>
      rw [List.append_nil] at e2
      subst e2
      obtain ⟨m1, m2⟩ := long_math hok
      have hm : bcV .max1 [.lst ((allGaps ns (ssetI ns)).map .int)] = some (allGaps ns (ssetI ns) ≠ [], .int (maxI (allGaps ns (ssetI ns)))) := by
        show (intsD _).map _ = _
        rw [intsD_map]; rfl
      refine optW_some hm m1 ?_
      rw [m2]
      exact hq
end Py
set_option Elab.async false
set_option linter.all false
set_option maxRecDepth 100000
set_option maxHeartbeats 4000000
/-! k96: twice round the turns. -/
namespace Py
open PySem PySem.Spec PyProof.Rows L2 GxR

def lastsF (ws : List Int) : List Int → List Int → Bool
  | [], _ => true
  | l :: ts, rest => if blkF l 0 rest = true then false else lastsF ws ts (nextF l ws 0 rest)
/-- one line alone -/
def runF (k w : Int) : Int → List Int → Bool
  | _, [] => true
  | r, l :: ts => if l = k then runF k w w ts else if r = 1 then false else runF k w (r - 1) ts
theorem next_length (l : Int) (ws : List Int) : ∀ (rs : List Int) (k : Nat), (nextF l ws k rs).length = rs.length
  | [], k => rfl
  | x :: r, k => by
    show (nextF l ws (k + 1) r).length + 1 = r.length + 1
    rw [next_length l ws r (k + 1)]
theorem blk_iff (l : Int) : ∀ (rs : List Int) (k : Nat), blkF l k rs = false ↔ ∀ i, i < rs.length → ((k + i : Nat) : Int) ≠ l → rs.getD i 0 ≠ 1
  | [], k => ⟨fun _ i hi => by simp at hi, fun _ => rfl⟩
  | x :: r, k => by
    have ih := blk_iff l r (k + 1)
    have e : blkF l k (x :: r) = ((x == 1 && !((k : Int) == l)) || blkF l (k + 1) r) := rfl
    rw [e, Bool.or_eq_false_iff, ih]
    constructor
    · rintro ⟨h1, h2⟩ i hi hne
      cases i with
      | zero =>
        intro z
        have z : x = 1 := z
        rw [z] at h1
        have : ((k : Int) == l) = false := beq_eq_false_iff_ne.mpr (by simpa using hne)
        rw [this] at h1
        cases h1
      | succ i =>
        have := h2 i (by simpa using hi) (by rw [show k + 1 + i = k + (i + 1) by omega]; exact hne)
        simpa using this
    · intro h
      refine ⟨?_, fun i hi hne => ?_⟩
      · cases q : (x == 1 && !((k : Int) == l)) with
        | false => rfl
        | true =>
          rw [Bool.and_eq_true] at q
          have h1 : x = 1 := by simpa using q.1
          have h2 : (k : Int) ≠ l := by simpa using q.2
          exact absurd h1 (h 0 (by simp) (by simpa using h2))
      · have := h (i + 1) (by simp; omega) (by rw [show k + (i + 1) = k + 1 + i by omega]; exact hne)
        simpa using this
theorem next_get (l : Int) (ws : List Int) : ∀ (rs : List Int) (k i : Nat), i < rs.length → (nextF l ws k rs).getD i 0 = if ((k + i : Nat) : Int) = l then ws.getD (k + i) 0 else rs.getD i 0 - 1
  | [], k, i, h => by simp at h
  | x :: r, k, 0, h => by
    show (if ((k : Int) == l) = true then ws.getD k 0 else x - 1) = _
    by_cases e : (k : Int) = l
    · rw [if_pos (by simpa using e), if_pos (by simpa using e)]; rfl
    · rw [if_neg (by simpa using e), if_neg (by simpa using e)]; rfl
  | x :: r, k, i + 1, h => by
    have ih := next_get l ws r (k + 1) i (by simpa using h)
    have e : (nextF l ws k (x :: r)).getD (i + 1) 0 = (nextF l ws (k + 1) r).getD i 0 := by
      show ((if ((k : Int) == l) = true then ws.getD k 0 else x - 1) :: nextF l ws (k + 1) r).getD (i + 1) 0 = _
      simp
    rw [e, ih, show k + 1 + i = k + (i + 1) by omega]
    simp
/-- all lines at once are each line alone -/
theorem lasts_iff (ws : List Int) : ∀ (ts rest : List Int), rest.length = ws.length → (lastsF ws ts rest = true ↔ ∀ k, k < ws.length → runF (k : Nat) (ws.getD k 0) (rest.getD k 0) ts = true)
  | [], rest, hl => ⟨fun _ _ _ => rfl, fun _ => rfl⟩
  | l :: ts, rest, hl => by
    have ih := lasts_iff ws ts (nextF l ws 0 rest) (by rw [next_length, hl])
    have hb := blk_iff l rest 0
    show (if blkF l 0 rest = true then false else lastsF ws ts (nextF l ws 0 rest)) = true ↔ ∀ k, k < ws.length → (if l = (k : Nat) then runF (k : Nat) (ws.getD k 0) (ws.getD k 0) ts else if rest.getD k 0 = 1 then false else runF (k : Nat) (ws.getD k 0) (rest.getD k 0 - 1) ts) = true
    cases q : blkF l 0 rest with
    | true =>
      rw [if_pos rfl]
      refine ⟨fun z => (by cases z), fun h => ?_⟩
      exfalso
      have : ¬ ∀ i, i < rest.length → ((0 + i : Nat) : Int) ≠ l → rest.getD i 0 ≠ 1 := fun z => by rw [hb.mpr z] at q; cases q
      refine this fun i hi hne z => ?_
      have := h i (by omega)
      rw [if_neg (fun e => hne (by rw [e]; simp)), if_pos z] at this
      cases this
    | false =>
      rw [if_neg (by decide), ih]
      have hb := hb.mp q
      constructor
      · intro h k hk
        have := h k hk
        rw [next_get l ws rest 0 k (by omega)] at this
        rw [Nat.zero_add] at this
        by_cases e : ((k : Nat) : Int) = l
        · rw [if_pos e.symm]
          rw [if_pos e] at this
          exact this
        · rw [if_neg (Ne.symm e), if_neg (hb k (by omega) (by rw [Nat.zero_add]; exact e))]
          rw [if_neg e] at this
          exact this
      · intro h k hk
        have := h k hk
        rw [next_get l ws rest 0 k (by omega), Nat.zero_add]
        by_cases e : ((k : Nat) : Int) = l
        · rw [if_pos e.symm] at this
          rw [if_pos e]
          exact this
        · rw [if_neg (Ne.symm e), if_neg (hb k (by omega) (by rw [Nat.zero_add]; exact e))] at this
          rw [if_neg e]
          exact this
theorem plc_ge {l : Int} : ∀ {ns : List Int} {k : Nat} {x : Int}, x ∈ plc l k ns → (k : Int) ≤ x ∧ x < k + ns.length
  | [], k, x, h => by cases h
  | y :: r, k, x, h => by
    unfold plc at h
    split at h
    · rcases List.mem_cons.mp h with e | e
      · subst e; simp; omega
      · have := plc_ge e
        simp at this ⊢; omega
    · have := plc_ge h
      simp at this ⊢; omega
theorem run_iff (k w : Int) (hw : 0 < w) : ∀ (ts : List Int) (t : Nat) (c : Int), 0 ≤ c → c < w → (runF k w (w - c) ts = true ↔ ∀ d ∈ dif (((t : Int) - 1 - c) :: (plc k t ts ++ [(t : Int) + ts.length])), d ≤ w)
  | [], t, c, h0, h1 => by
    refine ⟨fun _ d hd => ?_, fun _ => rfl⟩
    have hd : d ∈ [(t : Int) + (0 : Nat) - ((t : Int) - 1 - c)] := hd
    have : d = (t : Int) + (0 : Nat) - ((t : Int) - 1 - c) := by simpa using hd
    omega
  | x :: r, t, c, h0, h1 => by
    have el : (t : Int) + ((x :: r).length : Nat) = ((t + 1 : Nat) : Int) + (r.length : Nat) := by simp; omega
    rw [el]
    have er : runF k w (w - c) (x :: r) = if x = k then runF k w w r else if w - c = 1 then false else runF k w (w - c - 1) r := rfl
    have ep : plc k t (x :: r) = if x = k then (t : Int) :: plc k (t + 1) r else plc k (t + 1) r := rfl
    rw [er, ep]
    by_cases hx : x = k
    · rw [if_pos hx, if_pos hx]
      have ih := run_iff k w hw r (t + 1) 0 (Int.le_refl _) hw
      rw [Int.sub_zero] at ih
      rw [ih]
      have e2 : (((t + 1 : Nat) : Int) - 1 - 0) = (t : Int) := by omega
      rw [e2]
      show _ ↔ ∀ d ∈ ((t : Int) - ((t : Int) - 1 - c)) :: dif ((t : Int) :: (plc k (t + 1) r ++ [((t + 1 : Nat) : Int) + (r.length : Nat)])), d ≤ w
      constructor
      · intro h d hd
        rcases List.mem_cons.mp hd with e | e
        · omega
        · exact h d e
      · exact fun h d hd => h d (List.mem_cons_of_mem _ hd)
    · rw [if_neg hx, if_neg hx]
      by_cases hc : w - c = 1
      · rw [if_pos hc]
        refine ⟨fun z => (by cases z), fun h => ?_⟩
        exfalso
        cases hp : plc k (t + 1) r with
        | nil =>
          rw [hp] at h
          have := h (((t + 1 : Nat) : Int) + (r.length : Nat) - ((t : Int) - 1 - c)) (List.mem_cons_self ..)
          omega
        | cons q qs =>
          rw [hp] at h
          have := h (q - ((t : Int) - 1 - c)) (List.mem_cons_self ..)
          have g := (plc_ge (l := k) (ns := r) (k := t + 1) (x := q) (by rw [hp]; exact List.mem_cons_self ..)).1
          omega
      · rw [if_neg hc]
        have ih := run_iff k w hw r (t + 1) (c + 1) (by omega) (by omega)
        have e1 : w - (c + 1) = w - c - 1 := by omega
        have e2 : (((t + 1 : Nat) : Int) - 1 - (c + 1)) = (t : Int) - 1 - c := by omega
        rw [e1, e2] at ih
        exact ih
/-- twice round: each gap is met -/
theorem run_twice {ns : List Int} {k w : Int} (hw : 0 < w) (hk : k ∈ ns) : runF k w w (ns ++ ns) = true ↔ gapF ns k ≤ w := by
  have h := run_iff k w hw (ns ++ ns) 0 0 (Int.le_refl _) hw
  rw [Int.sub_zero] at h
  rw [h]
  obtain ⟨u, h1, h2, h3⟩ := two_eq hk
  have hP : plc k 0 (ns ++ ns) = plc k 0 ns ++ (plc k 0 ns).map (· + (ns.length : Int)) := by rw [plc_app, plc_shift k ns.length ns 0]
  have hne := plc_ne (k := 0) hk
  have hge := fun x (hx : x ∈ plc k 0 ns) => plc_ge hx
  unfold gapF
  have hmx := maxI_mem h2
  have eg : gapsOf (plc k 0 ns) ns.length = dif (plc k 0 ns ++ [(plc k 0 ns).headD 0 + ns.length]) := by
    obtain ⟨a, r, e⟩ := List.exists_cons_of_ne_nil hne
    rw [e]
    exact dif_zip _ _ _
  generalize plc k 0 ns = ps at *
  -- the last place
  have hlast : ps = ps.dropLast ++ [ps.getLast hne] := (List.dropLast_concat_getLast hne).symm
  generalize ps.getLast hne = b at hlast
  generalize ps.dropLast = as at hlast
  have hb := hge b (by rw [hlast]; simp)
  obtain ⟨a, r, ea⟩ := List.exists_cons_of_ne_nil hne
  have ha := hge a (by rw [ea]; simp)
  have wrap : a + (ns.length : Int) - b ∈ gapsOf ps ns.length := by
    rw [eg, ea]
    show a + (ns.length : Int) - b ∈ dif (a :: r ++ [a + (ns.length : Int)])
    rw [← ea, hlast, List.append_assoc]
    show _ ∈ dif (as ++ b :: [a + (ns.length : Int)])
    rw [dif_app]
    exact List.mem_append_right _ (List.mem_cons_self ..)
  have all : dif ((((0 : Nat) : Int) - 1 - 0) :: (plc k 0 (ns ++ ns) ++ [((0 : Nat) : Int) + ((ns ++ ns).length : Nat)])) = (a - (((0 : Nat) : Int) - 1 - 0)) :: (dif (plc k 0 (ns ++ ns)) ++ [((0 : Nat) : Int) + ((ns ++ ns).length : Nat) - (b + (ns.length : Int))]) := by
    have e1 : plc k 0 (ns ++ ns) = (ps ++ as.map (· + (ns.length : Int))) ++ [b + (ns.length : Int)] := by
      rw [hP, hlast]; simp
    have e2 : plc k 0 (ns ++ ns) = a :: (r ++ ps.map (· + (ns.length : Int))) := by
      rw [hP, ea]; simp
    have e3 : dif (plc k 0 (ns ++ ns) ++ [((0 : Nat) : Int) + ((ns ++ ns).length : Nat)]) = dif (plc k 0 (ns ++ ns)) ++ [((0 : Nat) : Int) + ((ns ++ ns).length : Nat) - (b + (ns.length : Int))] := by
      rw [e1, List.append_assoc]
      show dif ((ps ++ as.map (· + (ns.length : Int))) ++ (b + (ns.length : Int)) :: [_]) = _
      rw [dif_app]
      rfl
    rw [← e3]
    rw [e2]
    rfl
  rw [all]
  constructor
  · intro h
    refine h _ (List.mem_cons_of_mem _ (List.mem_append_left _ ?_))
    rw [h1]
    exact List.mem_append_left _ hmx.1
  · intro h d hd
    have hw := hmx.2 _ wrap
    rcases List.mem_cons.mp hd with e | e
    · simp at e ha hb ⊢
      omega
    · rcases List.mem_append.mp e with e | e
      · rw [h1] at e
        have : d ∈ gapsOf ps ns.length := (List.mem_append.mp e).elim id (h3 d)
        have := hmx.2 d this
        omega
      · have : d = ((0 : Nat) : Int) + ((ns ++ ns).length : Nat) - (b + (ns.length : Int)) := by simpa using e
        simp at this ha hb
        omega
end Py
set_option Elab.async false
set_option linter.all false
set_option maxRecDepth 100000
set_option maxHeartbeats 4000000
/-! k96: _law_lasts, _law_turns. -/
namespace Py
open PySem PySem.Spec PyProof.Rows L2 GxR

theorem eqDs_ints : ∀ is js : List Int, eqDs (is.map .int) (js.map .int) = decide (is = js)
  | [], [] => rfl
  | [], j :: js => rfl
  | i :: is, [] => rfl
  | i :: is, j :: js => by
    show (i == j && eqDs (is.map .int) (js.map .int)) = _
    rw [eqDs_ints is js]
    by_cases h : i = j
    · subst h
      by_cases h2 : is = js
      · simp [h2]
      · simp [h2]
    · have : (i == j) = false := beq_eq_false_iff_ne.mpr h
      rw [this]
      simp [h]
theorem sz_ints {is : List Int} {k : Nat} (h : is.length ≤ 1000000) : szD (k + 2) (.tup (is.map .int)) := ⟨by simpa using h, fun d hd => by
  obtain ⟨i, _, rfl⟩ := List.mem_map.mp hd
  trivial⟩
def cLasts : Ct := ⟨2, fun ds S Q => ∃ ns ws, ds = [.tup (ns.map .int), .tup (ws.map .int)] ∧ ns.length ≤ 1000 ∧ ws.length ≤ 1000 ∧ Q (.bl (lastsF ws (ns ++ ns) ws)) S⟩
def mLastsB : Sms := (.cons (.set 4 (.call "rest_behind" cRest (.cons (.var 1) (.cons (.var 2) (.cons (.var 3) .nil))))) (.cons (.iff (.not (.of (.call "_law_same" (cSame 2) (.cons (.var 4) (.cons (.call "_law_rest_behind" cRest (.cons (.var 1) (.cons (.var 2) (.cons (.var 3) .nil)))) .nil))))) (.cons (.ret .non) .nil) .nil) (.cons (.iff (.of (.cmp .Is (.var 4) .non)) (.cons (.ret (.bl false)) .nil) .nil) (.cons (.set 2 (.var 4)) .nil))))
def mLasts : Sms := (.cons (.set 2 (.var 1)) (.cons (.fr (.name 3) (.of (.bin .Add (.var 0) (.var 0))) mLastsB) (.cons (.ret (.bl true)) .nil)))
theorem restD_same (ws rs : List Int) (l : Int) (h : rs.length ≤ 1000) : szD 2 (restD ws rs l) ∧ eqD (restD ws rs l) (restD ws rs l) = true := by
  unfold restD
  split
  · exact ⟨trivial, rfl⟩
  · refine ⟨sz_ints (k := 0) (by rw [next_length]; omega), ?_⟩
    show eqDs _ _ = true
    rw [eqDs_ints]
    simp
theorem lasts_wp (ds : List D) (S : Ss) (Q : D → Ss → Prop) (hl : ds.length = 2) (h : cLasts.run ds S Q) : wpSs mLasts (startR 5 ds) S (endsQ Q) := by
  obtain ⟨ns, ws, e, hn, hw, hq⟩ := h
  subst e
  have hz := sizeLine_eq
  have hst : startR 5 [.tup (ns.map .int), .tup (ws.map .int)] = [.v (.tup (ns.map .int)), .v (.tup (ws.map .int)), .un, .un, .un] := rfl
  rw [hst]
  refine ⟨by simp; omega, ⟨_, rfl, ?_⟩⟩
  rw [← List.map_append]
  refine fr_ok (fun xs ρ S' => S' = S ∧ ∃ ts rest x3 x4, xs = ts.map .int ∧ rest.length = ws.length ∧ ρ = [.v (.tup (ns.map .int)), .v (.tup (ws.map .int)), .v (.tup (rest.map .int)), x3, x4] ∧ lastsF ws (ns ++ ns) ws = lastsF ws ts rest) _
    ⟨rfl, ns ++ ns, ws, .un, .un, rfl, rfl, rfl, rfl⟩ (fun x xs ρ S' ⟨e1, ts, rest, x3, x4, e2, e3, e4, e5⟩ => ?_) (fun ρ S' ⟨e1, ts, rest, x3, x4, e2, e3, e4, e5⟩ => ?_)
  · subst e1 e4
    cases ts with
    | nil => cases e2
    | cons l ts =>
      injection e2 with e6 e7
      subst e6
      have hr : rest.length ≤ 1000 := by omega
      obtain ⟨z1, z2⟩ := restD_same ws rest l hr
      have e8 : lastsF ws (l :: ts) rest = if blkF l 0 rest = true then false else lastsF ws ts (nextF l ws 0 rest) := rfl
      refine ⟨rfl, fun d S2 => d = restD ws rest l ∧ S2 = S', ⟨ws, rest, l, rfl, e3.symm, hr, rfl, rfl⟩, ?_⟩
      rintro d S2 ⟨rfl, rfl⟩
      refine ⟨rfl, fun d S3 => d = restD ws rest l ∧ S3 = S2, ⟨ws, rest, l, rfl, e3.symm, hr, rfl, rfl⟩, ?_⟩
      rintro d S3 ⟨rfl, rfl⟩
      refine ⟨rfl, fun d S4 => d = .bl true ∧ S4 = S3, ⟨_, _, rfl, z1, z1, by rw [z2], rfl⟩, ?_⟩
      rintro d S4 ⟨rfl, rfl⟩
      refine ⟨trivial, ?_⟩
      by_cases hb : blkF l 0 rest = true
      · rw [if_pos hb] at e8
        have er : restD ws rest l = .non := by unfold restD; rw [if_pos hb]
        rw [er]
        refine ⟨trivial, trivial, ?_⟩
        rw [e5, e8] at hq
        exact hq
      · rw [if_neg hb] at e8
        have er : restD ws rest l = .tup ((nextF l ws 0 rest).map .int) := by unfold restD; rw [if_neg hb]
        rw [er]
        refine ⟨trivial, trivial, ?_⟩
        exact ⟨rfl, ts, nextF l ws 0 rest, .v (.int l), .v (.tup ((nextF l ws 0 rest).map .int)), e7, by rw [next_length]; exact e3, rfl, by rw [e5, e8]⟩
  · subst e1 e4
    cases ts with
    | cons l ts => cases e2
    | nil =>
      rw [e5] at hq
      exact hq
/-- going twice round is keeping the waits -/
theorem lasts_keeps {ns ws : List Int} (h : okT2 ns) (hl : ws.length = (dueF ns).length) (hw : ∀ w ∈ ws, 0 < w) : lastsF ws (ns ++ ns) ws = (List.zipWith (fun a b => decide (a ≤ b)) (dueF ns) ws).all id := by
  obtain ⟨⟨hne, hlen, hm0, hm1, hall⟩, hm2, hnn⟩ := h
  have hdl : (dueF ns).length = (maxI ns + 1).toNat := by unfold dueF; simp
  have key := lasts_iff ws (ns ++ ns) ws rfl
  have dget : ∀ k, k < ws.length → (dueF ns)[k]? = some (gapF ns (k : Nat)) := fun k hk => by
    unfold dueF
    rw [List.getElem?_map, List.getElem?_range (by omega)]; rfl
  have h2 : (List.zipWith (fun a b => decide (a ≤ b)) (dueF ns) ws).all id = true ↔ ∀ k, k < ws.length → gapF ns (k : Nat) ≤ ws.getD k 0 := by
    rw [List.all_eq_true]
    constructor
    · intro h k hk
      have e : (List.zipWith (fun a b => decide (a ≤ b)) (dueF ns) ws)[k]? = some (decide (gapF ns (k : Nat) ≤ ws.getD k 0)) := by
        rw [List.getElem?_zipWith, dget k hk, List.getElem?_eq_getElem hk]
        simp [hk]
      have := h _ (List.mem_of_getElem? e)
      simpa using this
    · intro h x hx
      obtain ⟨k, hk⟩ := List.mem_iff_getElem?.mp hx
      have hk2 : k < ws.length := by
        have := (List.getElem?_eq_some_iff.mp hk).1
        simp at this
        omega
      rw [List.getElem?_zipWith, dget k hk2, List.getElem?_eq_getElem hk2] at hk
      have := h k hk2
      simp [hk2] at hk this
      subst hk
      simpa using this
  have h3 : lastsF ws (ns ++ ns) ws = true ↔ ∀ k, k < ws.length → gapF ns (k : Nat) ≤ ws.getD k 0 := by
    rw [key]
    refine ⟨fun h k hk => ?_, fun h k hk => ?_⟩
    · have hw0 : 0 < ws.getD k 0 := hw _ (by rw [List.getD_eq_getElem?_getD, List.getElem?_eq_getElem hk]; exact List.getElem_mem _)
      exact (run_twice hw0 (hall _ (by omega) (by omega))).mp (h k hk)
    · have hw0 : 0 < ws.getD k 0 := hw _ (by rw [List.getD_eq_getElem?_getD, List.getElem?_eq_getElem hk]; exact List.getElem_mem _)
      exact (run_twice hw0 (hall _ (by omega) (by omega))).mpr (h k hk)
  rw [Bool.eq_iff_iff, h3, h2]
end Py
set_option Elab.async false
set_option linter.all false
set_option maxRecDepth 100000
set_option maxHeartbeats 4000000
/-! k96: _law_turns. -/
namespace Py
open PySem PySem.Spec PyProof.Rows L2 GxR

def okTurn (m : Int) (ns : List Int) : Prop := (∀ x ∈ ns, 0 ≤ x ∧ x < m) ∧ (∀ l : Int, 0 ≤ l → l < m → l ∈ ns) ∧ (ns.length : Int) ≤ m + 3
def cTurns : Ct := ⟨2, fun ds S Q => ∃ (n : Nat) (m : Int), ds = [.obj n, .tup [.int m, .int 1, .bl true]] ∧ S[n]? = some (.box 0) ∧ 1 ≤ m ∧ m ≤ 8 ∧ ∀ ns, okTurn m ns → Q (.tup (ns.map .int)) S⟩
theorem cut_take {α : Type} (f : α → D) (xs : List α) (p : Nat) (h : p ≤ xs.length) : cutD (xs.map f) none (some (p : Nat)) = (xs.take p).map f := by
  unfold cutD
  rw [HT.sIx_nat, HT.sIx_none, List.length_map, List.drop_zero, Nat.sub_zero, List.map_take, Nat.min_eq_left h]
theorem cut_drop {α : Type} (f : α → D) (xs : List α) (p : Nat) (h : p ≤ xs.length) : cutD (xs.map f) (some (p : Nat)) none = (xs.drop p).map f := by
  unfold cutD
  rw [HT.sIx_nat, HT.sIx_none, List.length_map, Nat.min_eq_left h, List.map_drop, List.take_of_length_le (by simp)]
theorem erase_map {α β : Type} (f : α → β) : ∀ (l : List α) (j : Nat), (l.map f).eraseIdx j = (l.eraseIdx j).map f
  | [], j => rfl
  | a :: l, 0 => rfl
  | a :: l, j + 1 => by
    show f a :: (l.map f).eraseIdx j = f a :: (l.eraseIdx j).map f
    rw [erase_map f l j]
theorem mem_or_erase {α : Type} {x y : α} : ∀ {l : List α} {j : Nat}, l[j]? = some y → x ∈ l → x = y ∨ x ∈ l.eraseIdx j
  | a :: l, 0, h, m => by
    have h : a = y := by simpa using h
    rcases List.mem_cons.mp m with e | e
    · exact .inl (e.trans h)
    · exact .inr e
  | a :: l, j + 1, h, m => by
    rcases List.mem_cons.mp m with e | e
    · exact .inr (by rw [e]; exact List.mem_cons_self ..)
    · exact (mem_or_erase (by simpa using h) e).imp id (fun z => List.mem_cons_of_mem _ z)
theorem erase_sub {α : Type} {x : α} : ∀ {l : List α} {j : Nat}, x ∈ l.eraseIdx j → x ∈ l
  | a :: l, 0, m => List.mem_cons_of_mem _ m
  | a :: l, j + 1, m => by
    rcases List.mem_cons.mp m with e | e
    · rw [e]; exact List.mem_cons_self ..
    · exact List.mem_cons_of_mem _ (erase_sub e)
theorem rangeD_ints : ∀ (n lo : Nat), rangeD (lo : Nat) n = ((List.range' lo n).map fun i : Nat => D.int (i : Int))
  | 0, _ => rfl
  | n + 1, lo => by
    show D.int (lo : Int) :: rangeD ((lo : Int) + 1) n = D.int (lo : Int) :: _
    rw [show ((lo : Int) + 1) = ((lo + 1 : Nat) : Int) by omega, rangeD_ints n (lo + 1)]
def mTurnsA : Sms := (.cons (.app 4 (.popo 3 (.call "_law_draw" cDraw (.cons (.var 0) (.cons (.leno 3) .nil))))) .nil)
def mTurnsB : Sms := (.cons (.set 5 (.call "_law_draw" cDraw (.cons (.var 0) (.cons (.bin .Add (.leno 4) (.int 1)) .nil)))) (.cons (.set 4 (.bin .Add (.bin .Add (.slo 4 .no (.so (.var 5))) (.lst (.cons (.call "_law_draw" cDraw (.cons (.var 0) (.cons (.ixo 1 (.int 0)) .nil))) .nil))) (.slo 4 (.so (.var 5)) .no))) .nil))
def mTurns : Sms := (.cons (.pars [3, 4] [.l (.range (.ixo 1 (.int 0))), .l (.lst .nil)]) (.cons (.fr (.name 2) (.range1 (.ixo 1 (.int 0))) mTurnsA) (.cons (.fr (.name 2) (.range1 (.ix (.lst (.cons (.int 0) (.cons (.int 0) (.cons (.int 1) (.cons (.int 3) .nil))))) (.call "_law_draw" cDraw (.cons (.var 0) (.cons (.int 4) .nil))))) mTurnsB) (.cons (.ret (.bc .tuple (.cons (.var 4) .nil))) .nil))))
/-- a draw's run, said by what follows -/
theorem draw_run {n : Nat} {m : Int} {S : Ss} {Q : D → Ss → Prop} (hS : S[n]? = some (.box 0)) (h0 : 0 < m) (h1 : m < 1073741824) (hq : ∀ d : Nat, (d : Int) < m → Q (.int (d : Nat)) S) : 2 = 2 ∧ ∃ Q0, cDraw.run [.obj n, .int m] S Q0 ∧ ∀ d S', Q0 d S' → Q d S' :=
  ⟨rfl, Q, ⟨n, m, rfl, hS, h0, h1, fun d hd hd2 => by
    have := hq d.toNat (by omega)
    rwa [Int.toNat_of_nonneg hd] at this⟩, fun _ _ h => h⟩
theorem turns_a {n : Nat} {B T x5 : Sl} {ls fs : List Int} {S : Ss} {Q : EndsD} (hS : S[n]? = some (.box 0)) (h0 : 0 < ls.length) (h1 : ls.length ≤ 1000) (h2 : fs.length ≤ 1000)
    (hq : ∀ (j : Nat) (v : Int), ls[j]? = some v → Q.nx [.v (.obj n), B, T, .own ((ls.eraseIdx j).map .int), .own ((fs ++ [v]).map .int), x5] S) : wpSs mTurnsA [.v (.obj n), B, T, .own (ls.map .int), .own (fs.map .int), x5] S Q := by
  have hz := sizeLine_eq
  refine ⟨⟨_, rfl⟩, ⟨_, rfl⟩, _, rfl, trivial, ?_⟩
  refine draw_run hS (by simp; omega) (by simp; omega) fun d hd => ?_
  have hd : d < ls.length := by simpa using hd
  refine ⟨_, d, .int (ls[d]), rfl, rfl, by simp [hd], by omega, _, rfl, by simp; omega, ?_⟩
  have := hq d (ls[d]) (List.getElem?_eq_getElem hd)
  rw [erase_map]
  rw [List.map_append] at this
  exact this
theorem turns_b {n : Nat} {m : Int} {T X x3 x5 : Sl} {fs : List Int} {S : Ss} {Q : EndsD} (hS : S[n]? = some (.box 0)) (hm : 1 ≤ m ∧ m ≤ 8) (hX : slD X = some (.lst (fs.map .int))) (h2 : fs.length ≤ 1000)
    (hq : ∀ (p : Nat) (v : Int) y, p ≤ fs.length → 0 ≤ v → v < m → Q.nx [.v (.obj n), .v (.tup [.int m, .int 1, .bl true]), T, x3, .v (.lst ((fs.take p ++ [v] ++ fs.drop p).map .int)), y] S) :
    wpSs mTurnsB [.v (.obj n), .v (.tup [.int m, .int 1, .bl true]), T, x3, X, x5] S Q := by
  have hz := sizeLine_eq
  refine ⟨_, hX, trivial, trivial, ?_⟩
  refine draw_run hS (by simp; try omega) (by simp; omega) fun p hp => ?_
  have hp : p ≤ fs.length := by simp at hp; omega
  refine ⟨by show (slD X).isSome = true; rw [hX]; rfl, (p : Nat), rfl, _, hX, trivial, ?_⟩
  rw [cut_take _ _ _ hp]
  refine ⟨rfl, _, rfl, trivial, ?_⟩
  refine draw_run hS (by omega) (by omega) fun v hv => ?_
  have e1 : (fs.take p).length ≤ fs.length := by rw [List.length_take]; omega
  refine ⟨by show 1 ≤ sizeLine; omega, ⟨by rw [List.length_map]; omega, by show 1 ≤ sizeLine; omega, by rw [List.length_map]; show _ + 1 ≤ sizeLine; omega⟩, ?_⟩
  refine ⟨by show (slD X).isSome = true; rw [hX]; rfl, (p : Nat), rfl, _, hX, trivial, ?_⟩
  rw [cut_drop _ _ _ hp]
  refine ⟨⟨by simp; omega, by simp; omega, by simp; omega⟩, ?_⟩
  have := hq p v (.v (.int (p : Nat))) hp (by omega) hv
  rw [List.map_append, List.map_append] at this
  exact this
theorem turns_wp (ds : List D) (S : Ss) (Q : D → Ss → Prop) (hl : ds.length = 2) (h : cTurns.run ds S Q) : wpSs mTurns (startR 6 ds) S (endsQ Q) := by
  obtain ⟨n, m, e, hS, hm1, hm2, hq⟩ := h
  subst e
  have hz := sizeLine_eq
  have hst : startR 6 [.obj n, .tup [.int m, .int 1, .bl true]] = [.v (.obj n), .v (.tup [.int m, .int 1, .bl true]), .un, .un, .un, .un] := rfl
  rw [hst]
  obtain ⟨k, hk⟩ : ∃ k : Nat, m = (k : Int) := ⟨m.toNat, by omega⟩
  subst hk
  have er : rangeD 0 k = ((List.range k).map fun i : Nat => (i : Int)).map .int := by
    have := rangeD_ints k 0
    rw [List.map_map, List.range_eq_range']
    exact this
  refine ⟨rfl, _, rfl, trivial, (k : Nat), rfl, by omega, by omega, Nat.zero_le _, ?_⟩
  rw [Int.toNat_natCast, er]
  refine ⟨rfl, _, rfl, trivial, (k : Nat), rfl, ⟨by omega, by omega⟩, ?_⟩
  rw [Int.toNat_natCast]
  refine fr_range k (fun i ρ S' => S' = S ∧ ∃ (ls fs : List Int) (T : Sl), ρ = [.v (.obj n), .v (.tup [.int (k : Nat), .int 1, .bl true]), T, .own (ls.map .int), .own (fs.map .int), .un] ∧ ls.length + i = k ∧ fs.length = i ∧ (∀ x, x ∈ fs ∨ x ∈ ls → 0 ≤ x ∧ x < (k : Int)) ∧ (∀ l : Int, 0 ≤ l → l < (k : Int) → l ∈ fs ∨ l ∈ ls))
    ⟨rfl, (List.range k).map fun i : Nat => (i : Int), [], .un, rfl, by simp, rfl, ?_, ?_⟩ (fun i ρ S' hi ⟨e1, ls, fs, T, e2, e3, e4, e5, e6⟩ => ?_) (fun ρ S' ⟨e1, ls, fs, T, e2, e3, e4, e5, e6⟩ => ?_)
  · intro x hx
    rcases hx with hx | hx
    · cases hx
    · obtain ⟨i, hi, rfl⟩ := List.mem_map.mp hx
      have := List.mem_range.mp hi
      omega
  · intro l h0 h1
    exact .inr (List.mem_map.mpr ⟨l.toNat, List.mem_range.mpr (by omega), by omega⟩)
  · subst e1 e2
    refine turns_a hS (by omega) (by omega) (by omega) fun j v hv => ?_
    refine ⟨rfl, ls.eraseIdx j, fs ++ [v], .v (.int (i : Nat)), rfl, ?_, by simp [e4], fun x hx => ?_, fun l h0 h1 => ?_⟩
    · have hj := (List.getElem?_eq_some_iff.mp hv).1
      rw [List.length_eraseIdx]
      split
      · omega
      · rename_i q; exact absurd hj q
    · rcases hx with hx | hx
      · rcases List.mem_append.mp hx with hx | hx
        · exact e5 x (.inl hx)
        · have : x = v := by simpa using hx
          rw [this]
          exact e5 v (.inr (List.mem_of_getElem? hv))
      · exact e5 x (.inr (erase_sub hx))
    · rcases e6 l h0 h1 with hx | hx
      · exact .inl (List.mem_append_left _ hx)
      · rcases mem_or_erase hv hx with q | q
        · exact .inl (List.mem_append_right _ (by rw [q]; exact List.mem_cons_self ..))
        · exact .inr q
  · subst e1 e2
    have hls : ls = [] := List.eq_nil_of_length_eq_zero (by omega)
    subst hls
    -- the second loop
    refine ⟨by show 4 ≤ sizeLine; omega, ?_⟩
    refine draw_run hS (by omega) (by omega) fun d hd => ?_
    have hd : d < 4 := by omega
    have hc : ∃ c : Nat, c ≤ 3 ∧ ixV (.lst [.int 0, .int 0, .int 1, .int 3]) (.int (d : Nat)) = some (True, .int (c : Nat)) := by
      have : d = 0 ∨ d = 1 ∨ d = 2 ∨ d = 3 := by omega
      rcases this with rfl | rfl | rfl | rfl
      · exact ⟨0, by omega, rfl⟩
      · exact ⟨0, by omega, rfl⟩
      · exact ⟨1, by omega, rfl⟩
      · exact ⟨3, by omega, rfl⟩
    obtain ⟨c, hc3, hc⟩ := hc
    refine optW_some hc trivial ⟨(c : Nat), rfl, ⟨by omega, by omega⟩, ?_⟩
    rw [Int.toNat_natCast]
    refine fr_range c (fun i ρ S2 => S2 = S' ∧ ∃ (gs : List Int) (T X x5 : Sl), ρ = [.v (.obj n), .v (.tup [.int (k : Nat), .int 1, .bl true]), T, .own ([].map .int), X, x5] ∧ slD X = some (.lst (gs.map .int)) ∧ gs.length = k + i ∧ (∀ x ∈ gs, 0 ≤ x ∧ x < (k : Int)) ∧ (∀ l : Int, 0 ≤ l → l < (k : Int) → l ∈ gs))
      ⟨rfl, fs, T, .own (fs.map .int), .un, rfl, rfl, by omega, fun x hx => e5 x (.inl hx), fun l h0 h1 => (e6 l h0 h1).elim id (fun z => nomatch z)⟩ (fun i ρ S2 hi ⟨e1, gs, T, X, x5, e2, eX, e3, e7, e8⟩ => ?_) (fun ρ S2 ⟨e1, gs, T, X, x5, e2, eX, e3, e7, e8⟩ => ?_)
    · subst e1 e2
      refine turns_b hS ⟨hm1, hm2⟩ eX (by omega) fun p v y hp hv0 hv1 => ?_
      refine ⟨rfl, gs.take p ++ [v] ++ gs.drop p, .v (.int (i : Nat)), _, y, rfl, rfl, by simp; omega, fun x hx => ?_, fun l h0 h1 => ?_⟩
      · rcases List.mem_append.mp hx with hx | hx
        · rcases List.mem_append.mp hx with hx | hx
          · exact e7 x (List.mem_of_mem_take hx)
          · have : x = v := by simpa using hx
            omega
        · exact e7 x (List.mem_of_mem_drop hx)
      · have := e8 l h0 h1
        rw [← List.take_append_drop p gs] at this
        rcases List.mem_append.mp this with q | q
        · exact List.mem_append_left _ (List.mem_append_left _ q)
        · exact List.mem_append_right _ q
    · subst e1 e2
      have fin := hq gs ⟨e7, e8, by omega⟩
      cases X with
      | un => cases eX
      | v d0 =>
        cases eX
        exact ⟨trivial, fin⟩
      | own es =>
        have : es = gs.map .int := by cases eX; rfl
        subst this
        exact ⟨trivial, fin⟩
end Py
set_option Elab.async false
set_option linter.all false
set_option maxRecDepth 100000
set_option maxHeartbeats 4000000
/-! k96: _law_spoilt. -/
namespace Py
open PySem PySem.Spec PyProof.Rows L2 GxR

def resD (d : D) : Prop := plD d ∧ pl1 d
def okV : Nat → D → Prop
  | 1, .int _ => True
  | 2, .tup ds => ds.length ≤ 1000 ∧ ∃ ns : List Int, ds = ns.map .int
  | _, _ => False
def cSp (k : Nat) : Ct := ⟨2, fun ds S Q => ∃ (n : Nat) (v : D), ds = [.obj n, v] ∧ S[n]? = some (.box 0) ∧ okV k v ∧ ∀ d, resD d → Q d S⟩
def rows0 : List D := [.non, .tup [], .int 0, .int 1, .bl true, .bl false, .str "a", .str "line", .int (-1), .tup [.int 0], .int 64, .int 1001]
theorem rows0_ok : ∀ d ∈ rows0, resD d := by
  intro d hd
  simp only [rows0, List.mem_cons, List.not_mem_nil, or_false] at hd
  rcases hd with rfl | rfl | rfl | rfl | rfl | rfl | rfl | rfl | rfl | rfl | rfl | rfl
  all_goals first
    | exact ⟨trivial, trivial⟩
    | exact ⟨trivial, fun d h => by
        have : d = .int 0 := by simpa using h
        subst this; trivial⟩
    | exact ⟨trivial, fun d h => by cases h⟩
def mSpEnd : Sms := (.cons (.ret (.ixo 2 (.call "_law_draw" cDraw (.cons (.var 0) (.cons (.leno 2) .nil))))) .nil)
def mSpI : Sms := (.cons (.set 2 (.bin .Add (.var 2) (.lst (.cons (.bin .Add (.var 1) (.int 1)) (.cons (.bin .Sub (.var 1) (.int 1)) (.cons (.cmp .Eq (.var 1) (.int 1)) (.cons (.bin .Add (.var 1) (.int 1)) (.cons (.bin .Add (.var 1) (.int 2)) .nil)))))))) .nil)
def mSpT : Sms := (.cons (.set 2 (.bin .Add (.var 2) (.lst (.cons (.slo 1 .no (.so (.neg (.int 1)))) (.cons (.bin .Add (.var 1) (.slo 1 (.so (.neg (.int 1))) .no)) (.cons (.rev (.var 1)) (.cons (.bin .Add (.var 1) (.tup (.cons (.int 0) .nil))) (.cons (.tup (.cons (.var 1) .nil)) (.cons (.slo 1 (.so (.int 1)) .no) .nil))))))))) .nil)
def mSpA (C : Ct) : Sms := (.cons (.set 3 (.call "_law_draw" cDraw (.cons (.var 0) (.cons (.leno 1) .nil)))) (.cons (.iff (.of (.cmp .Eq (.call "_law_draw" cDraw (.cons (.var 0) (.cons (.int 8) .nil))) (.int 0))) (.cons (.ret (.bin .Add (.slo 1 .no (.so (.var 3))) (.slo 1 (.so (.bin .Add (.var 3) (.int 1))) .no))) .nil) .nil) (.cons (.ret (.bin .Add (.bin .Add (.slo 1 .no (.so (.var 3))) (.tup (.cons (.call "_law_spoilt" C (.cons (.var 0) (.cons (.ixo 1 (.var 3)) .nil))) .nil))) (.slo 1 (.so (.bin .Add (.var 3) (.int 1))) .no))) .nil)))
def mSpoilt (C : Ct) : Sms := (.cons (.iff (.bop true (.cons (.of (.isi (.var 1) "tuple")) (.cons (.of (.cmp .Gt (.leno 1) (.int 0))) (.cons (.of (.cmp .Gt (.call "_law_draw" cDraw (.cons (.var 0) (.cons (.int 4) .nil))) (.int 0))) .nil)))) (mSpA C) .nil) (.cons (.set 2 (.lst (.cons .non (.cons (.tup .nil) (.cons (.int 0) (.cons (.int 1) (.cons (.bl true) (.cons (.bl false) (.cons (.str "a") (.cons (.str "line") (.cons (.neg (.int 1)) (.cons (.tup (.cons (.int 0) .nil)) (.cons (.int 64) (.cons (.int 1001) .nil)))))))))))))) (.cons (.iff (.of (.isi (.var 1) "int")) mSpI .nil) (.cons (.iff (.of (.isi (.var 1) "tuple")) mSpT .nil) mSpEnd))))
theorem sp_end {n : Nat} {v x3 : Sl} {rows : List D} {S : Ss} {Q : D → Ss → Prop} (hS : S[n]? = some (.box 0)) (h0 : 0 < rows.length) (h1 : rows.length ≤ 1000) (hr : ∀ d ∈ rows, resD d) (hq : ∀ d, resD d → Q d S) : wpSs mSpEnd [.v (.obj n), v, .v (.lst rows), x3] S (endsQ Q) := by
  refine ⟨rfl, _, rfl, trivial, ?_⟩
  refine draw_run hS (by omega) (by omega) fun d hd => ?_
  have hd : d < rows.length := by omega
  refine ⟨_, rfl, optW_some (c := True) (z := rows.getD d .non) ?_ trivial (hq _ (hr _ ?_))⟩
  · show someT (atD rows (d : Nat)) = _
    rw [at_nth hd]; rfl
  · rw [List.getD_eq_getElem?_getD, List.getElem?_eq_getElem hd]
    exact List.getElem_mem _
theorem cut_sub {ds : List D} {lo hi : Option Int} {d : D} (h : d ∈ cutD ds lo hi) : d ∈ ds := List.mem_of_mem_drop (List.mem_of_mem_take h)
theorem cut_len (ds : List D) (lo hi : Option Int) : (cutD ds lo hi).length ≤ ds.length := by
  unfold cutD
  rw [List.length_take, List.length_drop]
  omega
theorem res_tup {ds : List D} (h : ∀ d ∈ ds, plD d) : resD (.tup ds) := ⟨trivial, h⟩
theorem spoilt_int (k : Nat) (ds : List D) (S : Ss) (Q : D → Ss → Prop) (h : (cSp 1).run ds S Q) : wpSs (mSpoilt (cSp k)) (startR 4 ds) S (endsQ Q) := by
  obtain ⟨n, v, e, hS, hv, hq⟩ := h
  subst e
  have hz := sizeLine_eq
  cases v with
  | int i =>
    refine ⟨false, rfl, trivial, ?_⟩
    refine ⟨Nat.zero_le _, 1, rfl, by show 1 ≤ sizeLine; omega, by show 12 ≤ sizeLine; omega, ?_⟩
    refine ⟨true, rfl, trivial, ?_⟩
    refine ⟨trivial, trivial, ⟨rfl, rfl⟩, trivial, trivial, by show 5 ≤ sizeLine; omega, ⟨by show 12 ≤ sizeLine; omega, by show 5 ≤ sizeLine; omega, by show 12 + 5 ≤ sizeLine; omega⟩, ?_⟩
    refine ⟨false, rfl, trivial, ?_⟩
    refine sp_end hS (by simp) (by simp) (fun d hd => ?_) hq
    rcases List.mem_append.mp hd with q | q
    · exact rows0_ok d q
    · simp only [List.mem_cons, List.not_mem_nil, or_false] at q
      rcases q with rfl | rfl | rfl | rfl | rfl <;> exact ⟨trivial, trivial⟩
  | _ => exact hv.elim
theorem spoilt_tup (ds : List D) (S : Ss) (Q : D → Ss → Prop) (h : (cSp 2).run ds S Q) : wpSs (mSpoilt (cSp 1)) (startR 4 ds) S (endsQ Q) := by
  obtain ⟨n, v, e, hS, hv, hq⟩ := h
  subst e
  have hz := sizeLine_eq
  cases v with
  | tup vs =>
    obtain ⟨hlen, ns, hns⟩ := hv
    have hpl : ∀ d ∈ vs, plD d := fun d hd => by
      rw [hns] at hd
      obtain ⟨i, _, rfl⟩ := List.mem_map.mp hd
      trivial
    have tail : wpSs (.cons (.set 2 (.lst (.cons .non (.cons (.tup .nil) (.cons (.int 0) (.cons (.int 1) (.cons (.bl true) (.cons (.bl false) (.cons (.str "a") (.cons (.str "line") (.cons (.neg (.int 1)) (.cons (.tup (.cons (.int 0) .nil)) (.cons (.int 64) (.cons (.int 1001) .nil)))))))))))))) (.cons (.iff (.of (.isi (.var 1) "int")) mSpI .nil) (.cons (.iff (.of (.isi (.var 1) "tuple")) mSpT .nil) mSpEnd))) [.v (.obj n), .v (.tup vs), .un, .un] S (endsQ Q) := by
      refine ⟨Nat.zero_le _, 1, rfl, by show 1 ≤ sizeLine; omega, by show 12 ≤ sizeLine; omega, ?_⟩
      refine ⟨false, rfl, trivial, ?_⟩
      refine ⟨true, rfl, trivial, ?_⟩
      have c1 := cut_len vs (some (-1)) none
      refine ⟨rfl, 1, rfl, -1, rfl, _, rfl, trivial, ?_⟩
      refine ⟨rfl, 1, rfl, -1, rfl, _, rfl, trivial, by omega, ?_⟩
      refine ⟨vs, rfl, by show 1 ≤ sizeLine; omega, by show vs.length + 1 ≤ sizeLine; omega, by show 1 ≤ sizeLine; omega, ?_⟩
      refine ⟨rfl, 1, rfl, _, rfl, trivial, by show 6 ≤ sizeLine; omega, ⟨by show 12 ≤ sizeLine; omega, by show 6 ≤ sizeLine; omega, by show 12 + 6 ≤ sizeLine; omega⟩, ?_⟩
      refine sp_end hS (by simp) (by simp) (fun d hd => ?_) hq
      rcases List.mem_append.mp hd with q | q
      · exact rows0_ok d q
      · simp only [List.mem_cons, List.not_mem_nil, or_false] at q
        rcases q with rfl | rfl | rfl | rfl | rfl | rfl
        · exact res_tup fun d h => hpl d (cut_sub h)
        · exact res_tup fun d h => (List.mem_append.mp h).elim (hpl d) fun h => hpl d (cut_sub h)
        · exact res_tup fun d h => hpl d (List.mem_reverse.mp h)
        · exact res_tup fun d h => (List.mem_append.mp h).elim (hpl d) fun h => by
            have : d = .int 0 := by simpa using h
            subst this; trivial
        · exact res_tup fun d h => by
            have : d = .tup vs := by simpa using h
            subst this; trivial
        · exact res_tup fun d h => hpl d (cut_sub h)
    refine ⟨true, rfl, trivial, ⟨_, rfl, trivial, trivial, trivial, ?_⟩⟩
    show if decide ((0 : Int) < (vs.length : Int)) = true then _ else _
    by_cases h0 : (0 : Int) < (vs.length : Int)
    · rw [if_pos (by simpa using h0)]
      refine draw_run hS (by omega) (by omega) fun d hd => ⟨trivial, trivial, ?_⟩
      show if decide ((0 : Int) < (d : Int)) = true then _ else _
      by_cases h1 : (0 : Int) < (d : Int)
      · rw [if_pos (by simpa using h1)]
        refine ⟨_, rfl, trivial, ?_⟩
        refine draw_run hS (by omega) (by omega) fun sp hsp => ?_
        have hsp : sp < vs.length := by omega
        refine draw_run hS (by omega) (by omega) fun d8 hd8 => ⟨⟨rfl, rfl⟩, trivial, ?_⟩
        have c1 := cut_len vs none (some (sp : Nat))
        have c2 := cut_len vs (some ((sp : Nat) + 1)) none
        show if ((d8 : Int) == 0) = true then _ else _
        by_cases h8 : ((d8 : Int) == 0) = true
        · rw [if_pos h8]
          refine ⟨rfl, _, rfl, _, rfl, trivial, ⟨rfl, trivial, _, rfl, _, rfl, trivial, by omega, hq _ (res_tup fun d h => ?_)⟩⟩
          exact (List.mem_append.mp h).elim (fun h => hpl d (cut_sub h)) fun h => hpl d (cut_sub h)
        · rw [if_neg h8]
          refine ⟨rfl, _, rfl, _, rfl, trivial, rfl, _, rfl, ?_⟩
          refine optW_some (c := True) (z := vs.getD sp .non) (by show someT (atD vs (sp : Nat)) = _; rw [at_nth hsp]; rfl) trivial ?_
          have hin : okV 1 (vs.getD sp .non) := by
            have hm : vs.getD sp .non ∈ vs := by
              rw [List.getD_eq_getElem?_getD, List.getElem?_eq_getElem hsp]
              exact List.getElem_mem _
            rw [hns] at hm ⊢
            obtain ⟨i, _, e⟩ := List.mem_map.mp hm
            rw [← e]; trivial
          refine ⟨rfl, fun d S' => resD d ∧ S' = S, ⟨n, _, rfl, hS, hin, fun d h => ⟨h, rfl⟩⟩, ?_⟩
          rintro d S' ⟨hd, rfl⟩
          refine ⟨by show 1 ≤ sizeLine; omega, by show _ + 1 ≤ sizeLine; omega, ⟨rfl, trivial, _, rfl, _, rfl, trivial, by rw [List.length_append]; show _ + 1 + _ ≤ sizeLine; omega, hq _ (res_tup fun y h => ?_)⟩⟩
          rcases List.mem_append.mp h with h | h
          · rcases List.mem_append.mp h with h | h
            · exact hpl y (cut_sub h)
            · have : y = d := by simpa using h
              subst this; exact hd.1
          · exact hpl y (cut_sub h)
      · rw [if_neg (by simpa using h1)]
        exact tail
    · rw [if_neg (by simpa using h0)]
      have e : decide ((0 : Int) < (vs.length : Int)) = false := decide_eq_false h0
      rw [e]
      exact tail
  | _ => exact hv.elim
end Py
set_option Elab.async false
set_option linter.all false
set_option maxRecDepth 100000
set_option maxHeartbeats 4000000
/-! k96: law. -/
namespace Py
open PySem PySem.Spec PyProof.Rows L2 GxR

theorem call_run {C : Ct} {ds : List D} {S : Ss} {Q : D → Ss → Prop} (hn : ds.length = C.n) (h : C.run ds S Q) : ds.length = C.n ∧ ∃ Q0, C.run ds S Q0 ∧ ∀ d S', Q0 d S' → Q d S' := ⟨hn, Q, h, fun _ _ h => h⟩
theorem eqD_bl (b : Bool) : eqD (.bl b) (.bl b) = true := by cases b <;> rfl
theorem eqD_ints (is : List Int) : eqD (.tup (is.map .int)) (.tup (is.map .int)) = true := by
  show eqDs _ _ = true
  rw [eqDs_ints]; simp
def mLawH : Sms := (.cons (.iff (.not (.of (.call "_law_same" (cSame 2) (.cons (.call "rest_behind" cRest (.cons (.var 5) (.cons (.var 7) (.cons (.var 8) .nil)))) (.cons (.call "_law_rest_behind" cRest (.cons (.var 5) (.cons (.var 7) (.cons (.var 8) .nil)))) .nil))))) (.cons (.ret (.bl false)) .nil) .nil) .nil)
theorem law_h {a0 a1 a2 a3 a4 a6 a9 a10 a11 a12 a13 a14 : Sl} {due rest : List Int} {l : Int} {S : Ss} {Q : EndsD} (h1 : due.length = rest.length) (h2 : rest.length ≤ 1000)
    (hq : Q.nx [a0, a1, a2, a3, a4, .v (.tup (due.map .int)), a6, .v (.tup (rest.map .int)), .v (.int l), a9, a10, a11, a12, a13, a14] S) :
    wpSs mLawH [a0, a1, a2, a3, a4, .v (.tup (due.map .int)), a6, .v (.tup (rest.map .int)), .v (.int l), a9, a10, a11, a12, a13, a14] S Q := by
  obtain ⟨z1, z2⟩ := restD_same due rest l h2
  refine call_run rfl ⟨due, rest, l, rfl, h1, h2, ?_⟩
  refine call_run rfl ⟨due, rest, l, rfl, h1, h2, ?_⟩
  refine call_run rfl ⟨_, _, rfl, z1, z1, ?_⟩
  rw [z2]
  exact ⟨trivial, hq⟩
/-- the turns of a case -/
theorem maxI_of {m : Int} {ns : List Int} (hm : 1 ≤ m) (h : okTurn m ns) : ns ≠ [] ∧ maxI ns = m - 1 := by
  obtain ⟨h1, h2, h3⟩ := h
  have hin : m - 1 ∈ ns := h2 (m - 1) (by omega) (by omega)
  exact ⟨fun z => (by rw [z] at hin; cases hin), (maxI_unique hin fun y hy => by have := (h1 y hy).2; omega).symm⟩
def okL (m : Int) (ns : List Int) : Prop := (∀ x ∈ ns, 0 ≤ x ∧ x < m) ∧ (∀ l : Int, 0 ≤ l → l < m → l ∈ ns) ∧ ns.length ≤ 1000
theorem okL_T2 {m : Int} {ns : List Int} (hm : 1 ≤ m ∧ m ≤ 8) (h : okL m ns) : okT2 ns ∧ maxI ns = m - 1 := by
  obtain ⟨h1, h2, h3⟩ := h
  have hin : m - 1 ∈ ns := h2 (m - 1) (by omega) (by omega)
  have hmx : maxI ns = m - 1 := (maxI_unique hin fun y hy => by have := (h1 y hy).2; omega).symm
  exact ⟨⟨⟨fun z => (by rw [z] at hin; cases hin), h3, by omega, by omega, fun l a b => h2 l a (by omega)⟩, by omega, fun x hx => (h1 x hx).1⟩, hmx⟩
theorem okL_rep {m : Int} {ns : List Int} (hm : 1 ≤ m ∧ m ≤ 8) (h : okTurn m ns) : okL m (((List.replicate 64 ns).flatten).take 64) := by
  obtain ⟨h1, h2, h3⟩ := h
  have hlen : ns.length ≤ 64 := by omega
  have e : ((List.replicate 64 ns).flatten).take 64 = ns ++ ((List.replicate 63 ns).flatten).take (64 - ns.length) := by
    rw [show (64 : Nat) = 63 + 1 by rfl, List.replicate_succ, List.flatten_cons, List.take_append, List.take_of_length_le (by omega)]
  refine ⟨fun x hx => ?_, fun l a b => ?_, by rw [List.length_take]; omega⟩
  · have := List.mem_of_mem_take hx
    obtain ⟨l, hl, hx2⟩ := List.mem_flatten.mp this
    have e2 := List.eq_of_mem_replicate hl
    rw [e2] at hx2
    exact h1 x hx2
  · rw [e]
    exact List.mem_append_left _ (h2 l a b)
theorem plc_pw (l : Int) : ∀ (ns : List Int) (k : Nat), (plc l k ns).Pairwise (· < ·)
  | [], k => .nil
  | x :: r, k => by
    have ih := plc_pw l r (k + 1)
    unfold plc
    split
    · exact List.pairwise_cons.mpr ⟨fun y hy => by have := (plc_ge hy).1; omega, ih⟩
    · exact ih
theorem dif_pos : ∀ (l : List Int), l.Pairwise (· < ·) → ∀ d ∈ dif l, 1 ≤ d
  | [], _, d, h => by cases h
  | [a], _, d, h => by cases h
  | a :: b :: r, p, d, h => by
    have p' := List.pairwise_cons.mp p
    have h : d ∈ (b - a) :: dif (b :: r) := h
    rcases List.mem_cons.mp h with e | e
    · have := p'.1 b (List.mem_cons_self ..)
      omega
    · exact dif_pos (b :: r) p'.2 d e
theorem dif_bd (lo hi : Int) : ∀ (l : List Int), (∀ x ∈ l, lo ≤ x ∧ x ≤ hi) → ∀ d ∈ dif l, d ≤ hi - lo
  | [], _, d, h => by cases h
  | [a], _, d, h => by cases h
  | a :: b :: r, p, d, h => by
    have h : d ∈ (b - a) :: dif (b :: r) := h
    rcases List.mem_cons.mp h with e | e
    · have h1 := p a (List.mem_cons_self ..)
      have h2 := p b (List.mem_cons_of_mem _ (List.mem_cons_self ..))
      omega
    · exact dif_bd lo hi (b :: r) (fun x hx => p x (List.mem_cons_of_mem _ hx)) d e
theorem gap_pos {ns : List Int} {l : Int} (hl : l ∈ ns) : 1 ≤ gapF ns l ∧ gapF ns l ≤ ns.length := by
  obtain ⟨u, h1, h2, h3⟩ := two_eq hl
  have hm := (maxI_mem h2).1
  have hne := plc_ne (k := 0) hl
  have pw := plc_pw l ns 0
  have hge := fun x (hx : x ∈ plc l 0 ns) => plc_ge hx
  unfold gapF
  generalize plc l 0 ns = ps at *
  obtain ⟨a, r, ea⟩ := List.exists_cons_of_ne_nil hne
  subst ea
  have eg : gapsOf (a :: r) ns.length = dif ((a :: r) ++ [a + ns.length]) := dif_zip _ _ _
  have ha := hge a (List.mem_cons_self ..)
  have pw' := List.pairwise_cons.mp pw
  have up : ∀ x ∈ a :: r, a ≤ x ∧ x < a + ns.length := fun x hx => by
    have h := hge x hx
    rcases List.mem_cons.mp hx with e | e
    · subst e; omega
    · have := pw'.1 x e
      simp at h ha
      omega
  generalize maxI (gapsOf (a :: r) ns.length) = g at *
  rw [eg] at hm
  constructor
  · refine dif_pos _ (List.pairwise_append.mpr ⟨pw, by simp, fun x hx y hy => ?_⟩) g hm
    have : y = a + ns.length := by simpa using hy
    have := up x hx
    omega
  · have := dif_bd a (a + ns.length) _ (fun x hx => ?_) g hm
    · omega
    · rcases List.mem_append.mp hx with h | h
      · have := up x h; omega
      · have : x = a + ns.length := by simpa using h
        omega
theorem due_ok {m : Int} {ns : List Int} (hm : 1 ≤ m ∧ m ≤ 8) (h : okL m ns) : ((dueF ns).length : Int) = m ∧ ∀ w ∈ dueF ns, 1 ≤ w ∧ w ≤ 1000 := by
  obtain ⟨t, hx⟩ := okL_T2 hm h
  refine ⟨by unfold dueF; simp; omega, fun w hw => ?_⟩
  unfold dueF at hw
  obtain ⟨k, hk, e⟩ := List.mem_map.mp hw
  have hk := List.mem_range.mp hk
  have := gap_pos (h.2.1 k (by omega) (by omega))
  have := h.2.2
  omega
end Py
set_option Elab.async false
set_option linter.all false
set_option maxRecDepth 100000
set_option maxHeartbeats 4000000
/-! k96: law's inner parts. -/
namespace Py
open PySem PySem.Spec PyProof.Rows L2 GxR

abbrev eWait : E := (.bc .min2 (.cons (.int 64) (.cons (.bc .max2 (.cons (.int 1) (.cons (.bin .Add (.var 13) (.ix (.lst (.cons (.int 0) (.cons (.int 0) (.cons (.int 0) (.cons (.int 1) (.cons (.neg (.int 1)) (.cons (.call "_law_draw" cDraw (.cons (.var 1) (.cons (.int 9) .nil))) .nil))))))) (.call "_law_draw" cDraw (.cons (.var 1) (.cons (.int 6) .nil))))) .nil))) .nil)))
abbrev sP1 : Sm := (.set 9 (.bc .tuple (.cons (.comp eWait (.name 13) (.of (.var 5)) .nil [("wait", 13)]) .nil)))
def isW (y : D) : Prop := ∃ v : Int, y = .int v ∧ 1 ≤ v ∧ v ≤ 64
theorem all2_ints {P : Int → Prop} : ∀ {ds ys : List D}, All2 (fun _ y => ∃ v : Int, y = .int v ∧ P v) ds ys → ∃ vs : List Int, ys = vs.map .int ∧ vs.length = ds.length ∧ ∀ v ∈ vs, P v
  | _, _, .nil => ⟨[], rfl, rfl, fun _ h => nomatch h⟩
  | _, _, .cons ⟨v, e, h⟩ r => by
    obtain ⟨vs, e2, e3, h2⟩ := all2_ints r
    refine ⟨v :: vs, by rw [e, e2]; rfl, by simp [e3], fun w hw => ?_⟩
    rcases List.mem_cons.mp hw with q | q
    · rw [q]; exact h
    · exact h2 w q
theorem law_p1 {a0 a2 a3 a4 a6 a7 a8 a9 a10 a11 a12 : Sl} {n : Nat} {due : List Int} {S : Ss} {Q : EndsD} (hS : S[n]? = some (.box 0)) (hd : due.length ≤ 1000)
    (hq : ∀ ws : List Int, ws.length = due.length → (∀ w ∈ ws, 1 ≤ w ∧ w ≤ 64) → Q.nx [a0, .v (.obj n), a2, a3, a4, .v (.tup (due.map .int)), a6, a7, a8, .v (.tup (ws.map .int)), a10, a11, a12, .un, .un] S) :
    wpS sP1 [a0, .v (.obj n), a2, a3, a4, .v (.tup (due.map .int)), a6, a7, a8, a9, a10, a11, a12, .un, .un] S Q := by
  have hz := sizeLine_eq
  refine ⟨due.map .int, rfl, ⟨trivial, trivial⟩, ?_⟩
  refine lc_rel (t := .name 13) (ts := .nil) (elt := eWait) (vs := [13]) (ρ1 := [a0, .v (.obj n), a2, a3, a4, .v (.tup (due.map .int)), a6, a7, a8, a9, a10, a11, a12, .un, .un]) (S := S)
    (Q := fun ds ρ1 S1 => optW (bcV .tuple [.lst ds]) fun z => Q.nx (ρ1.set 9 (.v z)) S1) (fun _ => true) (fun x y => ∃ v : Int, y = .int v ∧ 1 ≤ v ∧ v ≤ 64) (due.map .int) [] _ rfl (by simp; omega) (fun x hx => ?_) fun res a => ?_
  · obtain ⟨w, _, rfl⟩ := List.mem_map.mp hx
    refine ⟨rfl, rfl, rfl, fun _ => ?_⟩
    refine ⟨1, rfl, ?_⟩
    refine draw_run hS (by omega) (by omega) fun d9 hd9 => ?_
    refine ⟨by show 6 ≤ sizeLine; omega, ?_⟩
    refine draw_run hS (by omega) (by omega) fun d6 hd6 => ?_
    have hi : ∃ v : Int, ixV (.lst [.int 0, .int 0, .int 0, .int 1, .int (-1), .int (d9 : Nat)]) (.int (d6 : Nat)) = some (True, .int v) := by
      have : d6 = 0 ∨ d6 = 1 ∨ d6 = 2 ∨ d6 = 3 ∨ d6 = 4 ∨ d6 = 5 := by omega
      rcases this with rfl | rfl | rfl | rfl | rfl | rfl <;> exact ⟨_, rfl⟩
    obtain ⟨v, hi⟩ := hi
    refine optW_some hi trivial ⟨trivial, trivial, trivial, ⟨_, rfl, ?_, ?_⟩, rfl, rfl⟩
    · split <;> split <;> omega
    · split <;> split <;> omega
  · rw [filter_true] at a
    obtain ⟨vs, e, e2, h⟩ := all2_ints (P := fun v => 1 ≤ v ∧ v ≤ 64) a
    subst e
    exact ⟨trivial, hq vs (by simpa using e2) h⟩
abbrev sP2 : Sm := (.set 9 (.ite (.of (.cmp .Gt (.call "_law_draw" cDraw (.cons (.var 1) (.cons (.int 5) .nil))) (.int 0))) (.var 9) (.bin .Add (.slo 9 .no (.so (.neg (.int 1)))) (.bin .Mult (.tup (.cons (.bin .Add (.int 1) (.call "_law_draw" cDraw (.cons (.var 1) (.cons (.int 64) .nil)))) .nil)) (.call "_law_draw" cDraw (.cons (.var 1) (.cons (.int 3) .nil)))))))
theorem cut_map {lo hi : Option Int} (ws : List Int) : ∃ us : List Int, cutD (ws.map .int) lo hi = us.map .int ∧ us.length ≤ ws.length ∧ ∀ u ∈ us, u ∈ ws := by
  refine ⟨(ws.drop (HT.sIx ws.length 0 lo)).take (HT.sIx ws.length ws.length hi - HT.sIx ws.length 0 lo), ?_, ?_, fun u h => List.mem_of_mem_drop (List.mem_of_mem_take h)⟩
  · unfold cutD
    rw [List.length_map, List.map_take, List.map_drop]
  · rw [List.length_take, List.length_drop]; omega
theorem rep_one (v : Int) : ∀ k : Nat, (List.replicate k [D.int v]).flatten = (List.replicate k v).map .int
  | 0 => rfl
  | k + 1 => by
    rw [List.replicate_succ, List.flatten_cons, rep_one v k, List.replicate_succ]; rfl
theorem law_p2 {a0 a2 a3 a4 a5 a6 a7 a8 a10 a11 a12 : Sl} {n : Nat} {ws : List Int} {S : Ss} {Q : EndsD} (hS : S[n]? = some (.box 0)) (hd : ws.length ≤ 100) (hw : ∀ w ∈ ws, 1 ≤ w ∧ w ≤ 64)
    (hq : ∀ us : List Int, us.length ≤ 200 → (∀ w ∈ us, 1 ≤ w ∧ w ≤ 64) → Q.nx [a0, .v (.obj n), a2, a3, a4, a5, a6, a7, a8, .v (.tup (us.map .int)), a10, a11, a12, .un, .un] S) :
    wpS sP2 [a0, .v (.obj n), a2, a3, a4, a5, a6, a7, a8, .v (.tup (ws.map .int)), a10, a11, a12, .un, .un] S Q := by
  have hz := sizeLine_eq
  refine draw_run hS (by omega) (by omega) fun d hd5 => ⟨trivial, trivial, ?_⟩
  show if decide ((0 : Int) < (d : Int)) = true then _ else _
  by_cases h0 : (0 : Int) < (d : Int)
  · rw [if_pos (by simpa using h0)]
    exact hq ws (by omega) hw
  · rw [if_neg (by simpa using h0)]
    refine ⟨rfl, 1, rfl, -1, rfl, _, rfl, trivial, ?_⟩
    obtain ⟨us, e1, e2, e3⟩ := cut_map (lo := none) (hi := some (-1)) ws
    rw [e1]
    refine draw_run hS (by omega) (by omega) fun d64 hd64 => ⟨trivial, by show 1 ≤ sizeLine; omega, ?_⟩
    refine draw_run hS (by omega) (by omega) fun d3 hd3 => ?_
    refine ⟨⟨by omega, by omega, by show 1 ≤ 1000; omega⟩, ?_⟩
    rw [Int.toNat_natCast, rep_one]
    refine ⟨by simp; omega, ?_⟩
    rw [← List.map_append]
    refine hq _ (by simp; omega) fun w hw' => ?_
    rcases List.mem_append.mp hw' with q | q
    · exact hw w (e3 w q)
    · have := List.eq_of_mem_replicate q
      omega
end Py
set_option Elab.async false
set_option linter.all false
set_option maxRecDepth 100000
set_option maxHeartbeats 4000000
/-! k96: law's judging of waits. -/
namespace Py
open PySem PySem.Spec PyProof.Rows L2 GxR

abbrev sP3a : Sm := (.set 12 (.bop true (.cons (.cmp .Eq (.leno 9) (.var 3)) (.cons (.bc .all (.cons (.comp (.cmp .LtE (.var 14) (.var 13)) (.tup [14, 13]) (.zip (.var 5) (.var 9)) .nil [("here", 14), ("wait", 13)]) .nil)) .nil))))
abbrev sP3b : Sm := (.iff (.bop false (.cons (.of (.cmp .IsNot (.call "are_waits" cAre (.cons (.var 9) .nil)) (.bl true))) (.cons (.not (.of (.call "_law_same" (cSame 2) (.cons (.call "do_keep" cKeep (.cons (.var 4) (.cons (.var 9) .nil))) (.cons (.var 12) .nil))))) .nil))) (.cons (.ret (.bl false)) .nil) .nil)
abbrev sP3c : Sm := (.iff (.bop true (.cons (.of (.cmp .Eq (.leno 9) (.var 3))) (.cons (.not (.of (.call "_law_same" (cSame 2) (.cons (.call "_law_lasts" cLasts (.cons (.var 4) (.cons (.var 9) .nil))) (.cons (.var 12) .nil))))) .nil))) (.cons (.ret (.bl false)) .nil) .nil)
abbrev sP3 : Sm := (.iff (.of (.inr (.leno 9) (.int 1) (.int 9))) (.cons sP3a (.cons sP3b (.cons sP3c .nil))) .nil)
def keptF (ns us : List Int) (m : Int) : Bool := decide ((us.length : Int) = m) && (List.zipWith (fun a b => decide (a ≤ b)) (dueF ns) us).all id
theorem law_p3a {a0 a1 a2 a4 a6 a7 a8 a10 a11 a12 : Sl} {m : Int} {ns us : List Int} {S : Ss} {Q : EndsD} (hd : (dueF ns).length ≤ 1000)
    (hq : Q.nx [a0, a1, a2, .v (.int m), a4, .v (.tup ((dueF ns).map .int)), a6, a7, a8, .v (.tup (us.map .int)), a10, a11, .v (.bl (keptF ns us m)), .un, .un] S) :
    wpS sP3a [a0, a1, a2, .v (.int m), a4, .v (.tup ((dueF ns).map .int)), a6, a7, a8, .v (.tup (us.map .int)), a10, a11, a12, .un, .un] S Q := by
  have hz := sizeLine_eq
  have hln : ((us.map D.int).length : Int) = ((us.length : Nat) : Int) := by simp
  refine ⟨_, rfl, trivial, ⟨rfl, rfl⟩, _, rfl, ?_⟩
  show if (((us.map D.int).length : Int) == m) = true then _ else _
  rw [hln]
  by_cases h : (us.length : Int) = m
  · rw [if_pos (by simpa using h)]
    refine .inr ⟨_, _, rfl, rfl, ⟨trivial, trivial, trivial⟩, ?_⟩
    refine lc_rel (t := .tup [14, 13]) (ts := .nil) (elt := .cmp .LtE (.var 14) (.var 13)) (vs := [14, 13]) (ρ1 := [a0, a1, a2, .v (.int m), a4, .v (.tup ((dueF ns).map .int)), a6, a7, a8, .v (.tup (us.map .int)), a10, a11, a12, .un, .un]) (S := S)
      (Q := fun ds ρ1 S1 => optW (bcV .all [.lst ds]) fun z => Q.nx (ρ1.set 12 (.v z)) S1) (fun _ => true) (fun x y => y = .bl (leP x)) (zipD ((dueF ns).map .int) (us.map .int)) [] _ rfl ?_ (fun x hx => ?_) fun res a => ?_
    · unfold zipD
      simp
      omega
    · obtain ⟨u, w, rfl⟩ := zip_mem hx
      exact ⟨rfl, rfl, rfl, rfl, fun _ => ⟨trivial, rfl, rfl, rfl⟩⟩
    · rw [filter_true] at a
      have := a.map
      subst this
      rw [List.nil_append]
      have hb : bcV .all [.lst ((zipD ((dueF ns).map .int) (us.map .int)).map fun x => .bl (leP x))] = some (True, .bl (((zipD ((dueF ns).map .int) (us.map .int)).map leP).all id)) := by
        show (boolsD _).map _ = _
        rw [boolsD_map]; rfl
      refine optW_some hb trivial ?_
      have e : ((zipD ((dueF ns).map .int) (us.map .int)).map leP).all id = keptF ns us m := by
        unfold keptF
        rw [decide_eq_true h, Bool.true_and, ← zip_le, List.all_map]
        rfl
      rw [e]
      exact hq
  · have h' : ((us.length : Int) == m) = false := beq_eq_false_iff_ne.mpr h
    rw [h', if_neg (by decide)]
    have e : keptF ns us m = false := by unfold keptF; rw [decide_eq_false h, Bool.false_and]
    rw [e] at hq
    have e2 : PyData.eqv (.int (us.length : Nat)) (.int m) = false := h'
    rw [e2]
    exact hq
theorem areW_ints {us : List Int} (h1 : 1 ≤ us.length) (h2 : us.length ≤ 8) (h : ∀ w ∈ us, 1 ≤ w ∧ w ≤ 64) : areW (.tup (us.map .int)) = true := by
  unfold areW rowIn
  rw [Bool.and_eq_true, Bool.and_eq_true]
  refine ⟨⟨by simp; omega, by simp; omega⟩, List.all_eq_true.mpr fun d hd => ?_⟩
  obtain ⟨w, hw, rfl⟩ := List.mem_map.mp hd
  have := h w hw
  simp [numIn]; omega
theorem law_p3 {a0 a1 a2 a6 a7 a8 a10 a11 a12 : Sl} {m : Int} {ns us : List Int} {S : Ss} {Q : EndsD} (hm : 1 ≤ m ∧ m ≤ 8) (hns : okL m ns) (hu : us.length ≤ 200) (hw : ∀ w ∈ us, 1 ≤ w ∧ w ≤ 64)
    (hq : ∀ y, Q.nx [a0, a1, a2, .v (.int m), .v (.tup (ns.map .int)), .v (.tup ((dueF ns).map .int)), a6, a7, a8, .v (.tup (us.map .int)), a10, a11, y, .un, .un] S) :
    wpS sP3 [a0, a1, a2, .v (.int m), .v (.tup (ns.map .int)), .v (.tup ((dueF ns).map .int)), a6, a7, a8, .v (.tup (us.map .int)), a10, a11, a12, .un, .un] S Q := by
  obtain ⟨hdl, hdw⟩ := due_ok hm hns
  obtain ⟨ht, hmx⟩ := okL_T2 hm hns
  have hln : ((us.map D.int).length : Int) = ((us.length : Nat) : Int) := by simp
  refine ⟨_, rfl, trivial, _, 1, 9, rfl, rfl, rfl, ⟨by omega, by omega⟩, ⟨by omega, by omega⟩, trivial, ?_⟩
  rw [hln]
  show if decide ((1 : Int) ≤ (us.length : Int) ∧ (us.length : Int) < 9) = true then _ else _
  by_cases hr : (1 : Int) ≤ (us.length : Int) ∧ (us.length : Int) < 9
  · rw [if_pos (by simpa using hr)]
    refine law_p3a (by omega) ?_
    have ha := areW_ints (us := us) (by omega) (by omega) hw
    have hk : (decide ((dueF ns).length = us.length) && (List.zipWith (fun a b => decide (a ≤ b)) (dueF ns) us).all id) = keptF ns us m := by
      unfold keptF
      congr 1
      rw [decide_eq_decide]
      omega
    refine call_run rfl ⟨_, rfl, fun d hd => ?_, ?_⟩
    · obtain ⟨w, _, rfl⟩ := List.mem_map.mp hd
      trivial
    · rw [ha]
      refine ⟨trivial, trivial, ?_⟩
      refine call_run rfl ⟨ns, us, rfl, ht.1, by omega, ?_⟩
      rw [hk]
      refine call_run rfl ⟨_, _, rfl, trivial, trivial, ?_⟩
      rw [eqD_bl]
      refine ⟨trivial, ?_⟩
      refine ⟨_, rfl, trivial, ⟨rfl, rfl⟩, trivial, ?_⟩
      show if (((us.map D.int).length : Int) == m) = true then _ else _
      rw [hln]
      by_cases h : (us.length : Int) = m
      · rw [if_pos (by simpa using h)]
        refine call_run rfl ⟨ns, us, rfl, ht.1.2.1, by omega, ?_⟩
        have hl := lasts_keeps (ws := us) ht (by omega) fun w hw' => by have := (hw w hw').1; omega
        have hl2 : lastsF us (ns ++ ns) us = keptF ns us m := by
          rw [hl]
          unfold keptF
          rw [decide_eq_true h, Bool.true_and]
        rw [hl2]
        refine call_run rfl ⟨_, _, rfl, trivial, trivial, ?_⟩
        rw [eqD_bl]
        exact ⟨trivial, hq _⟩
      · have h' : ((us.length : Int) == m) = false := beq_eq_false_iff_ne.mpr h
        rw [h', if_neg (by decide)]
        have e2 : PyData.eqv (.int (us.length : Nat)) (.int m) = false := h'
        rw [e2]
        exact hq _
  · rw [if_neg (by simpa using hr)]
    exact hq _
end Py
set_option Elab.async false
set_option linter.all false
set_option maxRecDepth 100000
set_option maxHeartbeats 4000000
/-! k96: law, the spoilt waits and one step. -/
namespace Py
open PySem PySem.Spec PyProof.Rows L2 GxR

abbrev sP4a : Sm := (.set 10 (.call "_law_spoilt" (cSp 2) (.cons (.var 1) (.cons (.var 9) .nil))))
abbrev sP4b : Sm := (.set 11 (.bop true (.cons (.isi (.var 10) "tuple") (.cons (.chain .LtE .LtE (.int 1) (.leno 10) (.int 8)) (.cons (.bc .all (.cons (.comp (.call "_law_is_number" cNum (.cons (.var 13) (.cons (.int 1) (.cons (.int 64) .nil)))) (.name 13) (.of (.var 10)) .nil [("wait", 13)]) .nil)) .nil)))))
abbrev sP4c : Sm := (.iff (.not (.of (.call "_law_same" (cSame 2) (.cons (.call "are_waits" cAre (.cons (.var 10) .nil)) (.cons (.var 11) .nil))))) (.cons (.ret (.bl false)) .nil) .nil)
theorem law_p4b {a0 a1 a2 a3 a4 a5 a6 a7 a8 a9 a11 a12 : Sl} {d : D} {S : Ss} {Q : EndsD} (h : resD d)
    (hq : Q.nx [a0, a1, a2, a3, a4, a5, a6, a7, a8, a9, .v d, .v (.bl (areW d)), a12, .un, .un] S) :
    wpS sP4b [a0, a1, a2, a3, a4, a5, a6, a7, a8, a9, .v d, a11, a12, .un, .un] S Q := by
  have hz := sizeLine_eq
  cases d with
  | obj _ => exact h.1.elim
  | scr _ => exact h.1.elim
  | cel _ => exact h.1.elim
  | tup ds =>
    refine ⟨true, rfl, true, rfl, ?_⟩
    rw [if_pos rfl]
    have hlen : ∀ n : Nat, bcV .len [.tup ds] = some (True, .int (ds.length : Nat)) := fun _ => rfl
    refine ⟨_, rfl, trivial, trivial, ?_⟩
    show if decide ((1 : Int) ≤ (ds.length : Int)) = true then _ else _
    by_cases h1 : (1 : Int) ≤ (ds.length : Int)
    · rw [if_pos (by simpa using h1)]
      refine ⟨trivial, _, rfl, ?_⟩
      show if decide ((ds.length : Int) ≤ 8) = true then _ else _
      by_cases h8 : (ds.length : Int) ≤ 8
      · rw [if_pos (by simpa using h8)]
        refine ⟨ds, rfl, ⟨trivial, trivial⟩, ?_⟩
        refine lc_rel (t := .name 13) (ts := .nil) (elt := .call "_law_is_number" cNum (.cons (.var 13) (.cons (.int 1) (.cons (.int 64) .nil)))) (vs := [13]) (ρ1 := [a0, a1, a2, a3, a4, a5, a6, a7, a8, a9, .v (.tup ds), a11, a12, .un, .un]) (S := S)
          (Q := fun ds ρ1 S1 => optW (bcV .all [.lst ds]) fun z => Q.nx (ρ1.set 11 (.v z)) S1) (fun _ => true) (fun x y => y = .bl (numIn x 1 64)) ds [] _ rfl (by simp; omega) (fun x hx => ?_) fun res a => ?_
        · refine ⟨rfl, rfl, rfl, fun _ => ?_⟩
          exact call_run rfl ⟨x, 1, 64, rfl, h.2 x hx, rfl, rfl, rfl⟩
        · rw [filter_true] at a
          have := a.map
          subst this
          rw [List.nil_append]
          have hb : bcV .all [.lst (ds.map fun x => .bl (numIn x 1 64))] = some (True, .bl ((ds.map fun x => numIn x 1 64).all id)) := by
            show (boolsD _).map _ = _
            rw [boolsD_map]; rfl
          refine optW_some hb trivial ?_
          have e : (ds.map fun x => numIn x 1 64).all id = areW (.tup ds) := by
            simp only [areW, rowIn]
            rw [decide_eq_true h1, decide_eq_true h8, List.all_map]
            rfl
          rw [e]
          exact hq
      · rw [if_neg (by simpa using h8)]
        have e : areW (.tup ds) = false := by simp only [areW, rowIn]; rw [decide_eq_false h8]; simp
        rw [e] at hq
        rw [decide_eq_false h8]
        exact hq
    · rw [if_neg (by simpa using h1)]
      have e : areW (.tup ds) = false := by simp only [areW, rowIn]; rw [decide_eq_false h1]; simp
      rw [e] at hq
      exact ⟨false, rfl, hq⟩
  | _ => exact ⟨false, rfl, false, rfl, hq⟩
abbrev sP4 : Sms := .cons sP4a (.cons sP4b (.cons sP4c .nil))
theorem law_p4 {a0 a2 a3 a4 a5 a6 a7 a8 a10 a11 a12 : Sl} {n : Nat} {us : List Int} {S : Ss} {Q : EndsD} (hS : S[n]? = some (.box 0)) (hu : us.length ≤ 200)
    (hq : ∀ y10 y11, Q.nx [a0, .v (.obj n), a2, a3, a4, a5, a6, a7, a8, .v (.tup (us.map .int)), y10, y11, a12, .un, .un] S) :
    wpSs sP4 [a0, .v (.obj n), a2, a3, a4, a5, a6, a7, a8, .v (.tup (us.map .int)), a10, a11, a12, .un, .un] S Q := by
  refine call_run rfl ⟨n, _, rfl, hS, ⟨by simp; omega, us, rfl⟩, fun d hd => ?_⟩
  refine law_p4b hd ?_
  refine call_run rfl ⟨d, rfl, hd.2, ?_⟩
  refine call_run rfl ⟨_, _, rfl, trivial, trivial, ?_⟩
  rw [eqD_bl]
  exact ⟨trivial, hq _ _⟩
def mLawS : Sms := .cons sP1 (.cons sP2 (.cons sP3 sP4))
/-- one step of a turn -/
theorem law_step {a0 a2 a6 a7 a8 a9 a10 a11 a12 : Sl} {n : Nat} {m : Int} {ns : List Int} {S : Ss} {Q : EndsD} (hS : S[n]? = some (.box 0)) (hm : 1 ≤ m ∧ m ≤ 8) (hns : okL m ns)
    (hq : ∀ y9 y10 y11 y12, Q.nx [a0, .v (.obj n), a2, .v (.int m), .v (.tup (ns.map .int)), .v (.tup ((dueF ns).map .int)), a6, a7, a8, y9, y10, y11, y12, .un, .un] S) :
    wpSs mLawS [a0, .v (.obj n), a2, .v (.int m), .v (.tup (ns.map .int)), .v (.tup ((dueF ns).map .int)), a6, a7, a8, a9, a10, a11, a12, .un, .un] S Q := by
  obtain ⟨hdl, hdw⟩ := due_ok hm hns
  refine law_p1 hS (by omega) fun ws h1 h2 => ?_
  refine law_p2 hS (by omega) h2 fun us h3 h4 => ?_
  refine law_p3 hm hns h3 h4 fun y => ?_
  exact law_p4 hS h3 fun y10 y11 => hq _ _ _ _
end Py
set_option Elab.async false
set_option linter.all false
set_option maxRecDepth 100000
set_option maxHeartbeats 4000000
/-! k96: law. -/
namespace Py
open PySem PySem.Spec PyProof.Rows L2 GxR

abbrev sT1 : Sm := (.set 3 (.bin .Add (.int 1) (.call "_law_draw" cDraw (.cons (.var 1) (.cons (.int 8) .nil)))))
abbrev sT2 : Sm := (.set 4 (.call "_law_turns" cTurns (.cons (.var 1) (.cons (.tup (.cons (.var 3) (.cons (.int 1) (.cons (.bl true) .nil)))) .nil))))
abbrev sT3 : Sm := (.set 4 (.ite (.of (.cmp .Eq (.call "_law_draw" cDraw (.cons (.var 1) (.cons (.int 5) .nil))) (.int 0))) (.sl (.bin .Mult (.var 4) (.int 64)) .no (.so (.int 64))) (.var 4)))
abbrev sT4 : Sm := (.set 5 (.call "_law_waits_of" cWaits (.cons (.var 4) .nil)))
abbrev sT5 : Sm := (.iff (.bop false (.cons (.not (.of (.call "_law_same" (cSame 2) (.cons (.call "waits_of" cWaits (.cons (.var 4) .nil)) (.cons (.var 5) .nil))))) (.cons (.not (.of (.call "_law_same" (cSame 2) (.cons (.call "longest_wait" cLong (.cons (.var 4) .nil)) (.cons (.bc .max1 (.cons (.var 5) .nil)) .nil))))) .nil))) (.cons (.ret (.bl false)) .nil) .nil)
abbrev sT6 : Sm := (.fr (.name 6) (.range1 (.int 6)) mLawS)
abbrev eRest : E := (.bin .Add (.int 1) (.call "_law_draw" cDraw (.cons (.var 1) (.cons (.var 13) .nil))))
abbrev sT7 : Sm := (.set 7 (.bc .tuple (.cons (.comp eRest (.name 13) (.of (.var 5)) .nil [("wait", 13)]) .nil)))
abbrev sT8 : Sm := (.fr (.name 8) (.range1 (.var 3)) mLawH)
def okR (n : Nat) (m : Int) (ns : List Int) (a0 : Sl) (ρ : Ro) : Prop := ∃ a2 a6 a7 a8 a9 a10 a11 a12, ρ = [a0, .v (.obj n), a2, .v (.int m), .v (.tup (ns.map .int)), .v (.tup ((dueF ns).map .int)), a6, a7, a8, a9, a10, a11, a12, .un, .un]
theorem eqD_int1 (i : Int) : eqD (.int i) (.int i) = true := by
  have : eqD (.tup ([i].map .int)) (.tup ([i].map .int)) = true := eqD_ints [i]
  have e : eqD (.tup ([i].map .int)) (.tup ([i].map .int)) = (eqD (.int i) (.int i) && true) := rfl
  rw [e, Bool.and_true] at this
  exact this
theorem law_t6 {n : Nat} {m : Int} {ns : List Int} {a0 : Sl} {ρ : Ro} {S : Ss} {Q : EndsD} (hS : S[n]? = some (.box 0)) (hm : 1 ≤ m ∧ m ≤ 8) (hns : okL m ns) (hr : okR n m ns a0 ρ)
    (hq : ∀ ρ, okR n m ns a0 ρ → Q.nx ρ S) : wpS sT6 ρ S Q := by
  refine ⟨6, rfl, ⟨by decide, by decide⟩, ?_⟩
  refine fr_range 6 (fun _ ρ S' => S' = S ∧ okR n m ns a0 ρ) ⟨rfl, hr⟩ (fun i ρ S' hi ⟨e, h⟩ => ?_) (fun ρ S' ⟨e, h⟩ => ?_)
  · subst e
    obtain ⟨a2, a6, a7, a8, a9, a10, a11, a12, rfl⟩ := h
    exact law_step hS hm hns fun y9 y10 y11 y12 => ⟨rfl, _, _, _, _, _, _, _, _, rfl⟩
  · subst e
    exact hq _ h
theorem law_t78 {n : Nat} {m : Int} {ns : List Int} {a0 : Sl} {ρ : Ro} {S : Ss} {Q : EndsD} (hS : S[n]? = some (.box 0)) (hm : 1 ≤ m ∧ m ≤ 8) (hns : okL m ns) (hr : okR n m ns a0 ρ)
    (hq : ∀ ρ, okR n m ns a0 ρ → Q.nx ρ S) : wpSs (.cons sT7 (.cons sT8 .nil)) ρ S Q := by
  have hz := sizeLine_eq
  obtain ⟨hdl, hdw⟩ := due_ok hm hns
  obtain ⟨a2, a6, a7, a8, a9, a10, a11, a12, rfl⟩ := hr
  refine ⟨(dueF ns).map .int, rfl, ⟨trivial, trivial⟩, ?_⟩
  refine lc_rel (t := .name 13) (ts := .nil) (elt := eRest) (vs := [13]) (ρ1 := [a0, .v (.obj n), a2, .v (.int m), .v (.tup (ns.map .int)), .v (.tup ((dueF ns).map .int)), a6, a7, a8, a9, a10, a11, a12, .un, .un]) (S := S)
    (Q := fun ds ρ1 S1 => optW (bcV .tuple [.lst ds]) fun z => wpSs (.cons sT8 .nil) (ρ1.set 7 (.v z)) S1 Q) (fun _ => true) (fun x y => ∃ v : Int, y = .int v ∧ 1 ≤ v) ((dueF ns).map .int) [] _ rfl (by simp; omega) (fun x hx => ?_) fun res a => ?_
  · obtain ⟨w, hw, rfl⟩ := List.mem_map.mp hx
    have hw' := hdw w hw
    refine ⟨rfl, rfl, rfl, fun _ => ?_⟩
    refine draw_run hS (by omega) (by omega) fun d hd => ?_
    exact ⟨trivial, ⟨_, rfl, by omega⟩, rfl, rfl⟩
  · rw [filter_true] at a
    obtain ⟨vs, e, e2, h⟩ := all2_ints (P := fun v => 1 ≤ v) a
    subst e
    have hl : (dueF ns).length = vs.length := by simpa using e2.symm
    refine ⟨trivial, ?_⟩
    refine ⟨m, rfl, ⟨by omega, by omega⟩, ?_⟩
    refine fr_range m.toNat (fun _ ρ S' => S' = S ∧ ∃ a8, ρ = [a0, .v (.obj n), a2, .v (.int m), .v (.tup (ns.map .int)), .v (.tup ((dueF ns).map .int)), a6, .v (.tup (vs.map .int)), a8, a9, a10, a11, a12, .un, .un]) ⟨rfl, _, rfl⟩ (fun i ρ S' hi ⟨e, h⟩ => ?_) (fun ρ S' ⟨e, h⟩ => ?_)
    · subst e
      obtain ⟨a8', rfl⟩ := h
      exact law_h hl (by omega) ⟨rfl, _, rfl⟩
    · subst e
      obtain ⟨a8', rfl⟩ := h
      exact hq _ ⟨_, _, _, _, _, _, _, _, rfl⟩
theorem law_t45 {n : Nat} {m : Int} {ns : List Int} {a0 a2 a5 a6 a7 a8 a9 a10 a11 a12 : Sl} {S : Ss} {Q : EndsD} (hS : S[n]? = some (.box 0)) (hm : 1 ≤ m ∧ m ≤ 8) (hns : okL m ns)
    (hq : ∀ ρ, okR n m ns a0 ρ → Q.nx ρ S) :
    wpSs (.cons sT4 (.cons sT5 (.cons sT6 (.cons sT7 (.cons sT8 .nil))))) [a0, .v (.obj n), a2, .v (.int m), .v (.tup (ns.map .int)), a5, a6, a7, a8, a9, a10, a11, a12, .un, .un] S Q := by
  obtain ⟨hdl, hdw⟩ := due_ok hm hns
  obtain ⟨ht, hmx⟩ := okL_T2 hm hns
  have hne : dueF ns ≠ [] := fun z => by rw [z] at hdl; simp at hdl; omega
  refine call_run rfl ⟨ns, rfl, ht.1, ?_⟩
  refine call_run rfl ⟨ns, rfl, ht.1, ?_⟩
  refine call_run rfl ⟨_, _, rfl, sz_ints (k := 0) (by omega), sz_ints (k := 0) (by omega), ?_⟩
  rw [eqD_ints]
  refine ⟨trivial, ?_⟩
  refine call_run rfl ⟨ns, rfl, ht, ?_⟩
  refine optW_some (max1_ints _) hne ?_
  refine call_run rfl ⟨_, _, rfl, trivial, trivial, ?_⟩
  rw [eqD_int1]
  refine ⟨trivial, ?_⟩
  refine law_t6 hS hm hns ⟨_, _, _, _, _, _, _, _, rfl⟩ fun ρ h => ?_
  exact law_t78 hS hm hns h hq
def mLawT : Sms := .cons sT1 (.cons sT2 (.cons sT3 (.cons sT4 (.cons sT5 (.cons sT6 (.cons sT7 (.cons sT8 .nil)))))))
theorem law_turn {n : Nat} {a0 a2 a3 a4 a5 a6 a7 a8 a9 a10 a11 a12 : Sl} {S : Ss} {Q : EndsD} (hS : S[n]? = some (.box 0))
    (hq : ∀ m ns ρ, okR n m ns a0 ρ → Q.nx ρ S) :
    wpSs mLawT [a0, .v (.obj n), a2, a3, a4, a5, a6, a7, a8, a9, a10, a11, a12, .un, .un] S Q := by
  have hz := sizeLine_eq
  refine draw_run hS (by omega) (by omega) fun d8 hd8 => ⟨trivial, ?_⟩
  have hm : (1 : Int) ≤ 1 + (d8 : Nat) ∧ (1 : Int) + (d8 : Nat) ≤ 8 := by omega
  refine ⟨by show 3 ≤ sizeLine; omega, ?_⟩
  refine call_run rfl ⟨n, _, rfl, hS, hm.1, hm.2, fun ns hns => ?_⟩
  refine draw_run hS (by omega) (by omega) fun d5 hd5 => ⟨⟨rfl, rfl⟩, trivial, ?_⟩
  have hlen : ns.length ≤ 64 := by have := hns.2.2; omega
  have hpos : 1 ≤ ns.length := by
    obtain ⟨h1, h2, h3⟩ := hns
    exact List.length_pos_of_mem (h2 0 (by omega) (by omega))
  show if ((d5 : Int) == 0) = true then _ else _
  by_cases h0 : (d5 : Int) = 0
  · rw [if_pos (by simpa using h0)]
    refine ⟨⟨by omega, by omega, by simp; omega⟩, ?_⟩
    refine ⟨64, rfl, trivial, ?_⟩
    have e : cutD (List.replicate (64 : Int).toNat (ns.map D.int)).flatten none (some 64) = (((List.replicate 64 ns).flatten).take 64).map .int := by
      have := cut_take D.int (List.replicate 64 ns).flatten 64 (by simp; omega)
      rw [← this]
      congr 1
      rw [List.map_flatten, List.map_replicate]
      rfl
    rw [e]
    exact law_t45 hS hm (okL_rep hm hns) fun ρ h => hq _ _ ρ h
  · rw [if_neg (by simpa using h0)]
    exact law_t45 hS hm ⟨hns.1, hns.2.1, by omega⟩ fun ρ h => hq _ _ ρ h
def mLaw : Sms := (.cons (.set 1 (.call "_law_box" cBox (.cons (.var 0) .nil))) (.cons (.iff (.not (.of (.call "_law_same" (cSame 2) (.cons (.glo "MOST_WAIT" (.int 64)) (.cons (.int 64) .nil))))) (.cons (.ret (.bl false)) .nil) .nil) (.cons (.fr (.name 2) (.range1 (.int 4)) mLawT) (.cons (.ret (.bl true)) .nil))))
def cLaw : Ct := ⟨1, fun ds S Q => ∃ ns, ds = [.scr ns] ∧ ∀ S', Q (.bl true) S'⟩
theorem law_wp (ds : List D) (S : Ss) (Q : D → Ss → Prop) (hl : ds.length = 1) (h : cLaw.run ds S Q) : wpSs mLaw (startR 15 ds) S (endsQ Q) := by
  obtain ⟨ks, e, hq⟩ := h
  subst e
  refine call_run rfl ⟨ks, rfl, ?_⟩
  refine call_run rfl ⟨_, _, rfl, trivial, trivial, ?_⟩
  rw [eqD_int1]
  refine ⟨trivial, ?_⟩
  refine ⟨4, rfl, ⟨by decide, by decide⟩, ?_⟩
  have hS : (S ++ [Cell.box 0])[S.length]? = some (.box 0) := by simp
  generalize S ++ [Cell.box 0] = S1 at *
  generalize S.length = n at *
  refine fr_range 4 (fun _ ρ S' => S' = S1 ∧ ∃ a2 a3 a4 a5 a6 a7 a8 a9 a10 a11 a12, ρ = [.v (.scr ks), .v (.obj n), a2, a3, a4, a5, a6, a7, a8, a9, a10, a11, a12, .un, .un]) ⟨rfl, _, _, _, _, _, _, _, _, _, _, _, rfl⟩ (fun i ρ S' hi ⟨e, h⟩ => ?_) (fun ρ S' ⟨e, h⟩ => ?_)
  · subst e
    obtain ⟨a2, a3, a4, a5, a6, a7, a8, a9, a10, a11, a12, rfl⟩ := h
    refine law_turn hS fun m ns ρ hr => ⟨rfl, ?_⟩
    obtain ⟨b2, b6, b7, b8, b9, b10, b11, b12, rfl⟩ := hr
    exact ⟨_, _, _, _, _, _, _, _, _, _, _, rfl⟩
  · subst e
    obtain ⟨a2, a3, a4, a5, a6, a7, a8, a9, a10, a11, a12, rfl⟩ := h
    exact hq _
end Py
set_option Elab.async false
set_option linter.all false
set_option maxRecDepth 100000
set_option maxHeartbeats 4000000
/-! k96: the defs by their names. -/
namespace Py
open PySem PySem.Spec PyProof.Rows L2 GxR
def top (i : Nat) : Stmt := PySem.Challenge.pw_keystotext_k96_whole_waits_and_rests.main.body.getD i (.Pass ⟨0, 0, 0, 0⟩)
def fs : List (Str × Stmt) := [("is_number", top 1), ("is_row", top 2), ("are_waits", top 6), ("waits_of", top 7), ("do_keep", top 8), ("rest_behind", top 9), ("longest_wait", top 11), ("_law_box", top 13), ("_law_load", top 14), ("_law_draw", top 15), ("_law_same", top 16), ("_law_is_number", top 17), ("_law_spoilt", top 18), ("_law_turns", top 19), ("_law_waits_of", top 20), ("_law_rest_behind", top 21), ("_law_lasts", top 22), ("law", top 23)]
def gi : List (Str × Int) := [("MOST_LINES", 8), ("MOST_WAIT", 64)]
section
variable {P : Program} {w : World} {K : PySem.W.Frag} {mg : Str → Option Value} {base : Heap}
theorem bind1 {p : Str × Stmt} {a : Str} (h : ∀ (kV doc pm : Value) (an : Option Addr) (cdv ct : Value) (x : Value), bindArgs (PySem.W.fnOf p.1 p.1 (defArgs p.2) (defBody p.2) (defScope p.2) .none kV doc pm an cdv ct) ⟨[x], []⟩ = pure ([a].zip [x])) : BindAll p [a] := fun kV doc pm an cdv ct us hl => by
  match us, hl with
  | [x], _ => exact h kV doc pm an cdv ct x
theorem bind2 {p : Str × Stmt} {a b : Str} (h : ∀ (kV doc pm : Value) (an : Option Addr) (cdv ct : Value) (x y : Value), bindArgs (PySem.W.fnOf p.1 p.1 (defArgs p.2) (defBody p.2) (defScope p.2) .none kV doc pm an cdv ct) ⟨[x, y], []⟩ = pure ([a, b].zip [x, y])) : BindAll p [a, b] := fun kV doc pm an cdv ct us hl => by
  match us, hl with
  | [x, y], _ => exact h kV doc pm an cdv ct x y
theorem bind3 {p : Str × Stmt} {a b c : Str} (h : ∀ (kV doc pm : Value) (an : Option Addr) (cdv ct : Value) (x y z : Value), bindArgs (PySem.W.fnOf p.1 p.1 (defArgs p.2) (defBody p.2) (defScope p.2) .none kV doc pm an cdv ct) ⟨[x, y, z], []⟩ = pure ([a, b, c].zip [x, y, z])) : BindAll p [a, b, c] := fun kV doc pm an cdv ct us hl => by
  match us, hl with
  | [x, y, z], _ => exact h kV doc pm an cdv ct x y z
theorem c_num (M : Md gi fs w K mg base) : Cal P w K mg base (TOf K fs) 2 "is_number" cNum :=
  M.cal (lev := 0) (ct := []) (n := 60) (p := ("is_number", top 1)) (N := ["value", "least", "most"]) (ps := ["value", "least", "most"]) (own := []) (bx := ["box"]) (ce := ["cells"]) (ga := true) (C := cNum) (ms := mNum) trivial (List.mem_of_getElem? (i := 0) rfl) ⟨rfl, rfl, rfl, by decide +kernel, rfl, by decide +kernel, by decide +kernel⟩ rfl (bind3 fun _ _ _ _ _ _ _ _ _ => by rfl) (by kernel_rfl) fun ds S Q hl h => num_wp ds S Q hl h
theorem c_lnum (M : Md gi fs w K mg base) : Cal P w K mg base (TOf K fs) 2 "_law_is_number" cNum :=
  M.cal (lev := 0) (ct := []) (n := 60) (p := ("_law_is_number", top 17)) (N := ["value", "least", "most"]) (ps := ["value", "least", "most"]) (own := []) (bx := ["box"]) (ce := ["cells"]) (ga := true) (C := cNum) (ms := mNum) trivial (List.mem_of_getElem? (i := 11) rfl) ⟨rfl, rfl, rfl, by decide +kernel, rfl, by decide +kernel, by decide +kernel⟩ rfl (bind3 fun _ _ _ _ _ _ _ _ _ => by rfl) (by kernel_rfl) fun ds S Q hl h => num_wp ds S Q hl h
theorem c_row (M : Md gi fs w K mg base) : Cal P w K mg base (TOf K fs) 2 "is_row" cRow :=
  M.cal (lev := 0) (ct := []) (n := 60) (p := ("is_row", top 2)) (N := ["value", "least", "most"]) (ps := ["value", "least", "most"]) (own := []) (bx := ["box"]) (ce := ["cells"]) (ga := true) (C := cRow) (ms := mRow) trivial (List.mem_of_getElem? (i := 1) rfl) ⟨rfl, rfl, rfl, by decide +kernel, rfl, by decide +kernel, by decide +kernel⟩ rfl (bind3 fun _ _ _ _ _ _ _ _ _ => by rfl) (by kernel_rfl) fun ds S Q hl h => row_wp ds S Q hl h
theorem c_are (M : Md gi fs w K mg base) : Cal P w K mg base (TOf K fs) 4 "are_waits" cAre :=
  M.cal (lev := 2) (ct := [("is_row", cRow), ("is_number", cNum)]) (n := 60) (p := ("are_waits", top 6)) (N := ["value", "wait"]) (ps := ["value"]) (own := []) (bx := ["box"]) (ce := ["cells"]) (ga := true) (C := cAre) (ms := mAre) ⟨(c_row M).up (by decide), ⟨(c_num M).up (by decide), trivial⟩⟩ (List.mem_of_getElem? (i := 2) rfl) ⟨rfl, rfl, rfl, by decide +kernel, rfl, by decide +kernel, by decide +kernel⟩ rfl (bind1 fun _ _ _ _ _ _ _ => by rfl) (by kernel_rfl) fun ds S Q hl h => are_wp ds S Q hl h
theorem c_waits (M : Md gi fs w K mg base) : Cal P w K mg base (TOf K fs) 2 "waits_of" cWaits :=
  M.cal (lev := 0) (ct := []) (n := 60) (p := ("waits_of", top 7)) (N := ["turns", "found", "line", "places", "after", "k", "here", "one", "later"]) (ps := ["turns"]) (own := ["found"]) (bx := ["box"]) (ce := ["cells"]) (ga := true) (C := cWaits) (ms := mWaits) trivial (List.mem_of_getElem? (i := 3) rfl) ⟨rfl, rfl, rfl, by decide +kernel, rfl, by decide +kernel, by decide +kernel⟩ rfl (bind1 fun _ _ _ _ _ _ _ => by rfl) (by kernel_rfl) fun ds S Q hl h => waits_wp ds S Q hl h
theorem c_keep (M : Md gi fs w K mg base) : Cal P w K mg base (TOf K fs) 4 "do_keep" cKeep :=
  M.cal (lev := 2) (ct := [("waits_of", cWaits)]) (n := 60) (p := ("do_keep", top 8)) (N := ["turns", "waits", "told", "here", "wait"]) (ps := ["turns", "waits"]) (own := []) (bx := ["box"]) (ce := ["cells"]) (ga := true) (C := cKeep) (ms := mKeep) ⟨(c_waits M).up (by decide), trivial⟩ (List.mem_of_getElem? (i := 4) rfl) ⟨rfl, rfl, rfl, by decide +kernel, rfl, by decide +kernel, by decide +kernel⟩ rfl (bind2 fun _ _ _ _ _ _ _ _ => by rfl) (by kernel_rfl) fun ds S Q hl h => keep_wp ds S Q hl h
theorem c_rest (M : Md gi fs w K mg base) : Cal P w K mg base (TOf K fs) 2 "rest_behind" cRest :=
  M.cal (lev := 0) (ct := []) (n := 60) (p := ("rest_behind", top 9)) (N := ["waits", "rest", "line", "k", "left"]) (ps := ["waits", "rest", "line"]) (own := []) (bx := ["box"]) (ce := ["cells"]) (ga := true) (C := cRest) (ms := mRest) trivial (List.mem_of_getElem? (i := 5) rfl) ⟨rfl, rfl, rfl, by decide +kernel, rfl, by decide +kernel, by decide +kernel⟩ rfl (bind3 fun _ _ _ _ _ _ _ _ _ => by rfl) (by kernel_rfl) fun ds S Q hl h => rest_wp ds S Q hl h
theorem c_long (M : Md gi fs w K mg base) : Cal P w K mg base (TOf K fs) 2 "longest_wait" cLong :=
  M.cal (lev := 0) (ct := []) (n := 60) (p := ("longest_wait", top 11)) (N := ["turns", "found", "line", "places", "k", "here", "one", "later"]) (ps := ["turns"]) (own := ["found"]) (bx := ["box"]) (ce := ["cells"]) (ga := true) (C := cLong) (ms := mLong) trivial (List.mem_of_getElem? (i := 6) rfl) ⟨rfl, rfl, rfl, by decide +kernel, rfl, by decide +kernel, by decide +kernel⟩ rfl (bind1 fun _ _ _ _ _ _ _ => by rfl) (by kernel_rfl) fun ds S Q hl h => long_wp ds S Q hl h
theorem c_load (M : Md gi fs w K mg base) : Cal P w K mg base (TOf K fs) 2 "_law_load" cLoad :=
  M.cal (lev := 0) (ct := []) (n := 60) (p := ("_law_load", top 14)) (N := ["box", "cells", "first", "second", "cell", "size"]) (ps := ["box"]) (own := ["box", "cells"]) (bx := ["box"]) (ce := ["cells"]) (ga := true) (C := cLoad) (ms := mLoad) trivial (List.mem_of_getElem? (i := 8) rfl) ⟨rfl, rfl, rfl, by decide +kernel, rfl, by decide +kernel, by decide +kernel⟩ rfl (bind1 fun _ _ _ _ _ _ _ => by rfl) (by kernel_rfl) fun ds S Q hl h => load_wp ds S Q hl h
theorem c_draw (M : Md gi fs w K mg base) : Cal P w K mg base (TOf K fs) 4 "_law_draw" cDraw :=
  M.cal (lev := 2) (ct := [("_law_load", cLoad)]) (n := 60) (p := ("_law_draw", top 15)) (N := ["box", "many", "digit"]) (ps := ["box", "many"]) (own := ["box"]) (bx := ["box"]) (ce := ["cells"]) (ga := true) (C := cDraw) (ms := mDraw) ⟨(c_load M).up (by decide), trivial⟩ (List.mem_of_getElem? (i := 9) rfl) ⟨rfl, rfl, rfl, by decide +kernel, rfl, by decide +kernel, by decide +kernel⟩ rfl (bind2 fun _ _ _ _ _ _ _ _ => by rfl) (by kernel_rfl) fun ds S Q hl h => draw_wp ds S Q hl h
theorem c_same0 (M : Md gi fs w K mg base) : Cal P w K mg base (TOf K fs) 0 "_law_same" (cSame 0) :=
  M.no (p := ("_law_same", top 16)) (ps := ["a", "b"]) (List.mem_of_getElem? (i := 10) rfl) (bind2 fun _ _ _ _ _ _ _ _ => by rfl) fun ds S Q ⟨_, _, _, h, _⟩ => h
theorem c_same1 (M : Md gi fs w K mg base) : Cal P w K mg base (TOf K fs) 2 "_law_same" (cSame 1) :=
  M.cal (lev := 0) (ct := [("_law_same", cSame 0)]) (n := 60) (p := ("_law_same", top 16)) (N := ["a", "b", "k"]) (ps := ["a", "b"]) (own := []) (bx := ["box"]) (ce := ["cells"]) (ga := true) (C := (cSame 1)) (ms := (mSame (cSame 0))) ⟨(c_same0 M).up (by decide), trivial⟩ (List.mem_of_getElem? (i := 10) rfl) ⟨rfl, rfl, rfl, by decide +kernel, rfl, by decide +kernel, by decide +kernel⟩ rfl (bind2 fun _ _ _ _ _ _ _ _ => by rfl) (by kernel_rfl) fun ds S Q hl h => same_wp 0 ds S Q hl h
theorem c_same2 (M : Md gi fs w K mg base) : Cal P w K mg base (TOf K fs) 4 "_law_same" (cSame 2) :=
  M.cal (lev := 2) (ct := [("_law_same", cSame 1)]) (n := 60) (p := ("_law_same", top 16)) (N := ["a", "b", "k"]) (ps := ["a", "b"]) (own := []) (bx := ["box"]) (ce := ["cells"]) (ga := true) (C := (cSame 2)) (ms := (mSame (cSame 1))) ⟨(c_same1 M).up (by decide), trivial⟩ (List.mem_of_getElem? (i := 10) rfl) ⟨rfl, rfl, rfl, by decide +kernel, rfl, by decide +kernel, by decide +kernel⟩ rfl (bind2 fun _ _ _ _ _ _ _ _ => by rfl) (by kernel_rfl) fun ds S Q hl h => same_wp 1 ds S Q hl h
theorem c_sp0 (M : Md gi fs w K mg base) : Cal P w K mg base (TOf K fs) 0 "_law_spoilt" (cSp 0) :=
  M.no (p := ("_law_spoilt", top 18)) (ps := ["box", "value"]) (List.mem_of_getElem? (i := 12) rfl) (bind2 fun _ _ _ _ _ _ _ _ => by rfl) fun ds S Q ⟨_, v, _, _, h, _⟩ => (by cases v <;> exact h)
theorem c_sp1 (M : Md gi fs w K mg base) : Cal P w K mg base (TOf K fs) 6 "_law_spoilt" (cSp 1) :=
  M.cal (lev := 4) (ct := [("_law_draw", cDraw), ("_law_spoilt", cSp 0)]) (n := 60) (p := ("_law_spoilt", top 18)) (N := ["box", "value", "rows", "spot"]) (ps := ["box", "value"]) (own := []) (bx := ["box"]) (ce := ["cells"]) (ga := true) (C := (cSp 1)) (ms := (mSpoilt (cSp 0))) ⟨(c_draw M).up (by decide), ⟨(c_sp0 M).up (by decide), trivial⟩⟩ (List.mem_of_getElem? (i := 12) rfl) ⟨rfl, rfl, rfl, by decide +kernel, rfl, by decide +kernel, by decide +kernel⟩ rfl (bind2 fun _ _ _ _ _ _ _ _ => by rfl) (by kernel_rfl) fun ds S Q hl h => spoilt_int 0 ds S Q h
theorem c_sp2 (M : Md gi fs w K mg base) : Cal P w K mg base (TOf K fs) 8 "_law_spoilt" (cSp 2) :=
  M.cal (lev := 6) (ct := [("_law_draw", cDraw), ("_law_spoilt", cSp 1)]) (n := 60) (p := ("_law_spoilt", top 18)) (N := ["box", "value", "rows", "spot"]) (ps := ["box", "value"]) (own := []) (bx := ["box"]) (ce := ["cells"]) (ga := true) (C := (cSp 2)) (ms := (mSpoilt (cSp 1))) ⟨(c_draw M).up (by decide), ⟨(c_sp1 M).up (by decide), trivial⟩⟩ (List.mem_of_getElem? (i := 12) rfl) ⟨rfl, rfl, rfl, by decide +kernel, rfl, by decide +kernel, by decide +kernel⟩ rfl (bind2 fun _ _ _ _ _ _ _ _ => by rfl) (by kernel_rfl) fun ds S Q hl h => spoilt_tup ds S Q h
theorem c_turns (M : Md gi fs w K mg base) : Cal P w K mg base (TOf K fs) 6 "_law_turns" cTurns :=
  M.cal (lev := 4) (ct := [("_law_draw", cDraw)]) (n := 60) (p := ("_law_turns", top 19)) (N := ["box", "board", "turn", "left", "found", "place"]) (ps := ["box", "board"]) (own := ["found", "left"]) (bx := ["box"]) (ce := ["cells"]) (ga := true) (C := cTurns) (ms := mTurns) ⟨(c_draw M).up (by decide), trivial⟩ (List.mem_of_getElem? (i := 13) rfl) ⟨rfl, rfl, rfl, by decide +kernel, rfl, by decide +kernel, by decide +kernel⟩ rfl (bind2 fun _ _ _ _ _ _ _ _ => by rfl) (by kernel_rfl) fun ds S Q hl h => turns_wp ds S Q hl h
theorem c_lwaits (M : Md gi fs w K mg base) : Cal P w K mg base (TOf K fs) 2 "_law_waits_of" cWaits :=
  M.cal (lev := 0) (ct := []) (n := 60) (p := ("_law_waits_of", top 20)) (N := ["turns", "line", "found", "two", "places", "k"]) (ps := ["turns"]) (own := ["found"]) (bx := ["box"]) (ce := ["cells"]) (ga := true) (C := cWaits) (ms := mLWaits) trivial (List.mem_of_getElem? (i := 14) rfl) ⟨rfl, rfl, rfl, by decide +kernel, rfl, by decide +kernel, by decide +kernel⟩ rfl (bind1 fun _ _ _ _ _ _ _ => by rfl) (by kernel_rfl) fun ds S Q hl h => lwaits_wp ds S Q hl h
theorem c_lrest (M : Md gi fs w K mg base) : Cal P w K mg base (TOf K fs) 2 "_law_rest_behind" cRest :=
  M.cal (lev := 0) (ct := []) (n := 60) (p := ("_law_rest_behind", top 21)) (N := ["waits", "rest", "line", "k"]) (ps := ["waits", "rest", "line"]) (own := []) (bx := ["box"]) (ce := ["cells"]) (ga := true) (C := cRest) (ms := mLRest) trivial (List.mem_of_getElem? (i := 15) rfl) ⟨rfl, rfl, rfl, by decide +kernel, rfl, by decide +kernel, by decide +kernel⟩ rfl (bind3 fun _ _ _ _ _ _ _ _ _ => by rfl) (by kernel_rfl) fun ds S Q hl h => lrest_wp ds S Q hl h
theorem c_lasts (M : Md gi fs w K mg base) : Cal P w K mg base (TOf K fs) 6 "_law_lasts" cLasts :=
  M.cal (lev := 4) (ct := [("rest_behind", cRest), ("_law_rest_behind", cRest), ("_law_same", cSame 2)]) (n := 60) (p := ("_law_lasts", top 22)) (N := ["turns", "waits", "rest", "line", "later"]) (ps := ["turns", "waits"]) (own := []) (bx := ["box"]) (ce := ["cells"]) (ga := true) (C := cLasts) (ms := mLasts) ⟨(c_rest M).up (by decide), ⟨(c_lrest M).up (by decide), ⟨(c_same2 M).up (by decide), trivial⟩⟩⟩ (List.mem_of_getElem? (i := 16) rfl) ⟨rfl, rfl, rfl, by decide +kernel, rfl, by decide +kernel, by decide +kernel⟩ rfl (bind2 fun _ _ _ _ _ _ _ _ => by rfl) (by kernel_rfl) fun ds S Q hl h => lasts_wp ds S Q hl h
theorem c_box (M : Md gi fs w K mg base) : Cal P w K mg base (TOf K fs) 1 "_law_box" cBox := by
  obtain ⟨fd, F⟩ := M.fund (p := ("_law_box", top 13)) (List.mem_of_getElem? (i := 7) rfl)
  exact ⟨_, fd, _, box_fn2 (k := 0) (x := "_law_box") (qual := "_law_box") (params := defArgs (top 13)) (scope := defScope (top 13)) M.bl F ⟨rfl, rfl, rfl, by decide +kernel, rfl, by decide +kernel, by decide +kernel⟩ (by rfl) (by rfl) (by rfl), M.glo (p := ("_law_box", top 13)) (List.mem_of_getElem? (i := 7) rfl), F.kp, F.bindsN (bind1 fun _ _ _ _ _ _ _ => by rfl)⟩
theorem c_law {fd : FuncData} (M : Md gi fs w K mg base) (F : FunD K "law" "law" (defArgs (top 23)) (defBody (top 23)) (defScope (top 23)) [] [] (He.ga K "law") fd) : FnOk P w K mg base CX0 10 (He.ga K "law") fd ["script"] (spC K (TOf K fs) cLaw) :=
  fn_okD (lev := 8) (n := 60) (gl := glOf gi) (ct := [("_law_box", cBox), ("_law_same", cSame 2), ("_law_draw", cDraw), ("_law_turns", cTurns), ("waits_of", cWaits), ("_law_waits_of", cWaits), ("longest_wait", cLong), ("are_waits", cAre), ("do_keep", cKeep), ("_law_lasts", cLasts), ("_law_spoilt", cSp 2), ("_law_is_number", cNum), ("rest_behind", cRest), ("_law_rest_behind", cRest)]) (N := ["script", "box", "turn", "lines", "turns", "due", "step", "rest", "line", "waits", "bent", "is_due", "does_keep", "wait", "here"]) (ps := ["script"]) (own := []) (bx := ["box"]) (ce := ["cells"]) (ga := true) (C := cLaw) (ms := mLaw) (M.mok ⟨(c_box M).up (by decide), ⟨(c_same2 M).up (by decide), ⟨(c_draw M).up (by decide), ⟨(c_turns M).up (by decide), ⟨(c_waits M).up (by decide), ⟨(c_lwaits M).up (by decide), ⟨(c_long M).up (by decide), ⟨(c_are M).up (by decide), ⟨(c_keep M).up (by decide), ⟨(c_lasts M).up (by decide), ⟨(c_sp2 M).up (by decide), ⟨(c_lnum M).up (by decide), ⟨(c_rest M).up (by decide), ⟨(c_lrest M).up (by decide), trivial⟩⟩⟩⟩⟩⟩⟩⟩⟩⟩⟩⟩⟩⟩) F ⟨rfl, rfl, rfl, by decide +kernel, rfl, by decide +kernel, by decide +kernel⟩ rfl (fun _ => M.tab (p := ("law", top 23)) (List.mem_of_getElem? (i := 17) rfl) F) (by kernel_rfl) fun ds S Q hl h => law_wp ds S Q hl h
theorem law_bind : BindAll ("law", top 23) ["script"] := (bind1 fun _ _ _ _ _ _ _ => by rfl)
end
end Py
set_option Elab.async false
set_option linter.all false
set_option maxRecDepth 100000
set_option maxHeartbeats 0
namespace HeadT
open PySem PySem.Spec PyProof.Rows L2 Py
def names0 : List PySem.Str := ["is_number", "is_row", "MOST_LINES", "MOST_WAIT", "are_waits", "waits_of", "do_keep", "rest_behind", "longest_wait", "_law_box", "_law_load", "_law_draw", "_law_same", "_law_is_number", "_law_spoilt", "_law_turns", "_law_waits_of", "_law_rest_behind", "_law_lasts"]
def ex : PySem.W.Frag → Bool := fun _ => true
abbrev R : PySem.W.OpenRow := PySem.W.OpenLaw.row PySem.Challenge.rw_keystotext_k96_whole_waits_and_rests
abbrev hk : PySem.W.Hook := He.hookX 4 (faOf gi fs) (fnOf' fs) [] (tfOf fs) ex
def ob (s : PySem.W.SharedT) : He.AlX := He.obsX 4 (faOf gi fs) (fnOf' fs) [] (tfOf fs) ex (HandSHeadRun.getT s)
theorem ob_eq (s : PySem.W.SharedT) : ob s = hk.obs s.abs := He.obsX_eq (HandSHeadRun.getT_eq s)
theorem run (w : World) : HandSHeadRun.RunEq R (PySem.W.view R.prog [23]) hk ob 4000 (names0) w := by
  intro os
  kernel_rfl
theorem law_at (w : World) (mg : Str → Option Value) (fa : Addr) (h : Heap) (Y : hk.says w h) (G : h.Ns mainGlobals mg) (hm : mg "law" = some (.ref fa)) :
    ∃ K : PySem.W.Frag, K.In h ∧ LamX.LawAtS PySem.Challenge.rw_keystotext_k96_whole_waits_and_rests w K CX0 10 63 "script" mg fa h := by
  obtain ⟨K, X, c⟩ := Y
  have hp : (("law" : Str), top 23) ∈ fs := List.mem_of_getElem? (i := 17) rfl
  obtain ⟨fd, F⟩ : ∃ fd, FunD K "law" "law" (defArgs (top 23)) (defBody (top 23)) (defScope (top 23)) [] [] (He.ga K "law") fd :=
    He.SaysD.defs (He.SaysT.d c.t) (d := dfs ("law", top 23)) (List.mem_map.mpr ⟨_, hp, rfl⟩)
  have e : mg "law" = some (.ref (He.ga K "law")) := He.glo_ok X G (He.SaysD.facts (He.SaysT.d c.t) (List.mem_append_right _ (List.mem_append_right _ (List.mem_map.mpr ⟨_, hp, rfl⟩))))
  rw [hm] at e
  have e2 : fa = He.ga K "law" := by
    injection e with e
    injection e
  subst e2
  refine ⟨K, X, fd, (tfOf fs).map (He.cT K), spC K (TOf K fs) cLaw, fun p hp => ?_, fun p hp => ?_, fun p hp => ?_, fun s u => F.bindsA law_bind s [u] rfl, fun H a ns hl _ hT hs => ?_, fun base Xb Gb tb => ?_⟩
  · obtain ⟨q, hq, rfl⟩ := List.mem_map.mp hp
    exact c.empty q hq
  · obtain ⟨q, hq, rfl⟩ := List.mem_map.mp hp
    exact c.out q hq
  · obtain ⟨q, hq, rfl⟩ := List.mem_map.mp hp
    exact PySem.W.codeHd_of_K X (c.hd q hq)
  · refine spC_start (C := cLaw) rfl (fun P hP => ?_) hs fun Q hQ => ⟨ns, rfl, hQ⟩
    obtain ⟨q, hq, rfl⟩ := List.mem_map.mp hP
    exact hT _ (List.mem_map.mpr ⟨q, hq, rfl⟩)
  · exact c_law ⟨Xb, Gb, He.SaysT.d c.t, fun p hp => ⟨(tb p hp).code, (tb p hp).bm, (tb p hp).gP⟩⟩ F
end HeadT
open PySem PySem.W PySem.Calls PyProof.Rows
theorem PySem.Challenge.cw_keystotext_k96_whole_waits_and_rests_holds : PySem.Challenge.rw_keystotext_k96_whole_waits_and_rests.Holds := by
  w_on; o_law
  refine HandSHeadRun.head_any (r := OpenLaw.row PySem.Challenge.rw_keystotext_k96_whole_waits_and_rests) (q := view (OpenLaw.row PySem.Challenge.rw_keystotext_k96_whole_waits_and_rests).prog [23]) (H := HeadT.hk) (ob := HeadT.ob) (M := 4000) (loose := (HeadT.names0)) (d := HandSHeadRun.topDef (OpenLaw.row PySem.Challenge.rw_keystotext_k96_whole_waits_and_rests).prog 23) (kwd := []) HeadT.ob_eq
    (by kernel_rfl) (fun s => by kernel_rfl) HeadT.run (by kernel_rfl) (by kernel_rfl) (by kernel_rfl) (by rfl) (by first | assumption | decide +kernel) (by decide +kernel) ⟨rfl, rfl, rfl, rfl, rfl, by decide +kernel⟩ ?hw ?hc
  case hw => w_witness2
  case hc => exact LamX.walk_ofTsE (l := PySem.Challenge.rw_keystotext_k96_whole_waits_and_rests) (n := 63) (k := 10) (x := "script") (CX := fun _ => L2.CX0) rfl (by decide) rfl ⟨rfl, by decide, by decide⟩ (fun w mg fa h Y G hm => HeadT.law_at w mg fa h Y G hm) (fun _ _ _ _ _ h => h)
