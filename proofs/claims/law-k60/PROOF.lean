import PyProof.Rows.All
import Wide.All
import OpenK.AllK
import Wide.FinOn
import HandS.ForMost
import HandS.AnyAll
import HandS.GenOver
import HandS.Lambda
import HandS.Exc
import HandS.TryMany
import HandS.ExcInit
import HandS.ExcOwn
import HandS.ExcField
import HandS.IsInst
import HandS.Defaults
import HandS.Strs
import HandS.SetKeys
import HandS.Zip
import HandS.TupLe
import HandS.Conv
import HandS.Style
import HandS.Flow
import HandS.StrMore
import HandS.Deep
import HandS.TupAny
import HandS.TryOnly
import HandS.WordsExc
import HandS.WordsList
import HandS.WordsDict
import HandS.CallSlots
import HandS.SetFor
import HandS.SortInts
import HandS.Set
import HandS.More
import HandS.HeadWalk
import HandS.HeadHook4
import PySem.Challenge.RW_merelylate_k60_whole_texts
import HandS.TupMul
import PyProof.StrOps2
import HandS.Head0
import HandS.Head1
import HandS.Head2
import HandS.HeadHook1
import HandS.HeadHook2
import HandS.HeadHook3
set_option Elab.async false
set_option linter.all false
set_option maxRecDepth 100000
set_option pp.deepTerms false
set_option pp.deepTerms.threshold 5
set_option maxHeartbeats 2000000
/-! all(elt for target in iter), the element with any effects -/
namespace Gn
open PySem PySem.Spec PyProof.Rows L2 GxR GenW

/-- the names of a generator expression's scope: its own with their places in N, or captured ones -/
structure GBlk (N : List Str) (sc scope : Scope) (own : List (Str × Nat)) : Prop where
  kind : scope.kind = .function
  co : scope.isCoroutine = false
  uniq : ∀ y ∈ scope.names, scope.names.lookup y.1 = some y.2
  cell : ∀ y ∈ scope.names, y.2 ≠ .cell
  dot : scope.names.lookup (".0" : Str) = some NameKind.local
  ix : ∀ p ∈ own, N[p.2]? = some p.1
  free : ∀ y ∈ scope.names, y.2 = .free → sc.names.lookup y.1 = some .cell ∨ sc.names.lookup y.1 = some .free
  own : ∀ y ∈ scope.names, y.2 = .local → y.1 ∈ own.map (·.1) ∨ y.1 ∉ N
def gblkB (N : List Str) (sc scope : Scope) (own : List (Str × Nat)) : Bool :=
  decide (scope.kind = .function) && (!scope.isCoroutine && (decide (scope.names.lookup (".0" : Str) = some NameKind.local) && (own.all (fun p => decide (N[p.2]? = some p.1)) &&
  scope.names.all fun y => decide (scope.names.lookup y.1 = some y.2) && (!decide (y.2 = .cell) && ((!decide (y.2 = .free) || (decide (sc.names.lookup y.1 = some .cell) || decide (sc.names.lookup y.1 = some .free))) &&
    (!decide (y.2 = .local) || (decide (y.1 ∈ own.map (·.1)) || decide (y.1 ∉ N))))))))
theorem gblk_by {N : List Str} {sc scope : Scope} {own : List (Str × Nat)} (h : gblkB N sc scope own = true) : GBlk N sc scope own := by
  unfold gblkB at h
  simp only [Bool.and_eq_true, Bool.or_eq_true, Bool.not_eq_true', decide_eq_true_eq, decide_eq_false_iff_not, List.all_eq_true] at h
  obtain ⟨h1, h2, h3, h4, h5⟩ := h
  refine ⟨h1, h2, fun y hy => (h5 y hy).1, fun y hy => (h5 y hy).2.1, h3, h4, fun y hy e => ?_, fun y hy e => ?_⟩
  · rcases (h5 y hy).2.2.1 with z | z | z
    · exact absurd e z
    · exact .inl z
    · exact .inr z
  · rcases (h5 y hy).2.2.2 with z | z | z
    · exact absurd e z
    · exact .inl z
    · exact .inr z

/-- the context of a generator expression's turns; made at s, its iterator's objects at fp -/
abbrev genCx (X : Cx) (A' : Around) (s : Shared) (H : Hp) (cenv : Env) (fp : List Addr) : Cx :=
  { X with A := A', s_0 := s, H_0 := H, env := cenv, outer := X.stack, stack := cenv :: X.stack, ex := fp, fn := fun _ => false, pn := [], xe := fun _ _ => False }

section
variable {X : Cx} {pins : List (Addr × Obj)} {σ : L2.St} {H : Hp} {s : Shared}
theorem gen_start {scope : Scope} {own : List (Str × Nat)} {fp : List Addr} {A' : Around} {code : Value} {bi a : Addr} {go : Obj} {h' : Heap} {G' : Array GenState} {tk : Nat} {m : Str → Option Value}
    (I : Inv X pins σ H s) (ok : GBlk X.N X.env.scope scope own) (hN : X.N.Nodup) (hfp : ∀ b ∈ fp, FpOk X pins H b ∧ b < s.heap.objs.size)
    (hbi : bi = builtinsNs) (hA : A'.handled = none) (hAf : A'.frames = some (genEnv scope (cloFrom X.env.cells scope.names []) s.heap.objs.size code bi X.env :: X.stack))
    (kp : ∀ b o, s.heap.get? b = some o → h'.get? b = some o) (hns : h'.Ns s.heap.objs.size m) (hgo : h'.get? a = some go) (ha : s.heap.objs.size < a) (hgd : ∀ v, go.data ≠ .cell v) (hb : AllBare G') :
    Inv (genCx X A' s H (genEnv scope (cloFrom X.env.cells scope.names []) s.heap.objs.size code bi X.env) fp) [(a, go)] (wipe σ (own.map (·.2))) H { s with heap := h', gens := G', toks := tk } := by
  have hfree : ∀ y ∈ scope.names, y.2 = .free → ∃ c, X.env.cells.lookup y.1 = some c := fun y hy e => by
    rcases ok.free y hy e with k | k
    · exact I.ok.has _ (.inl k)
    · exact I.ok.has _ (.inr k)
  have cm : ∀ {y c}, (cloFrom X.env.cells scope.names []).lookup y = some c → X.env.cells.lookup y = some c ∧ c < s.heap.objs.size := fun {y c} e => by
    rcases cloFrom_mem (PySem.mem_of_lookup e) with hm | ⟨h1, rfl⟩
    · cases hm
    · obtain ⟨c, hc⟩ := hfree _ h1 rfl
      have hc : X.env.cells.lookup y = some c := hc
      rw [hc]
      obtain ⟨w, z⟩ := I.cell _ _ hc
      exact ⟨rfl, z.lt⟩
  have look : ∀ {y}, scope.names.lookup y = some .free → ∃ c, (cloFrom X.env.cells scope.names []).lookup y = some c := fun {y} hl =>
    mem_lookup (cloFrom_has (cells := X.env.cells) (acc := []) (PySem.mem_of_lookup hl))
  have fsL : ∀ b ∈ frs X.stack, b < s.heap.objs.size := fun b hb => by
    rcases List.mem_cons.mp (I.stkSub b hb) with z | z
    · rw [z]; exact I.lt
    · rcases Nat.lt_or_ge b s.heap.objs.size with q | q
      · exact q
      · exact absurd z (I.nofs q)
  refine ⟨⟨I.ok.mod, ok.kind, I.ok.glob, hbi, Nat.le_refl _, fun y z c e1 e2 => I.ok.inj y z c (cm e1).1 (cm e2).1, fun y hy => ?_, fun y c z _ => (nomatch z), fun _ => hA, hAf, .inr ⟨rfl, rfl⟩,
    fun b hb => ⟨Nat.ne_of_lt (hfp b hb).2, fun y c e z => (hfp b hb).1.2.2.2.2.1 y c (cm e).1 z⟩, I.bs, Nat.le_trans I.ok.bsz I.sz, fun b o e hb => ?_, fun b hb z => ?_, I.stack, I.stkFree⟩,
    rfl, hb, Un.kept kp, ⟨m, hns, fun i y v e1 e2 e3 => ?_⟩, fun y c e => ?_, I.hok.fresh (Nat.le_refl _), fun y c e => I.freeC y c (cm e).1, fun p hp => ?_, I.hok.kept kp, by rw [wipe_length]; exact I.len⟩
  · have hy : scope.names.lookup y = some .cell ∨ scope.names.lookup y = some .free := hy
    rcases hy with hy | hy
    · exact absurd rfl (ok.cell _ (PySem.mem_of_lookup hy))
    · exact look hy
  · rcases (hfp b hb).1.2.2.2.1 with z | z
    · exact I.ok.noex b o e z
    · exact absurd (Nat.lt_of_lt_of_le (Heap.lt_size e) (Nat.le_trans I.ok.bsz z)) (Nat.lt_irrefl _)
  · rcases List.mem_cons.mp (I.stkSub b z) with z | z
    · exact (hfp b hb).1.2.1 z
    · exact (hfp b hb).1.2.2.1 z
  · obtain ⟨e2, hne⟩ := wipe_some e2
    have e3 : Vis scope y := e3
    rcases e3 with k | k | k
    · rcases ok.own _ (PySem.mem_of_lookup k) rfl with e' | e'
      · obtain ⟨p, hp, hpy⟩ := List.mem_map.mp e'
        have e3 := ok.ix p hp
        have hpy : p.1 = y := hpy
        rw [hpy] at e3
        exact absurd (List.mem_map.mpr ⟨p, hp, nodup_ix hN e3 e1⟩) hne
      · exact absurd (List.mem_of_getElem? e1) e'
    · exact absurd rfl (ok.cell _ (PySem.mem_of_lookup k))
    · obtain ⟨m2, hn, hl⟩ := I.loc
      have hf := ok.free _ (PySem.mem_of_lookup k) rfl
      have hvis : Vis X.env.scope y := hf.elim (fun k => .inr (.inl k)) (fun k => .inr (.inr k))
      obtain ⟨w', r, q⟩ := hl i y v e1 e2 hvis
      obtain ⟨c2, h2⟩ := look k
      refine ⟨w', r, .inr ⟨.inr k, c2, h2, ?_⟩⟩
      have c1 := (cm h2).1
      rcases q with ⟨k', _⟩ | ⟨_, c3, e', z⟩
      · have k' : X.env.scope.names.lookup y = some .local := k'
        rcases hf with k2 | k2 <;> rw [show X.env.scope.names.lookup y = _ from k2] at k' <;> cases k'
      · rw [c1] at e'
        cases e'
        exact z.keeps kp
  · obtain ⟨v, z⟩ := I.cell y c (cm e).1
    exact ⟨v, z.keeps kp⟩
  · have hp : p ∈ [(a, go)] := by simpa using hp
    rw [List.mem_singleton.mp hp]
    exact ⟨hgo, I.hok.fresh (Nat.le_of_lt ha), Nat.ne_of_gt ha, fun z => absurd (fsL a z) (Nat.not_lt_of_lt ha), hgd⟩

/-- only the table of generators has changed -/
theorem Inv_gens {p : List (Addr × Obj)} (I : Inv X p σ H s) {g' : Array GenState} (hg : AllBare g') : Inv X p σ H { s with gens := g' } :=
  ⟨I.ok, I.os, hg, I.base, I.loc, I.cell, I.free, I.freeC, I.pin, I.hok, I.len⟩
theorem bare_set {g : Nat} {x : GenState} {G : Array GenState} (h : AllBare G) (hx : x.bare = true) : AllBare (G.setIfInBounds g x) := fun y hy => by
  obtain ⟨i, hi, e⟩ := Array.mem_iff_getElem.mp hy
  have hi' : i < G.size := by simpa using hi
  rw [Array.getElem_setIfInBounds hi'] at e
  split at e
  · rw [← e]
    exact hx
  · rw [← e]
    exact h _ (Array.getElem_mem hi')
end

/-- all(elt for target in iter): W by the turn, a measure and the heap; vs: the own names' places -/
def tAllG (P : Addr) (wi : TI) (g : TG) (te : TE) (vs : List Nat) : TE := fun σ H Q => wi σ H fun J H1 => TabG H1 P ∧ ∀ H2, Tabbed P H1 H2 → ∃ W : Nat → Nat → Hp → Prop, (∃ m, W 0 m H2) ∧ ∀ i m H, W i m H →
  (J.stop i H ∧ Q (.bl true) H) ∨ (J.go i H ∧ ∃ Nx : Hp → Prop, (∀ H', Nx H' → ∃ m', m' < m ∧ W (i + 1) m' H') ∧ ∀ x H', J.yld i H x H' → g x (wipe σ vs) H' fun σ2 H3 => wipe σ2 vs = wipe σ vs ∧ te σ2 H3 fun y H4 =>
    ∃ b, y = .bl b ∧ if b = true then Nx H4 else Q (.bl false) H4)

abbrev GE (elt tg iter : Expr) (scope : Scope) (pos : Pos) : Expr := .GeneratorExp elt [⟨tg, iter, [], 0⟩] scope pos

section
variable {X : Cx} {pins : List (Addr × Obj)} {σ : L2.St}
/-- the turns, from the loop's code on: m bounds what may still come -/
theorem gen_seg {elt tg iter : Expr} {scope : Scope} {pos : Pos} {it a : Addr} {go : Obj} {fp : List Addr} {tn : Nat → Heap → Prop} {J : It} {A2 : Around} {g : TG} {te : TE} {vs : List Nat} {sg : Nat} {Qb : Bool → Hp → Prop} {W : Nat → Nat → Hp → Prop}
    (hA' : A2.over (.compLoop (GE elt tg iter scope pos) 0 (.ref it) .none X.env) [] = X.A) (hxe : ∀ e s, ¬ X.xe e s) (hc : X.calm = true) (hex : X.ex = fp) (hpn : X.pn = []) (hco : X.env.scope.isCoroutine = false)
    (T : Turn X.prog X.w X.K tg J fp it tn) (hpg : PG X tg g) (hel : PE X elt te) (haf : a ∉ fp)
    (step : ∀ i m H, W i m H → (J.stop i H ∧ Qb true H) ∨ (J.go i H ∧ ∃ Nx : Hp → Prop, (∀ H', Nx H' → ∃ m', m' < m ∧ W (i + 1) m' H') ∧ ∀ x H', J.yld i H x H' → g x σ H' fun σ2 H3 => wipe σ2 vs = σ ∧ te σ2 H3 fun y H4 =>
      ∃ b, y = .bl b ∧ if b = true then Nx H4 else Qb false H4)) :
    ∀ (m n i : Nat) (H : Hp) (s₀ s : Shared), m < n → Inv X [(a, go)] σ H s → tn i s.heap → (∀ b ∈ fp, H b = none) → sg ≤ s.gens.size → W i m H →
      Seg (model X.prog X.w) A2 (fun _ _ r s₁ => r = .ok .next ∧ ((sg ≤ s₁.gens.size) ∧ ∃ H', Inv X [(a, go)] σ H' s₁ ∧ Qb true H'))
        (fun _ _ v s kap => ∃ b : Bool, v = .bool b ∧ sg ≤ s.gens.size ∧ (∃ σ' H', Inv X [(a, go)] σ' H' s ∧ (b = false → Qb false H')) ∧ (b = true → ∀ g' : Array GenState, AllBare g' → sg ≤ g'.size → kap (.send .none) { s with gens := g' }))
        n s₀ (.compLoop (GE elt tg iter scope pos) 0 (.ref it) .none X.env) ((model X.prog X.w).den (.compLoop (GE elt tg iter scope pos) 0 (.ref it) .none X.env)) [] s := by
  have stat : ∀ {H' : Hp} {σ' : L2.St} {s' : Shared}, Inv X [(a, go)] σ' H' s' → (∀ b ∈ fp, H' b = none) → ∀ b ∈ fp, FpOk X [(a, go)] H' b := fun {H' σ' s'} I' hn b hb =>
    ⟨hn b hb, (I'.ok.exf b (by rw [hex]; exact hb)).1, I'.ok.exfs b (by rw [hex]; exact hb), .inl (by rw [hex]; exact hb), fun x c e => (I'.ok.exf b (by rw [hex]; exact hb)).2 x c e, fun p hp => by
      rw [hpn, List.nil_append] at hp
      rw [List.mem_singleton.mp hp]
      exact fun z => haf (by
        have z : a = b := z
        rw [z]; exact hb)⟩
  intro m
  induction m using Nat.strongRecOn with
  | ind m ih =>
    intro n i H s₀ s hmn I st hfr hsz w
    obtain ⟨n, rfl⟩ : ∃ n', n = n' + 1 := ⟨n - 1, by omega⟩
    show Seg _ A2 _ _ _ s₀ _ ((compTurn (GE elt tg iter scope pos) 0 (.ref it) .none X.env).onRaise (leaving X.env)) [] s
    rw [compTurn_gen, Sem.onRaise_eq_wrap]
    have nox : ∀ {α : Type} {m : Sem α} {Q : α → Shared → Prop} {E : Value → Shared → Prop} {s : Shared}, wpAny (model X.prog X.w) X.A m Q X.xe s → wpAny (model X.prog X.w) X.A m Q E s := fun h => wpAny_mono h (fun _ _ q => q) fun e s z => absurd z (hxe e s)
    refine seg_bind_wrap (wpAny_standAt ?_)
    refine seg_bind_wrap ?_
    rw [hA']
    rcases step i m H w with ⟨stop, q⟩ | ⟨go', Nx, hNx, turn⟩
    · refine wpAny_gsz (n := sg) hsz ?_
      refine wpAny_mono (T.done X rfl rfl rfl hc i _ s σ H (fun _ _ => False) I (stat I hfr) st stop) (fun r s' hr hz => ?_) fun _ _ z => z.elim
      obtain ⟨hr, I'⟩ := hr
      subst hr
      exact seg_end (.ok .next) ⟨rfl, hz, H, I', q⟩
    · refine wpAny_gsz (n := sg) hsz ?_
      refine wpAny_mono (T.item X rfl rfl rfl hc i _ s σ H (fun _ _ => False) I (stat I hfr) st go') (fun r s1 hr hz1 => ?_) fun _ _ z => z.elim
      obtain ⟨u, hu, h1⟩ := hr
      subst hu
      refine seg_bind_wrap ?_
      rw [hA']
      refine wpAny_gsz (n := sg) hz1 ?_
      refine wpAny_mono h1 (fun _ s2 h2 hz2 => ?_) fun _ _ z => z.elim
      obtain ⟨x, H2, I2, r2, y2, st2, fr2⟩ := h2
      have I2' := I2.pinned (stat I2 fr2) (T.obj _ _ st2)
      refine seg_bind_wrap ?_
      rw [hA']
      refine wpAny_gsz (n := sg) hz2 ?_
      refine wpAny_mono (nox (E := fun _ _ => False) (hpg.run _ s2 σ H2 x u _ I2' r2 (turn x H2 y2))) (fun _ s3 h3 hz3 => ?_) fun _ _ z => z.elim
      obtain ⟨σ3, H3, I3, hw3, q3⟩ := h3
      refine seg_bind_wrap ?_
      rw [hA']
      refine wpAny_tests_nil ?_
      simp only [if_true]
      have hy : ∀ v, yieldOut X.env v = yieldValue v := fun v => by simp only [yieldOut, hco, Bool.false_eq_true, if_false]
      simp only [hy]
      rw [Sem.bind_eq_wrap', Sem.bind_eq_wrap', Sem.wrap_wrap, Sem.wrap_wrap]
      refine seg_wrap ?_
      rw [hA']
      refine wpAny_gsz (n := sg) hz3 ?_
      refine wpAny_mono (nox (E := fun _ _ => False) (hel.run _ s3 σ3 H3 _ I3 q3)) (fun y s4 h4 hz4 => ?_) fun _ _ z => z.elim
      obtain ⟨v, H4, I4, r4, b, rfl, q4⟩ := h4
      obtain rfl : y = Value.bool b := r4
      refine seg_at (seg_yield rfl rfl rfl ⟨b, rfl, hz4, ⟨σ3, H4, I4.unpinned, fun hb => ?_⟩, fun hb g' hg' hgz => ?_⟩)
      · rw [hb] at q4
        exact q4
      · rw [hb] at q4
        obtain ⟨m', hm', w'⟩ := hNx H4 q4
        have pin' : ∀ b ∈ fp, ∀ o, s2.heap.get? b = some o → s4.heap.get? b = some o ∧ H4 b = none := fun b hb o e =>
          let z := I4.pin (b, o) (List.mem_append_right _ (List.mem_append_right _ (mem_pinsAt hb e)))
          ⟨z.1, z.2.1⟩
        have hl : σ.length = σ3.length := by rw [← hw3, wipe_length]
        refine seg_again rfl (ih m' hm' n (i + 1) H4 _ _ (by omega) (Inv_gens (I4.unpinned.weak hl fun j v e => ?_) hg') (T.keep _ _ _ st2 fun b hb o e => (pin' b hb o e).1) (fun b hb => ?_) hgz w')
        · rw [← hw3] at e
          exact (wipe_some e).1
        · obtain ⟨o, e, d⟩ := T.obj _ _ st2 b hb
          exact (pin' b hb o e).2
end

section
variable {X X' : Cx} {pins : List (Addr × Obj)} {σ : L2.St}
/-- the loop of all(..): the generator g at a, what may still come bounded by n -/
theorem gen_all {a : Addr} {g : Nat} {nm qn : Value} {A : Around} {Qb : Bool → Hp → Prop} {R : Result → Shared → Prop} (hd : A.handled = none) (hdep : A.depth < recursionLimit)
    (fin : ∀ (σ' : L2.St) (H' : Hp) (s' : Shared) (b : Bool), Inv X' [(a, { cls := .type "generator", data := .fields #[.int g 0, nm, qn] })] σ' H' s' → Qb b H' → R (.ok (.ret (.bool b))) s') :
    ∀ (n : Nat) (s : Shared) (gs : GenState), s.gens[g]? = some gs → (∃ σ' H', Inv X' [(a, { cls := .type "generator", data := .fields #[.int g 0, nm, qn] })] σ' H' s) →
      gs.Goes (model X'.prog X'.w) A.in1.in1 (fun _ _ r s₁ => r = .ok .next ∧ ((g + 1 ≤ s₁.gens.size) ∧ ∃ H', Inv X' [(a, { cls := .type "generator", data := .fields #[.int g 0, nm, qn] })] σ H' s₁ ∧ Qb true H'))
        (fun _ _ v s kap => ∃ b : Bool, v = .bool b ∧ g + 1 ≤ s.gens.size ∧ (∃ σ' H', Inv X' [(a, { cls := .type "generator", data := .fields #[.int g 0, nm, qn] })] σ' H' s ∧ (b = false → Qb false H')) ∧
          (b = true → ∀ g' : Array GenState, AllBare g' → g + 1 ≤ g'.size → kap (.send .none) { s with gens := g' })) n (.send .none) (s.setGen g .running) →
      codeAny (model X'.prog X'.w) A (.builtin "all.loop" ⟨[.ref a], []⟩) R s := by
  have look : ∀ {s : Shared} {x : GenState}, g + 1 ≤ s.gens.size → (s.setGen g x).gens[g]? = some x := fun {s x} h => by
    have h' : g < s.gens.size := h
    simp [Shared.setGen, h']
  intro n
  induction n with
  | zero =>
    intro s gs hgs hI hgo
    obtain ⟨σ1, H1, I1⟩ := hI
    have hpin := I1.pin (a, { cls := .type "generator", data := .fields #[.int g 0, nm, qn] }) (List.mem_append_right _ List.mem_cons_self)
    refine codeAny_builtin F.entry_all_loop ?_
    rw [Around.under_plainId F.plain_all_loop _]
    show wpAny _ A.in1 (pyNext (.ref a) >>= _) _ _ s
    refine wpAny_bind (wpAny_pyNext_genexpQ (A := A.in1) (P := fun _ _ s₁ => (g + 1 ≤ s₁.gens.size) ∧ ∃ H', Inv X' [(a, { cls := .type "generator", data := .fields #[.int g 0, nm, qn] })] σ H' s₁ ∧ Qb true H') hd I1.nolimit hdep ⟨_, nm, qn, hpin.1, rfl, rfl, rfl⟩ hgs hgo (fun v s₁ gs' hb hv => ?_) (fun s₁ hp h' hk => ?_))
    · obtain ⟨b, rfl, hz, ⟨σ', H', I', hf⟩, hkap⟩ := hv
      refine wpAny_bind (wpAny_holding (wpAny_truthy_bool ?_))
      refine wpAny_bind (wpAny_letGo ?_)
      cases b with
      | true => exact (hkap rfl s₁.gens I'.bare hz).elim
      | false => exact wpAny_bind (wpAny_rule (wpAny_pure (fin σ' H' _ false (Inv_gens I' (bare_set I'.bare hb)) (hf rfl))))
    · obtain ⟨hz, H', I', q⟩ := hp
      exact wpAny_bind (wpAny_rule (wpAny_pure (fin σ H' _ true (Inv_gens (I'.kept (t' := s₁.toks) hk) (bare_set (x := GenState.finished) I'.bare rfl)) q)))
  | succ n ih =>
    intro s gs hgs hI hgo
    obtain ⟨σ1, H1, I1⟩ := hI
    have hpin := I1.pin (a, { cls := .type "generator", data := .fields #[.int g 0, nm, qn] }) (List.mem_append_right _ List.mem_cons_self)
    refine codeAny_builtin F.entry_all_loop ?_
    rw [Around.under_plainId F.plain_all_loop _]
    show wpAny _ A.in1 (pyNext (.ref a) >>= _) _ _ s
    refine wpAny_bind (wpAny_pyNext_genexpQ (A := A.in1) (P := fun _ _ s₁ => (g + 1 ≤ s₁.gens.size) ∧ ∃ H', Inv X' [(a, { cls := .type "generator", data := .fields #[.int g 0, nm, qn] })] σ H' s₁ ∧ Qb true H') hd I1.nolimit hdep ⟨_, nm, qn, hpin.1, rfl, rfl, rfl⟩ hgs hgo (fun v s₁ gs' hb hv => ?_) (fun s₁ hp h' hk => ?_))
    · obtain ⟨b, rfl, hz, ⟨σ', H', I', hf⟩, hkap⟩ := hv
      refine wpAny_bind (wpAny_holding (wpAny_truthy_bool ?_))
      refine wpAny_bind (wpAny_letGo ?_)
      cases b with
      | true =>
        refine wpAny_pure ⟨plainId_quiet F.plain_all_loop _, ih _ gs' (look hz) ⟨σ', H', Inv_gens I' (bare_set I'.bare hb)⟩ (hkap rfl _ (bare_set (x := GenState.running) (bare_set I'.bare hb) rfl) (by simpa [Shared.setGen] using hz))⟩
      | false => exact wpAny_bind (wpAny_rule (wpAny_pure (fin σ' H' _ false (Inv_gens I' (bare_set I'.bare hb)) (hf rfl))))
    · obtain ⟨hz, H', I', q⟩ := hp
      exact wpAny_bind (wpAny_rule (wpAny_pure (fin σ H' _ true (Inv_gens (I'.kept (t' := s₁.toks) hk) (bare_set (x := GenState.finished) I'.bare rfl)) q)))

theorem boot_all : bootBuiltins "all" = some (.builtin "all") := by decide +kernel
/-- THE RULE -/
theorem pe_allG {c P : Addr} {elt tg iter : Expr} {p pos gpos : Pos} {scope : Scope} {own : List (Str × Nat)} {wi : TI} {g : TG} {te : TE} {k : Nat}
    (hr : Room (k + 1) X.A) (hc : X.calm = true) (hN : X.N.Nodup) (hg : Gl X "all") (hm : X.mg "all" = none) (TB : LamX.TabB X.base X.mg c P) (hcode : X.env.code = .ref c) (ok : GBlk X.N X.env.scope scope own) (hi : PI X tg iter wi)
    (hpg : ∀ (A' : Around) (s : Shared) (H : Hp) (cl : List (Str × Addr)) (C : Addr) (code : Value) (bi : Addr) (fp : List Addr), Room k A' → PG (genCx X A' s H (genEnv scope cl C code bi X.env) fp) tg g)
    (hel : ∀ (A' : Around) (s : Shared) (H : Hp) (cl : List (Str × Addr)) (C : Addr) (code : Value) (bi : Addr) (fp : List Addr), Room k A' → PE (genCx X A' s H (genEnv scope cl C code bi X.env) fp) elt te)
    (hs : ∀ v, genFold iter X.env v = pure v := by intro _; rfl)
    (he : starEach [GE elt tg iter scope gpos] X.env = (false, eval (GE elt tg iter scope gpos) X.env) :: starEach [] X.env := by rfl) :
    PE X (.Call (.Name "all" p) [.GeneratorExp elt [⟨tg, iter, [], 0⟩] scope gpos] [] pos) (tAllG P wi g te (own.map (·.2))) := by
  refine ⟨fun pins s σ H Q I h => ?_⟩
  have hfree : ∀ y ∈ scope.names, y.2 = .free → ∃ c, X.env.cells.lookup y.1 = some c := fun y hy e => by
    rcases ok.free y hy e with k | k
    · exact I.ok.has _ (.inl k)
    · exact I.ok.has _ (.inr k)
  have hfr := I.ok.frames
  refine wpAny_Call_Name_kw (ld_blt I hg hm boot_all ?_)
  refine PyProof.Rows.callWith_builtin1 ?_ he (by rfl)
  rw [he]
  show wpAny _ _ (spliced ((false, eval (GE elt tg iter scope gpos) X.env) :: backTo pos (starEach [] X.env))) _ _ s
  refine Calls.spliced_cons ?_
  refine wpAny_GeneratorExp_make ok.co (closure_ok hfree) ok.cell ok.dot ok.kind (by have := hr.dp; omega) ?_ hs
  refine thn (hi.run pins s σ H _ I h) fun xv s1 h1 => thn h1 fun itv s2 h2 => ?_
  obtain ⟨it, fp, tn, J, H2, e, I2, T, st2, f2, hT, q⟩ := h2
  subst e
  obtain ⟨ps, hP, ht⟩ := hT
  refine ⟨I2.nolimit, ?_⟩
  have hPs : s2.heap.get? P = some { cls := .none, data := .fields ps } := I2.hok P _ hP
  have cd : PySem.W.CodeHd s2.heap c P := TB.code.keeps I2.bk
  have nfp : ∀ b ∈ fp, b ≠ P := fun b hb z => by
    have := (f2 b hb).1
    rw [z, hP] at this
    cases this
  have cont : ∀ (code : Value) (h3 : Heap) (tk : Nat) (ps' : Array Value), Heap.ExtBut P s2.heap h3 → h3.get? P = some { cls := .none, data := .fields ps' } → (∃ more, ps' = ps ++ more) → TriplesOk ps'.toList →
      wpAny (model X.prog X.w) X.A (builtinsFor X.env.globals X.env.builtins) (fun bi s4 =>
        ∀ h', h'.Ns s4.heap.objs.size (fun y => if y = ".0" then some (.ref it) else none) → Heap.SameBut s4.heap.objs.size (s4.heap.push { cls := .type "frame", data := .dict #[] }) h' →
          wpAny (model X.prog X.w) X.A (spliced (backTo pos (starEach [] X.env))) (fun us s' => wpAny (model X.prog X.w) X.A (call (.builtin "all") (.ref h'.objs.size :: us)) (EP X pins σ Q) X.xe s') X.xe { s4 with
            gens := s4.gens.push (.fresh (.compStart (.GeneratorExp elt [⟨tg, iter, [], 0⟩] scope gpos) 0 (.ref it) .none (genEnv scope (cloFrom X.env.cells scope.names []) s4.heap.objs.size code bi X.env))),
            toks := s4.toks + 1 + 1 + 1,
            heap := h'.push { cls := .type "generator", data := .fields #[.int s4.gens.size 0, .str "<genexpr>" (s4.toks + 1), .str (X.env.qual ++ "<genexpr>") (s4.toks + 1 + 1)] } }) X.xe { s2 with heap := h3, toks := tk } := by
    intro code h3 tk ps' hx hP3 hmore ht3
    obtain ⟨more, rfl⟩ := hmore
    have I3 : Inv X pins σ (upd H2 P (.tbl (ps ++ more))) { s2 with heap := h3, toks := tk } := inv_tab (g' := s2.gens) (d' := s2.drawn) I2 hP (fun b o hb e => hx b o hb e) hP3 I2.bare
    have hT3 : Tabbed P H2 (upd H2 P (.tbl (ps ++ more))) := ⟨⟨ps ++ more, upd_same, ht3⟩, fun b hb => upd_ne hb⟩
    obtain ⟨W, ⟨m0, w0⟩, turn⟩ := q _ hT3
    generalize hs3 : ({ s2 with heap := h3, toks := tk } : Shared) = s3 at I3
    have e3 : h3 = s3.heap := by rw [← hs3]
    obtain ⟨bm, ob, e1, e2, e3', e4, e5, e6, e7, e8⟩ := TB.bm
    refine wpAny_builtinsFor (m := X.mg) (by rw [← hs3, I2.ok.glob]; exact ((I2.mod.glob.keeps I2.bk).extBut hx TB.gP)) e1 e2 (by rw [← e3]; exact hx _ _ e4 (I2.bk _ _ e5)) e6 e7 e8 ?_
    intro h' hn' hs'
    refine Calls.spliced_nil ?_
    generalize hce : genEnv scope (cloFrom X.env.cells scope.names []) s3.heap.objs.size code builtinsNs X.env = cenv
    have sz : ∀ b ∈ fp, b < s2.heap.objs.size := fun b hb => by
      obtain ⟨o, e, _⟩ := T.obj _ _ st2 b hb
      exact Heap.lt_size e
    have kp3 : ∀ b o, b ≠ P → s2.heap.get? b = some o → s3.heap.get? b = some o := fun b o hb e => by rw [← e3]; exact hx b o hb e
    have f3 : ∀ b ∈ fp, FpOk X pins (upd H2 P (.tbl (ps ++ more))) b ∧ b < s3.heap.objs.size := fun b hb => by
      obtain ⟨o, e, _⟩ := T.obj _ _ st2 b hb
      refine ⟨⟨?_, (f2 b hb).2⟩, Heap.lt_size (kp3 b o (nfp b hb) e)⟩
      rw [upd_ne (nfp b hb)]
      exact (f2 b hb).1
    have st3 : tn 0 s3.heap := T.keep _ _ _ st2 fun b hb o e => kp3 b o (nfp b hb) e
    have hsz' : h'.objs.size = s3.heap.objs.size + 1 := by rw [hs'.1, Heap.size_push]
    have kp' : ∀ b o, s3.heap.get? b = some o → h'.get? b = some o := fun b o e => (hs'.2 b (Nat.ne_of_lt (Heap.lt_size e))).trans (Heap.get?_push_of_some _ e)
    generalize hA' : (X.A.in1.in1).over (.compLoop (GE elt tg iter scope gpos) 0 (.ref it) .none cenv) [] = A'
    have hAd : A'.handled = none := by rw [← hA']; exact hr.hd
    have hAf : A'.frames = some (cenv :: X.stack) := by
      rw [← hA']
      show pushEnvs [cenv] (pushEnvs [] X.A.frames) = _
      rw [hfr]
      rfl
    have hrA : Room k A' := by
      rw [← hA']
      refine ⟨hr.hd, ?_, ?_⟩
      · have := hr.dp
        show X.A.depth + 0 + 1 + 3 * k + 5 < _
        omega
      · have := hr.un
        show X.A.units + 1 + 1 + 0 + 3 + 16 * k + 200 < _
        omega
    generalize hgo : ({ cls := .type "generator", data := .fields #[.int s3.gens.size 0, .str "<genexpr>" (s3.toks + 1), .str (X.env.qual ++ "<genexpr>") (s3.toks + 1 + 1)] } : Obj) = go
    have hget : (h'.push go).get? h'.objs.size = some go := by
      rw [← hgo]
      exact Heap.get?_push_size _ rfl
    have hgd : ∀ v, go.data ≠ .cell v := fun v z => by
      rw [← hgo] at z
      cases z
    have IS : ∀ G' : Array GenState, AllBare G' → Inv (genCx X A' s3 (upd H2 P (.tbl (ps ++ more))) cenv fp) [(h'.objs.size, go)] (wipe σ (own.map (·.2))) (upd H2 P (.tbl (ps ++ more))) { s3 with heap := h'.push go, gens := G', toks := s3.toks + 1 + 1 + 1 } := fun G' hb => by
      rw [← hce]
      rw [← hce] at hAf
      exact gen_start I3 ok hN f3 rfl hAd hAf (fun b o e => Heap.get?_push_of_some _ (kp' b o e)) (hn'.push _) hget (by rw [hsz']; exact Nat.lt_succ_self _) hgd hb
    have bpush : AllBare (s3.gens.push (.fresh (.compStart (.GeneratorExp elt [⟨tg, iter, [], 0⟩] scope gpos) 0 (.ref it) .none cenv))) := I3.bare.push rfl
    have nfps : h'.objs.size ∉ fp := fun z => by
      have z1 := (f3 _ z).2
      rw [hsz'] at z1
      exact absurd z1 (Nat.not_lt_of_lt (Nat.lt_succ_self _))
    have PGX := hpg A' s3 (upd H2 P (.tbl (ps ++ more))) (cloFrom X.env.cells scope.names []) s3.heap.objs.size code builtinsNs fp hrA
    have PEX := hel A' s3 (upd H2 P (.tbl (ps ++ more))) (cloFrom X.env.cells scope.names []) s3.heap.objs.size code builtinsNs fp hrA
    rw [hce] at PGX PEX
    have hcoE : cenv.scope.isCoroutine = false := by rw [← hce]; exact ok.co
    have st6 : tn 0 (h'.push go) := T.keep _ _ _ st3 fun b _ o e => Heap.get?_push_of_some _ (kp' b o e)
    have nP0 : ∀ b ∈ fp, (upd H2 P (.tbl (ps ++ more))) b = none := fun b hb => (f3 b hb).1.1
    have loop := fun (s₀ : Shared) (G' : Array GenState) (hb : AllBare G') (hz : s3.gens.size + 1 ≤ G'.size) =>
      gen_seg (X := genCx X A' s3 (upd H2 P (.tbl (ps ++ more))) cenv fp) (A2 := X.A.in1.in1) (it := it) (pos := gpos) (scope := scope) (iter := iter) (a := h'.objs.size) (go := go) (σ := wipe σ (own.map (·.2))) (vs := own.map (·.2)) (sg := s3.gens.size + 1) (Qb := fun b H => Q (.bl b) H) (W := W) (tn := tn) (J := J) hA' (fun _ _ z => z) hc rfl rfl hcoE T PGX PEX nfps turn
        m0 (m0 + 1) 0 _ s₀ _ (Nat.lt_succ_self _) (IS G' hb) st6 nP0 hz w0
    refine call_function_tree F.kind_all F.plain_all F.entry_all (F.args_all1 _) ?_
    unfold Builtin.«all»
    refine wpAny_bind (m := oneArg "all" _) (wpAny_pure ?_)
    refine wpAny_bind (wpAny_pyIter_gen (g := s3.gens.size) ⟨go, .str "<genexpr>" (s3.toks + 1), .str (X.env.qual ++ "<genexpr>") (s3.toks + 1 + 1), hget, by rw [← hgo], by rw [← hgo], by rw [← hgo]⟩ ?_)
    refine wpAny_pure ⟨plainId_quiet F.plain_all_loop _, ?_⟩
    subst hgo
    refine gen_all (X' := genCx X A' s3 (upd H2 P (.tbl (ps ++ more))) cenv fp) (A := X.A) (g := s3.gens.size) (nm := .str "<genexpr>" (s3.toks + 1)) (qn := .str (X.env.qual ++ "<genexpr>") (s3.toks + 1 + 1)) (a := h'.objs.size) (σ := wipe σ (own.map (·.2))) (Qb := fun b H => Q (.bl b) H) hr.hd (by have := hr.dp; omega) (fun σ' H' s' b I' hq => ?_) (m0 + 1) _ (.fresh (.compStart (.GeneratorExp elt [⟨tg, iter, [], 0⟩] scope gpos) 0 (.ref it) .none cenv)) ?_ ?_ ⟨rfl, ?_⟩
    · exact ⟨.bl b, H', I3.call' (ch := fp) I'.os I'.base I'.hok I'.bare fun b hb => ⟨(f3 b hb).1.2.2.2.1, (f3 b hb).1.2.1, (f3 b hb).1.2.2.2.2.1, (f3 b hb).1.2.2.2.2.2⟩, rfl, hq⟩
    · exact Array.getElem?_push_size ..
    · exact ⟨_, _, IS _ bpush⟩
    · show Seg _ _ _ _ _ _ _ ((compStart (GE elt tg iter scope gpos) 0 (.ref it) .none cenv).onRaise (leaving cenv)) [] _
      have lp := loop (({ s3 with heap := h'.push { cls := .type "generator", data := .fields #[.int s3.gens.size 0, .str "<genexpr>" (s3.toks + 1), .str (X.env.qual ++ "<genexpr>") (s3.toks + 1 + 1)] }, gens := s3.gens.push (.fresh (.compStart (.GeneratorExp elt [⟨tg, iter, [], 0⟩] scope gpos) 0 (.ref it) .none cenv)), toks := s3.toks + 1 + 1 + 1 } : Shared).setGen s3.gens.size .running) ((s3.gens.push (.fresh (.compStart (.GeneratorExp elt [⟨tg, iter, [], 0⟩] scope gpos) 0 (.ref it) .none cenv))).setIfInBounds s3.gens.size .running)
        (bare_set bpush rfl) (by simp)
      unfold compStart
      rw [Sem.onRaise_eq_wrap]
      show Seg _ _ _ _ _ _ _ ((ask >>= _).wrap _ _ _ _) [] _
      refine seg_bind_wrap (wpAny_askSetting ?_)
      split
      · exact seg_again rfl lp
      · refine seg_bind_wrap (wpAny_rule (seg_bind_wrap (wpAny_standAt (seg_bind_wrap (T.self _ 0 _ _ _ ?_ (seg_again rfl lp))))))
        exact st6
  cases hf : codeAmong gpos ps.toList with
  | none =>
    refine wpAny_genexprCodeX hcode (cd.code hPs ht) (cd.tab hPs) hf fun c' h' tk hx hge hlt hco' _ htab' _ => ?_
    obtain ⟨o1, vs, f1, tf, fl, tg', inF, tx, tt, op, _, _, _, _, _, _, _, _, _, htr, _⟩ := hco'
    exact cont _ h' tk _ hx htab'.2 ⟨_, rfl⟩ htr
  | some cv =>
    refine wpAny_genexprCode_hit hcode (cd.code hPs ht) hf ?_
    exact cont cv s2.heap s2.toks ps (Heap.ExtBut.refl _ _) hPs ⟨#[], by simp⟩ ht
end
end Gn
set_option maxHeartbeats 2000000
/-! The text: the defs by their places, their names by slots. -/
namespace ML
open PySem PySem.Spec PyProof.Rows L2
def top (i : Nat) : Stmt := PySem.Challenge.pw_merelylate_k60_whole_texts.main.body.getD i (.Pass ⟨0, 0, 0, 0⟩)
def scopeB (N P : List Str) (sc : Scope) : Bool :=
  decide (sc.kind = .function) && (!sc.isCoroutine && (!sc.isGenerator && (decide N.Nodup && (decide (N.take P.length = P) &&
    (P.all (fun x => decide (sc.names.lookup x = some .local) || decide (sc.names.lookup x = some .cell)) && sc.names.all fun y => !decide (y.2 = .free))))))
theorem scope_by {N P : List Str} {sc : Scope} (h : scopeB N P sc = true) : FnScope N P sc := by
  unfold scopeB at h
  simp only [Bool.and_eq_true, Bool.or_eq_true, Bool.not_eq_true', decide_eq_true_eq, decide_eq_false_iff_not, List.all_eq_true] at h
  obtain ⟨h1, h2, h3, h4, h5, h6, h7⟩ := h
  exact ⟨h1, h2, h3, h4, h5, h6, h7⟩
abbrev sBadmillInit : Stmt := inClass (top 2) 0
abbrev nBadmillInit : List Str := ["self", "part"]
abbrev pBadmillInit : List Str := ["self", "part"]
theorem scBadmillInit : FnScope nBadmillInit pBadmillInit (defScope sBadmillInit) := scope_by (by decide +kernel)
abbrev sBadtextInit : Stmt := inClass (top 3) 0
abbrev nBadtextInit : List Str := ["self", "line"]
abbrev pBadtextInit : List Str := ["self", "line"]
theorem scBadtextInit : FnScope nBadtextInit pBadtextInit (defScope sBadtextInit) := scope_by (by decide +kernel)
abbrev sIsNumber : Stmt := top 15
abbrev nIsNumber : List Str := ["value", "low", "high"]
abbrev pIsNumber : List Str := ["value", "low", "high"]
theorem scIsNumber : FnScope nIsNumber pIsNumber (defScope sIsNumber) := scope_by (by decide +kernel)
abbrev sIsTerm : Stmt := top 16
abbrev nIsTerm : List Str := ["value", "names", "depth", "word", "parts", "part"]
abbrev pIsTerm : List Str := ["value", "names", "depth"]
theorem scIsTerm : FnScope nIsTerm pIsTerm (defScope sIsTerm) := scope_by (by decide +kernel)
abbrev sAreNames : Stmt := top 17
abbrev nAreNames : List Str := ["value", "name"]
abbrev pAreNames : List Str := ["value"]
theorem scAreNames : FnScope nAreNames pAreNames (defScope sAreNames) := scope_by (by decide +kernel)
abbrev sAreTold : Stmt := top 18
abbrev nAreTold : List Str := ["value", "names", "name", "one", "other"]
abbrev pAreTold : List Str := ["value", "names"]
theorem scAreTold : FnScope nAreTold pAreTold (defScope sAreTold) := scope_by (by decide +kernel)
abbrev sAreEquations : Stmt := top 19
abbrev nAreEquations : List Str := ["value", "names", "pair", "term"]
abbrev pAreEquations : List Str := ["value", "names"]
theorem scAreEquations : FnScope nAreEquations pAreEquations (defScope sAreEquations) := scope_by (by decide +kernel)
abbrev sNeedMill : Stmt := top 20
abbrev nNeedMill : List Str := ["value", "letters", "names", "told", "equations"]
abbrev pNeedMill : List Str := ["value"]
theorem scNeedMill : FnScope nNeedMill pNeedMill (defScope sNeedMill) := scope_by (by decide +kernel)
abbrev sIsWord : Stmt := top 26
abbrev nIsWord : List Str := ["value", "sign"]
abbrev pIsWord : List Str := ["value"]
theorem scIsWord : FnScope nIsWord pIsWord (defScope sIsWord) := scope_by (by decide +kernel)
abbrev sNeedWords : Stmt := top 27
abbrev nNeedWords : List Str := ["mill", "value", "word"]
abbrev pNeedWords : List Str := ["mill", "value"]
theorem scNeedWords : FnScope nNeedWords pNeedWords (defScope sNeedWords) := scope_by (by decide +kernel)
abbrev sOffsetText : Stmt := top 28
abbrev nOffsetText : List Str := ["offset"]
abbrev pOffsetText : List Str := ["offset"]
theorem scOffsetText : FnScope nOffsetText pOffsetText (defScope sOffsetText) := scope_by (by decide +kernel)
abbrev sTermText : Stmt := top 29
abbrev nTermText : List Str := ["term", "words", "rank", "word", "own", "sign", "left", "text", "part"]
abbrev pTermText : List Str := ["term", "words", "rank"]
theorem scTermText : FnScope nTermText pTermText (defScope sTermText) := scope_by (by decide +kernel)
abbrev sWritten : Stmt := top 30
abbrev nWritten : List Str := ["mill", "words", "lines", "word", "name", "one", "other", "line"]
abbrev pWritten : List Str := ["mill", "words"]
theorem scWritten : FnScope nWritten pWritten (defScope sWritten) := scope_by (by decide +kernel)
abbrev sSignsOf : Stmt := top 31
abbrev nSignsOf : List Str := ["line", "found", "place", "some", "end", "sign"]
abbrev pSignsOf : List Str := ["line"]
theorem scSignsOf : FnScope nSignsOf pSignsOf (defScope sSignsOf) := scope_by (by decide +kernel)
abbrev sReaderInit : Stmt := inClass (top 32) 0
abbrev nReaderInit : List Str := ["self", "signs", "words"]
abbrev pReaderInit : List Str := ["self", "signs", "words"]
theorem scReaderInit : FnScope nReaderInit pReaderInit (defScope sReaderInit) := scope_by (by decide +kernel)
abbrev sReaderNextSign : Stmt := inClass (top 32) 1
abbrev nReaderNextSign : List Str := ["self"]
abbrev pReaderNextSign : List Str := ["self"]
theorem scReaderNextSign : FnScope nReaderNextSign pReaderNextSign (defScope sReaderNextSign) := scope_by (by decide +kernel)
abbrev sReaderTake : Stmt := inClass (top 32) 2
abbrev nReaderTake : List Str := ["self", "sign"]
abbrev pReaderTake : List Str := ["self", "sign"]
theorem scReaderTake : FnScope nReaderTake pReaderTake (defScope sReaderTake) := scope_by (by decide +kernel)
abbrev sReaderNeed : Stmt := inClass (top 32) 3
abbrev nReaderNeed : List Str := ["self", "sign"]
abbrev pReaderNeed : List Str := ["self", "sign"]
theorem scReaderNeed : FnScope nReaderNeed pReaderNeed (defScope sReaderNeed) := scope_by (by decide +kernel)
abbrev sReaderNumber : Stmt := inClass (top 32) 4
abbrev nReaderNumber : List Str := ["self", "low", "high", "word", "found"]
abbrev pReaderNumber : List Str := ["self", "low", "high"]
theorem scReaderNumber : FnScope nReaderNumber pReaderNumber (defScope sReaderNumber) := scope_by (by decide +kernel)
abbrev sReaderOffset : Stmt := inClass (top 32) 5
abbrev nReaderOffset : List Str := ["self"]
abbrev pReaderOffset : List Str := ["self"]
theorem scReaderOffset : FnScope nReaderOffset pReaderOffset (defScope sReaderOffset) := scope_by (by decide +kernel)
abbrev sReaderCompare : Stmt := inClass (top 32) 6
abbrev nReaderCompare : List Str := ["self", "deep", "one"]
abbrev pReaderCompare : List Str := ["self", "deep"]
theorem scReaderCompare : FnScope nReaderCompare pReaderCompare (defScope sReaderCompare) := scope_by (by decide +kernel)
abbrev sReaderAdded : Stmt := inClass (top 32) 7
abbrev nReaderAdded : List Str := ["self", "deep", "one"]
abbrev pReaderAdded : List Str := ["self", "deep"]
theorem scReaderAdded : FnScope nReaderAdded pReaderAdded (defScope sReaderAdded) := scope_by (by decide +kernel)
abbrev sReaderProduct : Stmt := inClass (top 32) 8
abbrev nReaderProduct : List Str := ["self", "deep", "one"]
abbrev pReaderProduct : List Str := ["self", "deep"]
theorem scReaderProduct : FnScope nReaderProduct pReaderProduct (defScope sReaderProduct) := scope_by (by decide +kernel)
abbrev sReaderAlone : Stmt := inClass (top 32) 9
abbrev nReaderAlone : List Str := ["self", "deep", "word"]
abbrev pReaderAlone : List Str := ["self", "deep"]
theorem scReaderAlone : FnScope nReaderAlone pReaderAlone (defScope sReaderAlone) := scope_by (by decide +kernel)
abbrev sReaderBrackets : Stmt := inClass (top 32) 10
abbrev nReaderBrackets : List Str := ["self", "word", "deep", "one", "found", "other"]
abbrev pReaderBrackets : List Str := ["self", "word", "deep"]
theorem scReaderBrackets : FnScope nReaderBrackets pReaderBrackets (defScope sReaderBrackets) := scope_by (by decide +kernel)
abbrev sEquationOf : Stmt := top 33
abbrev nEquationOf : List Str := ["line", "words", "signs", "reader", "one", "other"]
abbrev pEquationOf : List Str := ["line", "words"]
theorem scEquationOf : FnScope nEquationOf pEquationOf (defScope sEquationOf) := scope_by (by decide +kernel)
abbrev sDigit : Stmt := top 34
abbrev nDigit : List Str := ["word", "low", "high"]
abbrev pDigit : List Str := ["word", "low", "high"]
theorem scDigit : FnScope nDigit pDigit (defScope sDigit) := scope_by (by decide +kernel)
abbrev sNameOf : Stmt := top 35
abbrev nNameOf : List Str := ["line", "words", "parts", "values", "first"]
abbrev pNameOf : List Str := ["line", "words"]
theorem scNameOf : FnScope nNameOf pNameOf (defScope sNameOf) := scope_by (by decide +kernel)
abbrev sToldLine : Stmt := top 36
abbrev nToldLine : List Str := ["line", "words", "parts", "told", "part", "one", "other"]
abbrev pToldLine : List Str := ["line", "words"]
theorem scToldLine : FnScope nToldLine pToldLine (defScope sToldLine) := scope_by (by decide +kernel)
abbrev sReadMill : Stmt := top 37
abbrev nReadMill : List Str := ["text", "lines", "parts", "letters", "at", "words", "names", "found", "told", "equations", "mill"]
abbrev pReadMill : List Str := ["text"]
theorem scReadMill : FnScope nReadMill pReadMill (defScope sReadMill) := scope_by (by decide +kernel)
abbrev sReadEquations : Stmt := top 38
abbrev nReadEquations : List Str := ["lines", "at", "words", "found", "place", "pair"]
abbrev pReadEquations : List Str := ["lines", "at", "words"]
theorem scReadEquations : FnScope nReadEquations pReadEquations (defScope sReadEquations) := scope_by (by decide +kernel)
abbrev sLTaken : Stmt := top 40
abbrev nLTaken : List Str := ["_law_row", "_law_many", "_law_found", "_law_cell"]
abbrev pLTaken : List Str := ["_law_row", "_law_many"]
theorem scLTaken : FnScope nLTaken pLTaken (defScope sLTaken) := scope_by (by decide +kernel)
abbrev sLPick : Stmt := top 41
abbrev nLPick : List Str := ["_law_row", "_law_things"]
abbrev pLPick : List Str := ["_law_row", "_law_things"]
theorem scLPick : FnScope nLPick pLPick (defScope sLPick) := scope_by (by decide +kernel)
abbrev sLAlike : Stmt := top 42
abbrev nLAlike : List Str := ["_law_found", "_law_due", "_law_k"]
abbrev pLAlike : List Str := ["_law_found", "_law_due"]
theorem scLAlike : FnScope nLAlike pLAlike (defScope sLAlike) := scope_by (by decide +kernel)
abbrev sLTerm : Stmt := top 43
abbrev nLTerm : List Str := ["_law_row", "_law_names", "_law_deep_here", "_law_most", "_law_kind", "_law_word", "_law_k"]
abbrev pLTerm : List Str := ["_law_row", "_law_names", "_law_deep_here", "_law_most"]
theorem scLTerm : FnScope nLTerm pLTerm (defScope sLTerm) := scope_by (by decide +kernel)
abbrev sLMill : Stmt := top 44
abbrev nLMill : List Str := ["_law_row", "_law_most_names", "_law_most", "_law_letters", "_law_names", "_law_equations", "_law_name", "_law_side_here", "_law_told_here", "_law_k"]
abbrev pLMill : List Str := ["_law_row", "_law_most_names", "_law_most"]
theorem scLMill : FnScope nLMill pLMill (defScope sLMill) := scope_by (by decide +kernel)
abbrev sLOffsetText : Stmt := top 55
abbrev nLOffsetText : List Str := ["_law_offset_here"]
abbrev pLOffsetText : List Str := ["_law_offset_here"]
theorem scLOffsetText : FnScope nLOffsetText pLOffsetText (defScope sLOffsetText) := scope_by (by decide +kernel)
abbrev sLText : Stmt := top 56
abbrev nLText : List Str := ["_law_term_here", "_law_words", "_law_rank", "_law_parts", "_law_own", "_law_sign", "_law_text_here", "_law_part"]
abbrev pLText : List Str := ["_law_term_here", "_law_words", "_law_rank"]
theorem scLText : FnScope nLText pLText (defScope sLText) := scope_by (by decide +kernel)
abbrev sLLoose : Stmt := top 57
abbrev nLLoose : List Str := ["_law_row", "_law_term_here", "_law_words", "_law_text_here", "_law_parts", "_law_sign", "_law_part"]
abbrev pLLoose : List Str := ["_law_row", "_law_term_here", "_law_words"]
theorem scLLoose : FnScope nLLoose pLLoose (defScope sLLoose) := scope_by (by decide +kernel)
abbrev sLSigns : Stmt := top 58
abbrev nLSigns : List Str := ["_law_line", "_law_small", "_law_found", "_law_some", "_law_many", "_law_sign"]
abbrev pLSigns : List Str := ["_law_line"]
theorem scLSigns : FnScope nLSigns pLSigns (defScope sLSigns) := scope_by (by decide +kernel)
abbrev sLSide : Stmt := top 59
abbrev nLSide : List Str := ["_law_signs_here", "_law_words", "_law_rank", "_law_deep_here", "_law_one", "_law_names", "_law_other"]
abbrev pLSide : List Str := ["_law_signs_here", "_law_words", "_law_rank", "_law_deep_here"]
theorem scLSide : FnScope nLSide pLSide (defScope sLSide) := scope_by (by decide +kernel)
abbrev sLNumber : Stmt := top 60
abbrev nLNumber : List Str := ["_law_word", "_law_low", "_law_high"]
abbrev pLNumber : List Str := ["_law_word", "_law_low", "_law_high"]
theorem scLNumber : FnScope nLNumber pLNumber (defScope sLNumber) := scope_by (by decide +kernel)
abbrev sLOffset : Stmt := top 61
abbrev nLOffset : List Str := ["_law_signs_here", "_law_number_here"]
abbrev pLOffset : List Str := ["_law_signs_here"]
theorem scLOffset : FnScope nLOffset pLOffset (defScope sLOffset) := scope_by (by decide +kernel)
abbrev sLSingle : Stmt := top 62
abbrev nLSingle : List Str := ["_law_signs_here", "_law_words", "_law_deep_here", "_law_one", "_law_number_here"]
abbrev pLSingle : List Str := ["_law_signs_here", "_law_words", "_law_deep_here"]
theorem scLSingle : FnScope nLSingle pLSingle (defScope sLSingle) := scope_by (by decide +kernel)
abbrev sLCall : Stmt := top 63
abbrev nLCall : List Str := ["_law_signs_here", "_law_words", "_law_deep_here", "_law_parts", "_law_left", "_law_many", "_law_k", "_law_number_here", "_law_one"]
abbrev pLCall : List Str := ["_law_signs_here", "_law_words", "_law_deep_here"]
theorem scLCall : FnScope nLCall pLCall (defScope sLCall) := scope_by (by decide +kernel)
abbrev sLDeep : Stmt := top 64
abbrev nLDeep : List Str := ["_law_term_here", "_law_part"]
abbrev pLDeep : List Str := ["_law_term_here"]
theorem scLDeep : FnScope nLDeep pLDeep (defScope sLDeep) := scope_by (by decide +kernel)
abbrev sLEquation : Stmt := top 65
abbrev nLEquation : List Str := ["_law_line", "_law_words", "_law_signs_here", "_law_one", "_law_other"]
abbrev pLEquation : List Str := ["_law_line", "_law_words"]
theorem scLEquation : FnScope nLEquation pLEquation (defScope sLEquation) := scope_by (by decide +kernel)
abbrev sLIsWord : Stmt := top 66
abbrev nLIsWord : List Str := ["_law_word", "_law_sign"]
abbrev pLIsWord : List Str := ["_law_word"]
theorem scLIsWord : FnScope nLIsWord pLIsWord (defScope sLIsWord) := scope_by (by decide +kernel)
abbrev sLRead : Stmt := top 67
abbrev nLRead : List Str := ["_law_text_here", "_law_lines", "_law_words", "_law_names", "_law_at", "_law_parts", "_law_told_here", "_law_equations", "_law_k", "_law_pair", "_law_part"]
abbrev pLRead : List Str := ["_law_text_here"]
theorem scLRead : FnScope nLRead pLRead (defScope sLRead) := scope_by (by decide +kernel)
abbrev sLToldBy : Stmt := top 68
abbrev nLToldBy : List Str := ["_law_work", "e"]
abbrev pLToldBy : List Str := ["_law_work"]
theorem scLToldBy : FnScope nLToldBy pLToldBy (defScope sLToldBy) := scope_by (by decide +kernel)
abbrev sLaw : Stmt := top 69
abbrev nLaw : List Str := ["_law_script", "_law_row", "_law_mill_here", "_law_deep_here", "_law_words", "_law_lines", "_law_heads", "_law_text_here", "_law_loose_here", "_law_value_here", "_law_more", "_law_turn", "_law_k", "_law_kind", "_law_bent", "_law_bad", "_law_name", "_law_one", "_law_other", "_law_line", "_law_pair"]
abbrev pLaw : List Str := ["_law_script"]
theorem scLaw : FnScope nLaw pLaw (defScope sLaw) := scope_by (by decide +kernel)
end ML
set_option maxHeartbeats 2000000
/-! Defs with their code objects, calls under any room, what stays of the heap, data. -/
namespace ML
open PySem PySem.Spec PyProof.Rows L2

/-- a def of the text: its function object at f, its code object at c -/
structure FunC (K : PySem.W.Frag) (x qual : Str) (st : Stmt) (f : Addr) (fd : FuncData) (c : Addr) : Prop where
  ex : ∃ (oc : Value) (od : Option Addr) (kV doc pm : Value) (an : Option Addr) (ct : Value) (osl : Array (Option Value)),
    fd = PySem.W.fnOf x qual (defArgs st) (defBody st) (defScope st) .none kV doc pm an (.ref c) ct ∧ K.lookup f = some ⟨oc, od, .func fd, osl⟩ ∧ PySem.W.codeIn K (.ref c) qual = true
  kp : PySem.W.keepIn K (.ref f) = true
section
variable {P : Program} {w : World} {K : PySem.W.Frag} {mg : Str → Option Value} {base : Heap} {x qual : Str} {st : Stmt} {f c : Addr} {fd : FuncData}
theorem FunC.binds {ps : List Str} (F : FunC K x qual st f fd c)
    (h : ∀ (kV doc pm : Value) (an : Option Addr) (cdv ct : Value) (us : List Value), us.length = ps.length → bindArgs (PySem.W.fnOf x qual (defArgs st) (defBody st) (defScope st) .none kV doc pm an cdv ct) ⟨us, []⟩ = pure (ps.zip us)) : Binds K fd ps [] := by
  obtain ⟨oc, od, kV, doc, pm, an, ct, osl, rfl, lk, hcd⟩ := F.ex
  exact Binds.all (h kV doc pm an (.ref c) ct)
/-- the rule for a def from which no exception comes -/
theorem FunC.ok {N ps : List Str} {k : Nat} {sp : Sp} (F : FunC K x qual st f fd c) (S : FnScope N ps (defScope st)) (len : ∀ vs H Q E, sp vs H Q E → vs.length = ps.length)
    (hbody : ∀ (A : Around) (outer : List Env) (s : Shared) (H : Hp) (vs : List V) (Q : VK) (E : XK), Room k (A.deeper (envOfC qual (defScope st) s.heap.objs.size f (.ref c))) → sp vs H Q E →
      ∃ t, PSs (cxOf CX0 P w K mg base N qual (defScope st) f (.ref c) A outer s H E).nox (defBody st) t ∧ t { nx := fun _ H' => Q .non H', rt := Q } (start N vs) H) : FnOk P w K mg base CX0 (k + 1) f fd ps sp := by
  obtain ⟨oc, od, kV, doc, pm, an, ct, osl, rfl, lk, hcd⟩ := F.ex
  refine fn_of lk hcd S len fun A outer s H vs Q E hr hsp => ?_
  obtain ⟨t, h, q⟩ := hbody A outer s H vs Q E hr hsp
  exact ⟨t, h.nox, q⟩
/-- .. and for one that may raise -/
theorem FunC.okX {N ps : List Str} {k : Nat} {sp : Sp} (F : FunC K x qual st f fd c) (S : FnScope N ps (defScope st)) (len : ∀ vs H Q E, sp vs H Q E → vs.length = ps.length)
    (hbody : ∀ (A : Around) (outer : List Env) (s : Shared) (H : Hp) (vs : List V) (Q : VK) (E : XK), Room k (A.deeper (envOfC qual (defScope st) s.heap.objs.size f (.ref c))) → sp vs H Q E →
      ∃ t, PSs (cxOf (L2.CX P w) P w K mg base N qual (defScope st) f (.ref c) A outer s H E) (defBody st) t ∧ t { nx := fun _ H' => Q .non H', rt := Q } (start N vs) H) : FnOk P w K mg base (L2.CX P w) (k + 1) f fd ps sp := by
  obtain ⟨oc, od, kV, doc, pm, an, ct, osl, rfl, lk, hcd⟩ := F.ex
  exact fn_of lk hcd S len fun A outer s H vs Q E hr hsp => hbody A outer s H vs Q E hr hsp
end

/-! ### calls under any room: for a recursion that is deeper than Room allows -/
structure FnR (P : Program) (w : World) (K : PySem.W.Frag) (mg : Str → Option Value) (base : Heap) (B : Around → Prop) (f : Addr) (fd : FuncData) (ps : List Str) (sp : Sp) : Prop where
  len : ∀ vs H Q E, sp vs H Q E → vs.length = ps.length
  run : ∀ (A : Around) (outer : List Env) (s : Shared) (H : Hp) (args : Args) (us : List Value) (vs : List V) (Q : VK) (E : XK), B A → Env0 P w K mg base A outer s H → BindsTo s fd args (ps.zip us) → Vals vs us → sp vs H Q E →
    codeAny (model P w) A (.call (.ref f) args) (CR CX0 outer P w H s Q E) s
/-- one frame of depth for a call, and a little left for what calls no def of ours -/
structure Rm (k : Nat) (A : Around) : Prop where
  hd : A.handled = none
  dp : A.depth + k + 40 < recursionLimit
  un : A.units + 4 * k + 800 < cLine
theorem Rm.mono {j k : Nat} {A : Around} (r : Rm k A) (h : j ≤ k) : Rm j A := ⟨r.hd, by have := r.dp; omega, by have := r.un; omega⟩
theorem Rm.deeper {k : Nat} {A : Around} (r : Rm (k + 1) A) (env : Env) : Rm k (A.deeper env) :=
  ⟨r.hd, by have := r.dp; show A.depth + 1 + k + 40 < _; omega, by have := r.un; show A.units + 3 + 4 * k + 800 < _; omega⟩
theorem Rm.room {k : Nat} {A : Around} (r : Rm k A) : Room 8 A := ⟨r.hd, by have := r.dp; omega, by have := r.un; omega⟩
section
variable {P : Program} {w : World} {K : PySem.W.Frag} {mg : Str → Option Value} {base : Heap} {x qual : Str} {st : Stmt} {f c : Addr} {fd : FuncData} {B B' : Around → Prop} {ps : List Str} {sp sp' : Sp}
theorem FnR.mono (F : FnR P w K mg base B f fd ps sp) (h : ∀ A, B' A → B A) : FnR P w K mg base B' f fd ps sp :=
  ⟨F.len, fun A outer s H args us vs Q E hb => F.run A outer s H args us vs Q E (h A hb)⟩
theorem FnR.imp (F : FnR P w K mg base B f fd ps sp) (h : ∀ vs H Q E, sp' vs H Q E → sp vs H Q E) : FnR P w K mg base B f fd ps sp' :=
  ⟨fun vs H Q E q => F.len vs H Q E (h _ _ _ _ q), fun A outer s H args us vs Q E hb he hd hv hs => F.run A outer s H args us vs Q E hb he hd hv (h _ _ _ _ hs)⟩
theorem FnR.of {k : Nat} (F : FnOk P w K mg base CX0 k f fd ps sp) : FnR P w K mg base (Room k) f fd ps sp := ⟨F.len, F.run⟩
theorem FunC.okR {N : List Str} {k : Nat} (F : FunC K x qual st f fd c) (S : FnScope N ps (defScope st)) (len : ∀ vs H Q E, sp vs H Q E → vs.length = ps.length)
    (hbody : ∀ (A : Around) (outer : List Env) (s : Shared) (H : Hp) (vs : List V) (Q : VK) (E : XK), Rm k (A.deeper (envOfC qual (defScope st) s.heap.objs.size f (.ref c))) → sp vs H Q E →
      ∃ t, PSs (cxOf CX0 P w K mg base N qual (defScope st) f (.ref c) A outer s H E).nox (defBody st) t ∧ t { nx := fun _ H' => Q .non H', rt := Q } (start N vs) H) : FnR P w K mg base (Rm (k + 1)) f fd ps sp := by
  obtain ⟨oc, od, kV, doc, pm, an, ct, osl, rfl, lk, hcd⟩ := F.ex
  refine ⟨len, fun A outer s H args us vs Q E hr e0 hb r hsp => ?_⟩
  -- the library's rule with a promise that speaks of these arguments alone, at a room that the around has
  refine LamX.run_ofS (k := 7) lk hcd S hr.room e0 hb r (len _ _ _ _ hsp) fun _ => ?_
  obtain ⟨t, ht, hq⟩ := hbody A outer s H vs Q E (hr.deeper _) hsp
  exact ⟨t, ht.nox, hq⟩
end
section
variable {X : Cx} {B : Around → Prop} {f : Addr} {fd : FuncData} {ps : List Str} {sp : Sp} {x : Str} {p pos : Pos} {e : Expr} {es : List Expr} {t : TA}
theorem pe_callR (F : FnR X.prog X.w X.K X.mg X.base B f fd ps sp) (hr : B X.A) (hg : Gl X x) (hm : X.mg x = some (.ref f)) (hk : PySem.W.keepIn X.K (.ref f) = true) (hb : Binds X.K fd ps [])
    (ha : PA X (e :: es) t) (hdb : (x == ("__debug__" : Str)) = false := by decide) (he : starEach (e :: es) X.env = (false, eval e X.env) :: starEach es X.env := by rfl) (hpl : (backTo pos (starEach es X.env)).any (·.1) = false := by rfl) :
    PE X (.Call (.Name x p) (e :: es) [] pos) (tCall sp [] E0 t) := by
  -- F at this very around is a def with no level: FnOk asks its room first, so F is bound to the around by a promise that bears it
  refine ⟨fun pins s σ H Q I h => ?_⟩
  refine wpAny_Call_Name_kw (ld_glob I hg hm ?_ hdb)
  refine PySem.W.callWith_K (h₀ := X.base) I.ok.mod.kin hk (thn (ha.run pos pins s σ H _ I h) fun us s1 hh => ?_) he hpl
  obtain ⟨vs, H1, I1, r, q⟩ := hh
  refine ⟨I1.kIn, ?_⟩
  have q : sp (vs ++ []) H1 Q E0 := q
  rw [List.append_nil] at q
  have hl : us.length = ps.length := r.length.symm.trans (F.len _ _ _ _ q)
  have bnd := hb s1 us I1.kIn (by rw [List.append_nil]; exact hl)
  rw [List.append_nil] at bnd
  refine wpAny_call (codeAny_mono (F.run X.A X.stack s1 H1 ⟨us, []⟩ us vs Q E0 hr I1.env0 bnd r q) fun r' s' hq => ?_)
  cases r' with
  | error e => exact False.elim hq
  | ok fl =>
    cases fl with
    | ret u => exact I1.after hq
    | next => exact False.elim hq
    | brk => exact False.elim hq
    | cont => exact False.elim hq
end

/-! ### what stays of the heap -/
/-- H' is H but for the lists, instances .. at M, and for the tables at GT, which stay tables -/
structure Ext (GT M : List Addr) (H H' : Hp) : Prop where
  keep : ∀ b o, H b = some o → (∀ ps, o ≠ .tbl ps) → b ∉ M → H' b = some o
  tups : ∀ b xs, H b = some (.tup xs) → H' b = some (.tup xs)
  tabs : ∀ p ∈ GT, GxR.TabG H p → GxR.TabG H' p
  oth : ∀ b ps, H b = some (.tbl ps) → b ∉ GT → H' b = some (.tbl ps)
  dom : ∀ b o, H b = some o → ∃ o', H' b = some o'
section
variable {GT M M' : List Addr} {H H1 H2 : Hp} {a p : Addr} {o : HO}
theorem Ext.refl : Ext GT M H H := ⟨fun _ _ e _ _ => e, fun _ _ e => e, fun _ _ t => t, fun _ _ e _ => e, fun _ o e => ⟨o, e⟩⟩
theorem Ext.trans (x : Ext GT M H H1) (y : Ext GT M H1 H2) : Ext GT M H H2 :=
  ⟨fun b o e n m => y.keep b o (x.keep b o e n m) n m, fun b xs e => y.tups b xs (x.tups b xs e), fun p hp t => y.tabs p hp (x.tabs p hp t), fun b ps e n => y.oth b ps (x.oth b ps e n) n, fun b o e => by
    obtain ⟨o1, e1⟩ := x.dom b o e
    exact y.dom b o1 e1⟩
theorem Ext.mono (x : Ext GT M H H1) (h : ∀ b ∈ M, b ∈ M') : Ext GT M' H H1 := ⟨fun b o e n m => x.keep b o e n fun z => m (h b z), x.tups, x.tabs, x.oth, x.dom⟩
theorem Ext.wide (x : Ext GT [] H H1) : Ext GT M H H1 := x.mono fun b z => by cases z
theorem Ext.same (h : Same H H1) : Ext GT M H H1 :=
  ⟨fun b o e _ _ => h b o e, fun b xs e => h b _ e, fun p _ ⟨ps, e, t⟩ => ⟨ps, h _ _ e, t⟩, fun b ps e _ => h b _ e, fun b o e => ⟨o, h b o e⟩⟩
theorem Ext.new (h : H p = none) : Ext GT M H (upd H p o) := .same fun b u e => by rw [upd_ne (ne_of_none e h)]; exact e
/-- an object that stands is written -/
theorem Ext.mut {o1 : HO} (h : H p = some o1) (n : ∀ ps, o1 ≠ .tbl ps) (nt : ∀ xs, o1 ≠ .tup xs) (hm : p ∈ M) : Ext GT M H (upd H p o) := by
  have ne : ∀ b u, H b = some u → u ≠ o1 → b ≠ p := fun b u e d z => by
    rw [z, h] at e
    exact d (Option.some.inj e).symm
  refine ⟨fun b u e _ m => ?_, fun b xs e => ?_, fun q _ ⟨ps, e, t⟩ => ⟨ps, ?_, t⟩, fun b ps e _ => ?_, fun b u e => ?_⟩
  · rw [upd_ne fun z => m (by rw [z]; exact hm)]
    exact e
  · rw [upd_ne (ne b _ e fun z => nt xs z.symm)]
    exact e
  · rw [upd_ne (ne q _ e fun z => n ps z.symm)]
    exact e
  · rw [upd_ne (ne b _ e fun z => n ps z.symm)]
    exact e
  · by_cases hb : b = p
    · exact ⟨o, by rw [hb]; exact upd_same⟩
    · exact ⟨u, by rw [upd_ne hb]; exact e⟩
/-- what was new behind H may be written -/
theorem Ext.mutN (x : Ext GT M H H1) (h : H p = none) : Ext GT M H (upd H1 p o) :=
  ⟨fun b u e n m => by rw [upd_ne (ne_of_none e h)]; exact x.keep b u e n m, fun b xs e => by rw [upd_ne (ne_of_none e h)]; exact x.tups b xs e,
   fun q hq t => by
    have hne : q ≠ p := by
      obtain ⟨ps, e, _⟩ := t
      exact ne_of_none e h
    obtain ⟨ps, e, t2⟩ := x.tabs q hq t
    exact ⟨ps, by rw [upd_ne hne]; exact e, t2⟩, fun b ps e n => by rw [upd_ne (ne_of_none e h)]; exact x.oth b ps e n, fun b u e => by
    rw [upd_ne (ne_of_none e h)]
    exact x.dom b u e⟩
theorem Ext.tabbed (h : GxR.Tabbed p H H1) (t : GxR.TabG H p) (hp : p ∈ GT) : Ext GT M H H1 := by
  obtain ⟨ps0, e0, _⟩ := t
  have at_ : ∀ b o, H b = some o → b ≠ p → H1 b = some o := fun b o e n => by rw [h.2 b n]; exact e
  have ne : ∀ b o, H b = some o → (∀ ps, o ≠ .tbl ps) → b ≠ p := fun b o e n z => by
    rw [z, e0] at e
    exact n ps0 (Option.some.inj e).symm
  refine ⟨fun b o e n _ => at_ b o e (ne b o e n), fun b xs e => at_ b _ e (ne b _ e fun ps z => by cases z), fun q _ t => ?_, fun b ps e n => at_ b _ e fun z => n (by rw [z]; exact hp), fun b o e => ?_⟩
  · by_cases hq : q = p
    · rw [hq]; exact h.1
    · obtain ⟨ps, e, t2⟩ := t
      exact ⟨ps, at_ q _ e hq, t2⟩
  · by_cases hb : b = p
    · obtain ⟨ps, e1, _⟩ := h.1
      exact ⟨_, by rw [hb]; exact e1⟩
    · exact ⟨o, at_ b o e hb⟩
/-- what is new behind is new ahead -/
theorem Ext.fresh (x : Ext GT M H H1) (h : H1 p = none) : H p = none := by
  cases e : H p with
  | none => rfl
  | some o =>
    obtain ⟨o', e'⟩ := x.dom p o e
    rw [h] at e'
    cases e'
theorem Ext.lst (x : Ext GT [] H H1) {xs : List V} (h : H p = some (.lst xs)) : H1 p = some (.lst xs) := x.keep p _ h (fun _ z => by cases z) (by simp)
theorem Ext.lstM (x : Ext GT M H H1) {xs : List V} (h : H p = some (.lst xs)) (n : p ∉ M) : H1 p = some (.lst xs) := x.keep p _ h (fun _ z => by cases z) n
theorem Ext.ins (x : Ext GT [] H H1) {C dx : Addr} {fs : List (Str × V)} (h : H p = some (.ins C dx fs)) : H1 p = some (.ins C dx fs) := x.keep p _ h (fun _ z => by cases z) (by simp)
/-- the tables are tables -/
def Tbs (GT : List Addr) (H : Hp) : Prop := ∀ p ∈ GT, GxR.TabG H p
theorem Tbs.ext (t : Tbs GT H) (x : Ext GT M H H1) : Tbs GT H1 := fun p hp => x.tabs p hp (t p hp)
end

/-! ### data -/
inductive D where
  | int (i : Int)
  | str (s : Str)
  | tup (ds : List D)
/-- a value that is data in the heap -/
inductive DAt (H : Hp) : V → D → Prop
  | int (i : Int) : DAt H (.int i) (.int i)
  | str (s : Str) : DAt H (.str s) (.str s)
  | tup {p : Addr} {xs : List V} {ds : List D} (h : H p = some (.tup xs)) (hl : xs.length = ds.length) (hs : ∀ (i : Nat) (x : V) (d : D), xs[i]? = some x → ds[i]? = some d → DAt H x d) : DAt H (.ref p) (.tup ds)
theorem DAt.ext {GT M : List Addr} {H H1 : Hp} (x : Ext GT M H H1) {v : V} {d : D} (h : DAt H v d) : DAt H1 v d := by
  induction h with
  | int i => exact .int i
  | str s => exact .str s
  | tup h hl hs ih => exact .tup (x.tups _ _ h) hl ih
end ML
set_option maxHeartbeats 2000000
/-! The plain functions: terms, their texts, the signs of a line, the reader of signs, the reader of a text. -/
namespace ML
open PySem L2 TL
abbrev S (l : List Nat) : Str := ⟨l.toArray⟩
theorem tl_S (l : List Nat) : tl (S l) = l := rfl
theorem S_tl (x : Str) : S (tl x) = x := ext_tl rfl

inductive Op where
  | same | less | plus | times
  deriving DecidableEq
def Op.word : Op → Str
  | .same => "same" | .less => "less" | .plus => "plus" | .times => "times"
def Op.sign : Op → Str
  | .same => "==" | .less => "<" | .plus => "+" | .times => "*"
def Op.rank : Op → Nat
  | .same => 0 | .less => 0 | .plus => 1 | .times => 2
inductive Tm where
  | inn (o : Int)
  | ofn (n : Nat) (o : Int)
  | isc (c : Nat)
  | rst (a : Tm) (c : Nat)
  | pck (a b c : Tm)
  | bin (op : Op) (a b : Tm)
def Tm.d : Tm → D
  | .inn o => .tup [.str "in", .int o]
  | .ofn n o => .tup [.str "of", .int n, .int o]
  | .isc c => .tup [.str "is", .int c]
  | .rst a c => .tup [.str "rest", a.d, .int c]
  | .pck a b c => .tup [.str "pick", a.d, b.d, c.d]
  | .bin op a b => .tup [.str op.word, a.d, b.d]
def Tm.deep : Tm → Nat
  | .inn _ => 1 | .ofn _ _ => 1 | .isc _ => 1
  | .rst a _ => a.deep + 1
  | .pck a b c => max a.deep (max b.deep c.deep) + 1
  | .bin _ a b => max a.deep b.deep + 1
/-- what a term of so many names may have, but for its depth -/
def Tm.ok (n : Nat) : Tm → Prop
  | .inn o => -2 ≤ o ∧ o ≤ 2
  | .ofn i o => i < n ∧ -2 ≤ o ∧ o ≤ 2
  | .isc c => c ≤ 9
  | .rst a c => a.ok n ∧ 1 ≤ c ∧ c ≤ 9
  | .pck a b c => a.ok n ∧ b.ok n ∧ c.ok n
  | .bin _ a b => a.ok n ∧ b.ok n

/-! ### writing -/
def offF (o : Int) : Str := if o = 0 then Str.ofString "" else (if 0 < o then ("@+" : Str) else "@-") ++ Str.ofString (toString (if o < 0 then -o else o))
def W (ws : List Str) : Tm → Nat → Str
  | .inn o, _ => ("in" : Str) ++ offF o
  | .ofn i o, _ => ws.getD i (Str.ofString "") ++ offF o
  | .isc c, _ => Str.ofString (toString (c : Int))
  | .rst a c, _ => ("rest(" : Str) ++ W ws a 0 ++ (", " : Str) ++ Str.ofString (toString (c : Int)) ++ (")" : Str)
  | .pck a b c, _ => ("pick(" : Str) ++ (W ws a 0 ++ (", " : Str) ++ (W ws b 0 ++ (", " : Str) ++ W ws c 0)) ++ (")" : Str)
  | .bin op a b, r =>
    let t := W ws a (if 0 < op.rank then op.rank else 1) ++ ((" " : Str) ++ op.sign ++ (" " : Str)) ++ W ws b (op.rank + 1)
    if op.rank < r then ("(" : Str) ++ t ++ (")" : Str) else t

/-! ### words, numbers -/
def small (c : Nat) : Bool := 97 ≤ c && c ≤ 122
def fig (c : Nat) : Bool := 48 ≤ c && c ≤ 57
def alnum (c : Nat) : Bool := small c || fig c
def digitF (z : Str) (lo hi : Int) : Option Int := match tl z with
  | [c] => if fig c = true ∧ lo ≤ (c : Int) - 48 ∧ (c : Int) - 48 ≤ hi then some ((c : Int) - 48) else none
  | _ => none
def kept (z : Str) : Bool := decide (z = "in") || (decide (z = "pick") || decide (z = "rest"))
def isWordF (z : Str) : Bool := match tl z with
  | [] => false
  | c :: r => decide (r.length + 1 ≤ 8) && (small c && (!kept z && (c :: r).all alnum))

/-! ### the signs of a line -/
def signAt : List Nat → Option (Str × List Nat)
  | 61 :: 61 :: r => some ("==", r)
  | 61 :: r => some ("=", r)
  | 60 :: r => some ("<", r)
  | 43 :: r => some ("+", r)
  | 42 :: r => some ("*", r)
  | 40 :: r => some ("(", r)
  | 41 :: r => some (")", r)
  | 44 :: r => some (",", r)
  | 64 :: 43 :: r => some ("@+", r)
  | 64 :: 45 :: r => some ("@-", r)
  | _ => none
def signsN : Nat → List Nat → Option (List Str)
  | _, [] => some []
  | 0, _ :: _ => none
  | n + 1, c :: r => if c = 32 then signsN n r else match signAt (c :: r) with
    | some (s, r') => (signsN n r').map (s :: ·)
    | none => if (c :: r).takeWhile alnum = [] then none else (signsN n ((c :: r).dropWhile alnum)).map (S ((c :: r).takeWhile alnum) :: ·)
def signsF (l : List Nat) : Option (List Str) := signsN l.length l

/-! ### reading signs -/
abbrev PR : Type := Option (Tm × List Str)
def offsetF : List Str → Option (Int × List Str)
  | [] => some (0, [])
  | s :: r => if s = "@+" then (match r with
      | [] => none
      | w :: r' => (digitF w 1 2).map fun n => (n, r'))
    else if s = "@-" then (match r with
      | [] => none
      | w :: r' => (digitF w 1 2).map fun n => (0 - n, r'))
    else some (0, s :: r)
def opA (s : Str) : Option Op := if s = "+" then some .plus else none
def opM (s : Str) : Option Op := if s = "*" then some .times else none
def opC (s : Str) : Option Op := if s = "==" then some .same else if s = "<" then some .less else none
def loopF (p : List Str → PR) (op : Str → Option Op) : Nat → Tm → List Str → PR
  | _, t, [] => some (t, [])
  | n, t, s :: r => match op s with
    | none => some (t, s :: r)
    | some o => match p r with
      | none => none
      | some (t', r') => match n with
        | 0 => none
        | n + 1 => loopF p op n (.bin o t t') r'
def chainF (p : List Str → PR) (op : Str → Option Op) (l : List Str) : PR := match p l with
  | none => none
  | some (t, r) => loopF p op r.length t r
def compF (p : List Str → PR) (l : List Str) : PR := match p l with
  | none => none
  | some (t, r) => match r with
    | [] => some (t, [])
    | s :: r' => match opC s with
      | none => some (t, s :: r')
      | some o => match p r' with
        | none => none
        | some (t', r'') => some (.bin o t t', r'')
def expect (s : Str) : List Str → Option (List Str)
  | [] => none
  | x :: r => if x = s then some r else none
def pickF (p : List Str → PR) (r : List Str) : PR :=
  (expect "(" r).bind fun r1 => (p r1).bind fun x1 => (expect "," x1.2).bind fun r2 => (p r2).bind fun x2 => (expect "," x2.2).bind fun r3 => (p r3).bind fun x3 =>
    (expect ")" x3.2).bind fun r4 => some (.pck x1.1 x2.1 x3.1, r4)
def numF (lo hi : Int) : List Str → Option (Nat × List Str)
  | [] => none
  | w :: r => (digitF w lo hi).map fun n => (n.toNat, r)
def restF (p : List Str → PR) (r : List Str) : PR :=
  (expect "(" r).bind fun r1 => (p r1).bind fun x1 => (expect "," x1.2).bind fun r2 => (numF 1 9 r2).bind fun x2 => (expect ")" x2.2).bind fun r3 => some (.rst x1.1 x2.1, r3)
def aloneF (ws : List Str) : Nat → List Str → PR
  | 0, _ => none
  | _ + 1, [] => none
  | f + 1, s :: r =>
    if s = "(" then (compF (chainF (chainF (aloneF ws f) opM) opA) r).bind fun x => (expect ")" x.2).bind fun r' => some (x.1, r')
    else if s = "pick" then pickF (compF (chainF (chainF (aloneF ws f) opM) opA)) r
    else if s = "rest" then restF (compF (chainF (chainF (aloneF ws f) opM) opA)) r
    else if s = "in" then (offsetF r).map fun x => (.inn x.1, x.2)
    else if s ∈ ws then (offsetF r).map fun x => (.ofn (ws.idxOf s) x.1, x.2)
    else (digitF s 0 9).map fun n => (.isc n.toNat, r)
abbrev mulF (ws : List Str) (f : Nat) : List Str → PR := chainF (aloneF ws f) opM
abbrev addF (ws : List Str) (f : Nat) : List Str → PR := chainF (mulF ws f) opA
abbrev sideF (ws : List Str) (f : Nat) : List Str → PR := compF (addF ws f)
/-- the equation of signs -/
def pairF (ws : List Str) (ss : List Str) : Option (Tm × Tm) :=
  (sideF ws 41 ss).bind fun x => (expect "=" x.2).bind fun r => (sideF ws 41 r).bind fun y => if y.2 = [] ∧ x.1.deep ≤ 5 ∧ y.1.deep ≤ 5 then some (x.1, y.1) else none
def eqF (ws : List Str) (line : List Nat) : Option (Tm × Tm) := (signsF line).bind fun ss => if ss.length ≤ 200 then pairF ws ss else none

/-! ### reading a text -/
structure Mill where
  letters : Nat
  names : List (Nat × Nat)
  told : List Nat
  eqs : List (Tm × Tm)
def splitC (s : Nat) : List Nat → List (List Nat)
  | [] => [[]]
  | c :: r => if c = s then [] :: splitC s r else match splitC s r with
    | [] => [[c]]
    | h :: t => (c :: h) :: t
def lettersF (l : List Nat) : Option Nat := match splitC 32 l with
  | [a, b] => if S a = "letters" then (digitF (S b) 1 3).map Int.toNat else none
  | _ => none
def nameF (ws : List Str) (l : List Nat) : Option (Str × Nat × Nat) := match splitC 32 l with
  | [a, b, c, d, e] => if S a = "name" ∧ S d = "from" ∧ isWordF (S b) = true ∧ S b ∉ ws then (match digitF (S c) 2 3 with
      | none => none
      | some v => (digitF (S e) 0 (v - 1)).map fun f => (S b, v.toNat, f.toNat))
    else none
  | _ => none
def rising : List Nat → Bool
  | [] => true
  | [_] => true
  | a :: b :: r => decide (a < b) && rising (b :: r)
def toldF (ws : List Str) (l : List Nat) : Option (List Nat) := match splitC 32 l with
  | [] => none
  | a :: r => if S a = "tells" ∧ r ≠ [] ∧ (∀ x ∈ r, S x ∈ ws) ∧ rising (r.map fun x => ws.idxOf (S x)) = true then some (r.map fun x => ws.idxOf (S x)) else none
abbrev nameP (l : List Nat) : Bool := l.take 5 == [110, 97, 109, 101, 32]
def eqsF (ws : List Str) : Nat → List (List Nat) → List (Tm × Tm) → Nat ⊕ List (Tm × Tm)
  | _, [], es => .inr es
  | k, l :: r, es => match eqF ws l with
    | none => .inl k
    | some e => if es.length = 6 then .inl k else eqsF ws (k + 1) r (es ++ [e])
def restOfF (letters : Nat) : Nat → List (List Nat) → List Str → List (Nat × Nat) → Nat ⊕ (Mill × List Str)
  | k, [], _, _ => .inl k
  | k, l :: r, ws, ns => if nameP l then (match nameF ws l with
      | none => .inl k
      | some (w, v, f) => if ws.length = 3 then .inl k else restOfF letters (k + 1) r (ws ++ [w]) (ns ++ [(v, f)]))
    else if ws = [] then .inl k else match toldF ws l with
      | none => .inl k
      | some told => match eqsF ws (k + 1) r [] with
        | .inl j => .inl j
        | .inr es => .inr (⟨letters, ns, told, es⟩, ws)
def readF (l : List Nat) : Nat ⊕ (Mill × List Str) :=
  if l = [] then .inl 0 else if (splitC 10 l).getLast? ≠ some [] then .inl ((splitC 10 l).length - 1) else match (splitC 10 l).dropLast with
    | [] => .inl 0
    | h :: r => match lettersF h with
      | none => .inl 0
      | some k => restOfF k 1 r [] []
/-- what a reader hands back -/
def Mill.d (m : Mill) : D := .tup [.int m.letters, .tup (m.names.map fun n => .tup [.int n.1, .int n.2]), .tup (m.told.map fun (i : Nat) => .int i), .tup (m.eqs.map fun e => .tup [e.1.d, e.2.d])]
def wordsD (ws : List Str) : D := .tup (ws.map .str)
def resD : Nat ⊕ (Mill × List Str) → D
  | .inl k => .int k
  | .inr (m, ws) => .tup [m.d, wordsD ws]
end ML
set_option maxHeartbeats 4000000
namespace ML
open PySem PySem.Spec PyProof.Rows L2 TL
/-- the builtins and the constants that the text uses by name -/
structure Bl (mg : Str → Option Value) : Prop where
  len : mg "len" = none
  isinstance : mg "isinstance" = none
  int : mg "int" = none
  bool : mg "bool" = none
  str : mg "str" = none
  tuple : mg "tuple" = none
  list : mg "list" = none
  all : mg "all" = none
  zip : mg "zip" = none
  set : mg "set" = none
  range : mg "range" = none
  max : mg "max" = none
  sorted : mg "sorted" = none
  abs : mg "abs" = none
theorem line100 {n : Nat} (h : n ≤ 1000000) : n ≤ sizeLine := Nat.le_trans h (by decide)
theorem one_of {z : Str} (h : z.length = 1) : ∃ c, z = ⟨#[c]⟩ := by
  rw [len_tl] at h
  obtain ⟨c, e⟩ := List.length_eq_one_iff.mp h
  exact ⟨c, by rw [← S_tl z, e]⟩
theorem fig_mem {c : Nat} : decide (c ∈ (Str.ofString "0123456789").cps.toList) = fig c := by
  have e : (Str.ofString "0123456789").cps.toList = [48, 49, 50, 51, 52, 53, 54, 55, 56, 57] := by decide +kernel
  rw [e, Bool.eq_iff_iff]
  simp [fig]
  omega
theorem int_of_fig {c : Nat} (h : fig c = true) : PySem.intText? ⟨#[c]⟩ = some ((c : Int) - 48) := by
  simp only [fig, Bool.and_eq_true, decide_eq_true_eq] at h
  obtain ⟨h1, h2⟩ := h
  have : c = 48 ∨ c = 49 ∨ c = 50 ∨ c = 51 ∨ c = 52 ∨ c = 53 ∨ c = 54 ∨ c = 55 ∨ c = 56 ∨ c = 57 := by omega
  rcases this with rfl | rfl | rfl | rfl | rfl | rfl | rfl | rfl | rfl | rfl <;> decide +kernel
theorem iteD {p A B : Prop} [Decidable p] (h1 : p → A) (h2 : ¬ p → B) : if decide p = true then A else B := by
  by_cases h : p
  · rw [if_pos (decide_eq_true h)]
    exact h1 h
  · rw [if_neg (by simp [h])]
    exact h2 h
theorem iteND {p A B : Prop} [Decidable p] (h1 : p → B) (h2 : ¬ p → A) : if (!decide p) = true then A else B := by
  by_cases h : p
  · rw [if_neg (by simp [h])]
    exact h1 h
  · rw [if_pos (by simp [h])]
    exact h2 h
/-- a number, or None -/
def optV : Option Int → V
  | some n => .int n
  | none => .non
def spDigit : Sp := fun vs H Q _ => ∃ (z : Str) (lo hi : Int), vs = [.str z, .int lo, .int hi] ∧ z.length ≤ 1000000 ∧ Q (optV (digitF z lo hi)) H
section
variable {P : Program} {w : World} {K : PySem.W.Frag} {mg : Str → Option Value} {base : Heap} {f c : Addr} {fd : FuncData}
/-- what digit's line reads -/
def tDig : TE := tIf (tAnd (tTest (tOp rEq (tCB (fun xs H Q => ∃ z, xs = [V.str z] ∧ z.length ≤ sizeLine ∧ Q (V.int z.length) H) (tCons (tVar 0) tNil)) (tC (V.int 1))))
  (tAnd (tTest (tOp (fun x y H Q => ∃ c z, x = V.str { cps := #[c] } ∧ y = V.str z ∧ Q (V.bl (decide (c ∈ z.cps.toList))) H) (tVar 0) (tC (V.str (Str.ofString "0123456789")))))
    (tTest (tChain (rI0 fun i j => V.bl (decide (i ≤ j))) (rI0 fun i j => V.bl (decide (i ≤ j))) (tVar 1) (tCB (fun xs H Q => ∃ a n, xs = [V.str a] ∧ intText? a = some n ∧ a.length ≤ 640 ∧ Q (V.int n) H) (tCons (tVar 0) tNil)) (tVar 2)))))
  (tCB (fun xs H Q => ∃ a n, xs = [V.str a] ∧ intText? a = some n ∧ a.length ≤ 640 ∧ Q (V.int n) H) (tCons (tVar 0) tNil)) (tC .non)
theorem rd_digit {z : Str} {lo hi : Int} {H : Hp} {Q : VK} (hz : z.length ≤ 1000000) (q : Q (optV (digitF z lo hi)) H) : tDig [some (V.str z), some (V.int lo), some (V.int hi)] H Q := by
  refine ⟨_, rfl, z, rfl, line100 hz, rfl, _, rfl, ?_⟩
  refine iteD (fun c1 => ?_) (fun c1 => ?_)
  · have h1 : z.length = 1 := by
      injection c1 with e
      omega
    obtain ⟨c, rfl⟩ := one_of h1
    refine ⟨_, rfl, c, _, rfl, rfl, _, rfl, ?_⟩
    refine iteD (fun c2 => ?_) (fun c2 => ?_)
    · have c2 : fig c = true := by rw [← fig_mem]; exact decide_eq_true c2
      refine ⟨_, rfl, _, rfl, _, _, rfl, int_of_fig c2, (by show 1 ≤ 640; decide), _, _, rfl, rfl, _, rfl, ?_⟩
      refine iteD (fun c3 => ?_) (fun c3 => ?_)
      · refine ⟨_, rfl, _, _, rfl, rfl, _, rfl, ?_⟩
        refine iteD (fun c4 => ?_) (fun c4 => ?_)
        · refine ⟨_, rfl, _, _, rfl, int_of_fig c2, (by show 1 ≤ 640; decide), ?_⟩
          have e : digitF ⟨#[c]⟩ lo hi = some ((c : Int) - 48) := if_pos ⟨c2, c3, c4⟩
          rw [e] at q
          exact q
        · have e : digitF ⟨#[c]⟩ lo hi = none := if_neg fun z => c4 z.2.2
          rw [e] at q
          exact q
      · have e : digitF ⟨#[c]⟩ lo hi = none := if_neg fun z => c3 z.2.1
        rw [e] at q
        exact ⟨_, rfl, q⟩
    · have e : digitF ⟨#[c]⟩ lo hi = none := if_neg fun z => c2 (by
        have z1 := z.1
        rw [← fig_mem] at z1
        exact of_decide_eq_true z1)
      rw [e] at q
      exact q
  · have e : digitF z lo hi = none := by
      unfold digitF
      split
      · rename_i c e
        rw [len_tl, e] at c1
        exact absurd rfl c1
      · rfl
    rw [e] at q
    exact q

theorem ok_digit (F : FunC K "digit" "digit" sDigit f fd c) (T : Bl mg) : FnOk P w K mg base CX0 1 f fd pDigit spDigit := by
  refine F.ok scDigit (fun vs H Q E h => ?_) (fun A outer s H vs Q E hr h => ?_)
  · obtain ⟨z, lo, hi, rfl, _⟩ := h
    rfl
  obtain ⟨z, lo, hi, rfl, hz, q⟩ := h
  refine ⟨_, pss_one (ps_ret (pe_ifExp (PW.pt (pw_and (pt_cmpR op_eq (pe_callB call_len_str (by rfl) T.len PySem.boot_len (pa_cons (pv 0) pa_nil)) pe_int (nomark _))
    (pw_and (pt_cmpR op_in_sign (pv 0) pe_str (by rfl)) (pw_and1 (pt_chain op_le op_le (pv 1) (pe_callTy call_int_str (by rfl) T.int (by decide +kernel) (pa_cons (pv 0) pa_nil)) (pv 2))))))
    (pe_callTy call_int_str (by rfl) T.int (by decide +kernel) (pa_cons (pv 0) pa_nil)) pe_non)), ?_⟩
  exact rd_digit hz q
end
end ML
set_option maxHeartbeats 4000000
namespace ML
open PySem PySem.Spec PyProof.Rows L2 TL Gn
/-! ### isinstance -/
inductive Ty (H : Hp) : V → String → Prop where
  | non : Ty H .non "NoneType"
  | bl (b : Bool) : Ty H (.bl b) "bool"
  | int (i : Int) : Ty H (.int i) "int"
  | str (z : Str) : Ty H (.str z) "str"
  | tup {a : Addr} {xs : List V} (e : H a = some (.tup xs)) : Ty H (.ref a) "tuple"
  | lst {a : Addr} {xs : List V} (e : H a = some (.lst xs)) : Ty H (.ref a) "list"
theorem Ty.x {K : PySem.W.Frag} {H : Hp} {v : V} {n : String} (t : Ty H v n) : TyX K H v (.type n) := by
  cases t with
  | non => exact .base .non
  | bl b => exact .base (.bl b)
  | int i => exact .base (.int i)
  | str z => exact .base (.str z)
  | tup e => exact .base (.tup e)
  | lst e => exact .base (.lst e)
theorem Ty.upd {H : Hp} {v : V} {n : String} {p : Addr} {o : HO} (t : Ty H v n) (h : H p = none) : Ty (L2.upd H p o) v n := by
  cases t with
  | non => exact .non
  | bl b => exact .bl b
  | int i => exact .int i
  | str z => exact .str z
  | tup e => exact .tup (by rw [upd_ne (ne_of_none e h)]; exact e)
  | lst e => exact .lst (by rw [upd_ne (ne_of_none e h)]; exact e)
def rIsY : List V → Hp → VK → Prop := fun xs H Q => ∃ v n m b, xs = [v, .ty n] ∧ Ty H v m ∧ kitB m n = some b ∧ Q (.bl b) H
def rIsY2 : List V → Hp → VK → Prop := fun xs H Q => ∃ v tp n1 n2 m b1 b2, xs = [v, .ref tp] ∧ H tp = some (.tup [.ty n1, .ty n2]) ∧ Ty H v m ∧ kitB m n1 = some b1 ∧ kitB m n2 = some b2 ∧ Q (.bl (b1 || b2)) H
theorem kb {m n : String} {b : Bool} (h : kitB m n = some b := by decide +kernel) : kitB m n = some b := h
section
variable {X : Cx}
theorem call_isY : CallR X (.builtin "isinstance") rIsY := fun pins s σ H xs us Q I r h => by
  obtain ⟨v, n, m, b, rfl, t, hb, q⟩ := h
  exact call_isi pins s σ H _ us Q I r ⟨v, .ty n, .type m, .type n, b, rfl, .ty n, t.x, kit_ty hb, q⟩
theorem call_isY2 : CallR X (.builtin "isinstance") rIsY2 := fun pins s σ H xs us Q I r h => by
  obtain ⟨v, tp, n1, n2, m, b1, b2, rfl, e, t, h1, h2, q⟩ := h
  refine call_isiT pins s σ H _ us Q I r ⟨v, tp, _, .type m, [.type n1, .type n2], b1 || b2, rfl, e, .cons (.ty n1) (.cons (.ty n2) .nil), t.x, kitAny_cons (kit_ty h1) (fun e1 => ?_) (fun e1 => by rw [e1]; rfl), q⟩
  refine kitAny_cons (kit_ty h2) (fun e2 => ?_) (fun e2 => by rw [e2]; cases b1 <;> rfl)
  rw [e1, e2]
  exact kitAny_nil
end
/-! ### all(..) over what is walked -/
section
variable {K : PySem.W.Frag} {P : Addr} {σ : L2.St} {H1 : Hp} {Q : VK} {te : TE} {vs : List Nat}
theorem allG_tup {j : Nat} {a : Addr} {xs : List V} (Pv : Nat → Hp → Prop) (hT : GxR.TabG H1 P) (h0 : ∀ H2, GxR.Tabbed P H1 H2 → Pv 0 H2) (hl : ∀ i H, i ≤ xs.length → Pv i H → SqT K H a xs)
    (hw : ∀ x, wipe ((wipe σ vs).set j (some x)) vs = wipe σ vs)
    (hs : ∀ i x H, xs[i]? = some x → Pv i H → te ((wipe σ vs).set j (some x)) H fun y H4 => ∃ b, y = .bl b ∧ if b = true then Pv (i + 1) H4 else Q (.bl false) H4) (hd : ∀ H, Pv xs.length H → Q (.bl true) H) :
    GxR.TabG H1 P ∧ ∀ H2, GxR.Tabbed P H1 H2 → ∃ W : Nat → Nat → Hp → Prop, (∃ m, W 0 m H2) ∧ ∀ i m H, W i m H →
      ((Itt K a).stop i H ∧ Q (.bl true) H) ∨ ((Itt K a).go i H ∧ ∃ Nx : Hp → Prop, (∀ H', Nx H' → ∃ m', m' < m ∧ W (i + 1) m' H') ∧ ∀ x H', (Itt K a).yld i H x H' → gName j x (wipe σ vs) H' fun σ2 H3 => wipe σ2 vs = wipe σ vs ∧ te σ2 H3 fun y H4 =>
        ∃ b, y = .bl b ∧ if b = true then Nx H4 else Q (.bl false) H4) := by
  refine ⟨hT, fun H2 ht => ⟨fun i m H => m = xs.length - i ∧ i ≤ xs.length ∧ Pv i H, ⟨xs.length, by simp, Nat.zero_le _, h0 H2 ht⟩, ?_⟩⟩
  rintro i m H ⟨rfl, hi, p⟩
  have q := hl i H hi p
  by_cases hlt : i < xs.length
  · refine .inr ⟨⟨xs, xs[i], q, by simp [hlt]⟩, Pv (i + 1), fun H' p' => ⟨xs.length - (i + 1), by omega, rfl, hlt, p'⟩, fun x H' y => ?_⟩
    obtain ⟨e, y⟩ := y
    subst e
    exact ⟨hw x, hs i x _ (y xs q) p⟩
  · have e : i = xs.length := by omega
    subst e
    exact .inl ⟨⟨xs, q, Nat.le_refl _⟩, hd H p⟩
theorem allG_lst {j : Nat} {a : Addr} {xs : List V} (Pv : Nat → Hp → Prop) (hT : GxR.TabG H1 P) (h0 : ∀ H2, GxR.Tabbed P H1 H2 → Pv 0 H2) (hl : ∀ i H, i ≤ xs.length → Pv i H → SqL K H a xs)
    (hw : ∀ x, wipe ((wipe σ vs).set j (some x)) vs = wipe σ vs)
    (hs : ∀ i x H, xs[i]? = some x → Pv i H → te ((wipe σ vs).set j (some x)) H fun y H4 => ∃ b, y = .bl b ∧ if b = true then Pv (i + 1) H4 else Q (.bl false) H4) (hd : ∀ H, Pv xs.length H → Q (.bl true) H) :
    GxR.TabG H1 P ∧ ∀ H2, GxR.Tabbed P H1 H2 → ∃ W : Nat → Nat → Hp → Prop, (∃ m, W 0 m H2) ∧ ∀ i m H, W i m H →
      ((Itl K a).stop i H ∧ Q (.bl true) H) ∨ ((Itl K a).go i H ∧ ∃ Nx : Hp → Prop, (∀ H', Nx H' → ∃ m', m' < m ∧ W (i + 1) m' H') ∧ ∀ x H', (Itl K a).yld i H x H' → gName j x (wipe σ vs) H' fun σ2 H3 => wipe σ2 vs = wipe σ vs ∧ te σ2 H3 fun y H4 =>
        ∃ b, y = .bl b ∧ if b = true then Nx H4 else Q (.bl false) H4) := by
  refine ⟨hT, fun H2 ht => ⟨fun i m H => m = xs.length - i ∧ i ≤ xs.length ∧ Pv i H, ⟨xs.length, by simp, Nat.zero_le _, h0 H2 ht⟩, ?_⟩⟩
  rintro i m H ⟨rfl, hi, p⟩
  have q := hl i H hi p
  by_cases hlt : i < xs.length
  · refine .inr ⟨⟨xs, xs[i], q, by simp [hlt]⟩, Pv (i + 1), fun H' p' => ⟨xs.length - (i + 1), by omega, rfl, hlt, p'⟩, fun x H' y => ?_⟩
    obtain ⟨e, y⟩ := y
    subst e
    exact ⟨hw x, hs i x _ (y xs q) p⟩
  · have e : i = xs.length := by omega
    subst e
    exact .inl ⟨⟨xs, q, Nat.le_refl _⟩, hd H p⟩
theorem allG_str {j : Nat} {z : Str} (Pv : Nat → Hp → Prop) (hT : GxR.TabG H1 P) (h0 : ∀ H2, GxR.Tabbed P H1 H2 → Pv 0 H2)
    (hw : ∀ x, wipe ((wipe σ vs).set j (some x)) vs = wipe σ vs)
    (hs : ∀ i c H, (tl z)[i]? = some c → Pv i H → te ((wipe σ vs).set j (some (.str ⟨#[c]⟩))) H fun y H4 => ∃ b, y = .bl b ∧ if b = true then Pv (i + 1) H4 else Q (.bl false) H4) (hd : ∀ H, Pv (tl z).length H → Q (.bl true) H) :
    GxR.TabG H1 P ∧ ∀ H2, GxR.Tabbed P H1 H2 → ∃ W : Nat → Nat → Hp → Prop, (∃ m, W 0 m H2) ∧ ∀ i m H, W i m H →
      ((Its z).stop i H ∧ Q (.bl true) H) ∨ ((Its z).go i H ∧ ∃ Nx : Hp → Prop, (∀ H', Nx H' → ∃ m', m' < m ∧ W (i + 1) m' H') ∧ ∀ x H', (Its z).yld i H x H' → gName j x (wipe σ vs) H' fun σ2 H3 => wipe σ2 vs = wipe σ vs ∧ te σ2 H3 fun y H4 =>
        ∃ b, y = .bl b ∧ if b = true then Nx H4 else Q (.bl false) H4) := by
  have ez : z.cps.size = (tl z).length := by simp [tl]
  refine ⟨hT, fun H2 ht => ⟨fun i m H => m = (tl z).length - i ∧ i ≤ (tl z).length ∧ Pv i H, ⟨(tl z).length, by simp, Nat.zero_le _, h0 H2 ht⟩, ?_⟩⟩
  rintro i m H ⟨rfl, hi, p⟩
  by_cases hlt : i < (tl z).length
  · refine .inr ⟨(by show i < z.cps.size; rw [ez]; exact hlt), Pv (i + 1), fun H' p' => ⟨(tl z).length - (i + 1), by omega, rfl, hlt, p'⟩, fun x H' y => ?_⟩
    obtain ⟨e, c, hc, ex⟩ := y
    subst e ex
    exact ⟨hw _, hs i c _ (by rw [← hc]; simp [tl]) p⟩
  · have e : i = (tl z).length := by omega
    subst e
    exact .inl ⟨(by show z.cps.size ≤ _; rw [ez]; exact Nat.le_refl _), hd H p⟩
/-- over zip(a, b) of two tuples, the target two names -/
theorem allG_zipT {j l : Nat} {a b : Addr} {xs ys : List V} (Pv : Nat → Hp → Prop) (hT : GxR.TabG H1 P) (h0 : ∀ H2, GxR.Tabbed P H1 H2 → Pv 0 H2) (hl : ∀ i H, i ≤ ys.length → Pv i H → SqT K H a xs ∧ SqT K H b ys) (hxy : ys.length ≤ xs.length)
    (hw : ∀ x y, wipe (((wipe σ vs).set j (some x)).set l (some y)) vs = wipe σ vs) (hn : ∀ i H T o, Pv i H → H T = none → Pv i (upd H T o))
    (hs : ∀ i x y H, xs[i]? = some x → ys[i]? = some y → Pv i H → te (((wipe σ vs).set j (some x)).set l (some y)) H fun y H4 => ∃ b, y = .bl b ∧ if b = true then Pv (i + 1) H4 else Q (.bl false) H4) (hd : ∀ H, Pv ys.length H → Q (.bl true) H) :
    GxR.TabG H1 P ∧ ∀ H2, GxR.Tabbed P H1 H2 → ∃ W : Nat → Nat → Hp → Prop, (∃ m, W 0 m H2) ∧ ∀ i m H, W i m H →
      ((RZ.ItzT K a b).stop i H ∧ Q (.bl true) H) ∨ ((RZ.ItzT K a b).go i H ∧ ∃ Nx : Hp → Prop, (∀ H', Nx H' → ∃ m', m' < m ∧ W (i + 1) m' H') ∧ ∀ x H', (RZ.ItzT K a b).yld i H x H' →
        gTup K 2 (gCons (gName j) (gCons (gName l) gNil)) x (wipe σ vs) H' fun σ2 H3 => wipe σ2 vs = wipe σ vs ∧ te σ2 H3 fun y H4 => ∃ b, y = .bl b ∧ if b = true then Nx H4 else Q (.bl false) H4) := by
  refine ⟨hT, fun H2 ht => ⟨fun i m H => m = ys.length - i ∧ i ≤ ys.length ∧ Pv i H, ⟨ys.length, by simp, Nat.zero_le _, h0 H2 ht⟩, ?_⟩⟩
  rintro i m H ⟨rfl, hi, p⟩
  obtain ⟨q1, q2⟩ := hl i H hi p
  by_cases hlt : i < ys.length
  · have hlx : i < xs.length := Nat.lt_of_lt_of_le hlt hxy
    refine .inr ⟨⟨xs, ys, xs[i], ys[i], q1, q2, by simp [hlx], by simp [hlt]⟩, Pv (i + 1), fun H' p' => ⟨ys.length - (i + 1), by omega, rfl, hlt, p'⟩, fun v H' y => ?_⟩
    obtain ⟨T, x, y, rfl, hTn, rfl, hx, hy⟩ := y
    refine ⟨T, _, rfl, SqT.of upd_same, rfl, x, _, rfl, y, _, rfl, rfl, hw x y, hs i x y _ (hx xs q1) (hy ys q2) (hn i H T _ p hTn)⟩
  · have e : i = ys.length := by omega
    subst e
    exact .inl ⟨⟨xs, ys, q1, q2, .inr (Nat.le_refl _)⟩, hd H p⟩
end
end ML
set_option maxHeartbeats 4000000
namespace ML
open PySem PySem.Spec PyProof.Rows L2 TL Gn
/-- the module's constants -/
structure Gc (K : PySem.W.Frag) (mg : Str → Option Value) : Prop where
  small : ∃ t, mg "SMALL" = some (.str "abcdefghijklmnopqrstuvwxyz" t)
  kept : ∃ a, mg "KEPT" = some (.ref a) ∧ ∀ H, SqT K H a [.str "in", .str "pick", .str "rest"]
  signs : ∃ a, mg "SIGNS" = some (.ref a) ∧ ∀ H, SqT K H a [.str "==", .str "<", .str "+", .str "*", .str "(", .str ")", .str ",", .str "@+", .str "@-", .str "="]
  pairs : ∃ a, mg "PAIRS" = some (.ref a) ∧ ∀ H, SqT K H a [.str "plus", .str "times", .str "same", .str "less"]
  mostLetters : ∃ t, mg "MOST_LETTERS" = some (.int 3 t)
  mostNames : ∃ t, mg "MOST_NAMES" = some (.int 3 t)
  leastValues : ∃ t, mg "LEAST_VALUES" = some (.int 2 t)
  mostValues : ∃ t, mg "MOST_VALUES" = some (.int 3 t)
  mostEquations : ∃ t, mg "MOST_EQUATIONS" = some (.int 6 t)
  mostReach : ∃ t, mg "MOST_REACH" = some (.int 2 t)
  mostNumber : ∃ t, mg "MOST_NUMBER" = some (.int 9 t)
  mostDepth : ∃ t, mg "MOST_DEPTH" = some (.int 5 t)
  mostSigns : ∃ t, mg "MOST_SIGNS" = some (.int 200 t)
def spIsNumber : Sp := fun vs H Q _ => ∃ (i lo hi : Int), vs = [.int i, .int lo, .int hi] ∧ Q (.bl (decide (lo ≤ i ∧ i ≤ hi))) H
def spOff : Sp := fun vs H Q _ => ∃ o : Int, vs = [.int o] ∧ o.natAbs ≤ 100 ∧ Q (.str (offF o)) H
theorem log_small {i : Int} (h : i.natAbs ≤ 100) : i.natAbs.log2 < 1920 := by
  have : i.natAbs < 2 ^ 7 := by omega
  exact Nat.lt_of_lt_of_le (Nat.lt_of_le_of_lt (Nat.log2_le_self _) (by omega : i.natAbs < 101)) (by decide)
theorem len_num {i : Int} (h : 0 ≤ i) (h2 : i < 10000) : (Str.ofString (toString i)).length ≤ 4 := by
  obtain ⟨n, rfl⟩ : ∃ n : Nat, i = (n : Int) := ⟨i.toNat, by omega⟩
  rw [len_tl, tl_num]
  exact numL_len (by decide) (by omega)
section
variable {P : Program} {w : World} {K : PySem.W.Frag} {mg : Str → Option Value} {base : Heap} {f c : Addr} {fd : FuncData}
theorem ok_isNumber (F : FunC K "is_number" "is_number" sIsNumber f fd c) (T : Bl mg) : FnOk P w K mg base CX0 1 f fd pIsNumber spIsNumber := by
  refine F.ok scIsNumber (fun vs H Q E h => ?_) (fun A outer s H vs Q E hr h => ?_)
  · obtain ⟨z, lo, hi, rfl, _⟩ := h
    rfl
  obtain ⟨i, lo, hi, rfl, q⟩ := h
  refine ⟨_, pss_one (ps_ret (pe_and (pe_callB call_isY (by rfl) T.isinstance boot_isinstance (pa_cons (pv 0) (pa_cons (pe_bltn (v := .ty "int") (by rfl) T.int boot_int rfl) pa_nil)))
    (pe_and (pe_not (pe_callB call_isY (by rfl) T.isinstance boot_isinstance (pa_cons (pv 0) (pa_cons (pe_bltn (v := .ty "bool") (by rfl) T.bool boot_bool rfl) pa_nil))))
    (pe_one (pe_chain op_le op_le (pv 1) (pv 0) (pv 2)))))), ?_⟩
  refine ⟨_, rfl, _, _, _, true, rfl, .int _, kb, _, rfl, iteT ?_⟩
  refine ⟨_, rfl, _, _, _, false, rfl, .int _, kb, _, rfl, _, rfl, iteT ?_⟩
  refine ⟨_, rfl, _, rfl, _, _, rfl, rfl, _, rfl, ?_⟩
  refine iteD (fun c1 => ?_) (fun c1 => ?_)
  · refine ⟨_, rfl, _, _, rfl, rfl, ?_⟩
    rw [show decide (lo ≤ i ∧ i ≤ hi) = decide (i ≤ hi) by simp [c1]] at q
    exact q
  · rw [show decide (lo ≤ i ∧ i ≤ hi) = false by simp [c1]] at q
    exact q
theorem ok_off (F : FunC K "offset_text" "offset_text" sOffsetText f fd c) (T : Bl mg) : FnOk P w K mg base CX0 1 f fd pOffsetText spOff := by
  refine F.ok scOffsetText (fun vs H Q E h => ?_) (fun A outer s H vs Q E hr h => ?_)
  · obtain ⟨o, rfl, _⟩ := h
    rfl
  obtain ⟨o, rfl, ho, q⟩ := h
  refine ⟨_, pss_cons (ps_if (pt_cmpR op_eq (pv 0) pe_int (nomark _)) (pss_one (ps_ret pe_str)) pss_nil)
    (pss_one (ps_ret (pe_op op_add_str (pe_ifExp (pt_cmpR op_gt (pv 0) pe_int (nomark _)) pe_str pe_str)
      (pe_callTy call_str_int (by rfl) T.str boot_str (pa_cons (pe_callB call_abs (by rfl) T.abs boot_abs (pa_cons (pv 0) pa_nil)) pa_nil))))), ?_⟩
  refine ⟨_, rfl, rfl, _, rfl, ?_⟩
  refine iteD (fun c1 => ?_) (fun c1 => ?_)
  · have e : o = 0 := by injection c1
    rw [show offF o = Str.ofString "" from if_pos e] at q
    exact q
  · have e : o ≠ 0 := fun z => c1 (by rw [z])
    have el : (Str.ofString (toString (if o < 0 then -o else o))).length ≤ 4 := len_num (by split <;> omega) (by split <;> omega)
    rw [show offF o = _ from if_neg e] at q
    refine ⟨_, rfl, _, _, rfl, rfl, _, rfl, ?_⟩
    refine iteD (fun c2 => ?_) (fun c2 => ?_)
    · rw [if_pos c2] at q
      exact ⟨_, rfl, _, rfl, _, rfl, log_small (by split <;> omega), _, _, rfl, rfl, line100 (Nat.le_trans (Nat.add_le_add (Nat.le_refl _) el) (by decide)), q⟩
    · rw [if_neg c2] at q
      exact ⟨_, rfl, _, rfl, _, rfl, log_small (by split <;> omega), _, _, rfl, rfl, line100 (Nat.le_trans (Nat.add_le_add (Nat.le_refl _) el) (by decide)), q⟩
theorem ok_loff (F : FunC K "_law_offset_text" "_law_offset_text" sLOffsetText f fd c) (T : Bl mg) : FnOk P w K mg base CX0 1 f fd pLOffsetText spOff := by
  refine F.ok scLOffsetText (fun vs H Q E h => ?_) (fun A outer s H vs Q E hr h => ?_)
  · obtain ⟨o, rfl, _⟩ := h
    rfl
  obtain ⟨o, rfl, ho, q⟩ := h
  refine ⟨_, pss_one (ps_ret (pe_ifExp (pt_cmpR op_eq (pv 0) pe_int (nomark _)) pe_str (pe_ifExp (pt_cmpR op_gt (pv 0) pe_int (nomark _))
    (pe_op op_add_str pe_str (pe_callTy call_str_int (by rfl) T.str boot_str (pa_cons (pv 0) pa_nil)))
    (pe_op op_add_str pe_str (pe_callTy call_str_int (by rfl) T.str boot_str (pa_cons (pe_op op_sub pe_int (pv 0)) pa_nil)))))), ?_⟩
  refine ⟨_, rfl, rfl, _, rfl, ?_⟩
  refine iteD (fun c1 => ?_) (fun c1 => ?_)
  · have e : o = 0 := by injection c1
    rw [show offF o = Str.ofString "" from if_pos e] at q
    exact q
  · have e : o ≠ 0 := fun z => c1 (by rw [z])
    rw [show offF o = _ from if_neg e] at q
    refine ⟨_, rfl, _, _, rfl, rfl, _, rfl, ?_⟩
    refine iteD (fun c2 => ?_) (fun c2 => ?_)
    · rw [if_pos c2, if_neg (by omega)] at q
      have el : (Str.ofString (toString o)).length ≤ 4 := len_num (by omega) (by omega)
      exact ⟨_, rfl, _, rfl, log_small ho, _, _, rfl, rfl, line100 (Nat.le_trans (Nat.add_le_add (Nat.le_refl _) el) (by decide)), q⟩
    · rw [if_neg c2, if_pos (by omega)] at q
      have el : (Str.ofString (toString (0 - o))).length ≤ 4 := len_num (by omega) (by omega)
      have e0 : -o = 0 - o := by omega
      rw [e0] at q
      exact ⟨_, rfl, _, _, rfl, rfl, _, rfl, log_small (by omega), _, _, rfl, rfl, line100 (Nat.le_trans (Nat.add_le_add (Nat.le_refl _) el) (by decide)), q⟩
end
end ML
set_option maxHeartbeats 4000000
namespace ML
open PySem PySem.Spec PyProof.Rows L2 TL Gn
/-! ### lists of texts compared -/
theorem dps_strs {K : PySem.W.Frag} {H : Hp} : ∀ zs : List Str, DpAll K H (zs.map V.str) (zs.map PyData.str)
  | [] => .nil
  | z :: r => .cons (.str z) (dps_strs r)
theorem dp_strs {K : PySem.W.Frag} {H : Hp} {a : Addr} {zs : List Str} (h : H a = some (.lst (zs.map V.str))) : Dp K H (.ref a) (.list (zs.map PyData.str)) := .lst (SqL.of h) (dps_strs zs)
theorem eqv_strs : ∀ zs ys : List Str, PyData.eqvAll (zs.map PyData.str) (ys.map PyData.str) = decide (zs = ys)
  | [], [] => by simp [PyData.eqvAll]
  | [], _ :: _ => by simp [PyData.eqvAll]
  | _ :: _, [] => by simp [PyData.eqvAll]
  | z :: r, y :: s => by
    have ih := eqv_strs r s
    simp only [List.map_cons, PyData.eqvAll, PyData.eqv, ih, List.cons.injEq]
    rw [Bool.eq_iff_iff]
    simp
theorem depth_strs : ∀ zs : List Str, PyData.depthAll (zs.map PyData.str) = 0
  | [] => rfl
  | z :: r => by
    show max 0 (PyData.depthAll (r.map PyData.str)) = 0
    rw [depth_strs r]
    rfl
def okS (z : Str) : Prop := PyData.strOk z = true
theorem lay_strs : ∀ zs : List Str, (∀ z ∈ zs, okS z) → PyData.canLayAll0 (zs.map PyData.str) = true
  | [], _ => by simp [PyData.canLayAll0]
  | z :: r, h => by
    have h1 : PyData.strOk z = true := h z List.mem_cons_self
    simp [PyData.canLayAll0, PyData.canLay0, h1, lay_strs r fun z hz => h z (List.mem_cons_of_mem _ hz)]
theorem shaped_strs (zs : List Str) (h : ∀ z ∈ zs, okS z) : SeqAt.shaped (.list (zs.map PyData.str)) = true := by
  unfold SeqAt.shaped
  rw [Bool.and_eq_true]
  refine ⟨?_, ?_⟩
  · simp only [PyData.canLay0, lay_strs zs h]
  · rw [decide_eq_true_eq]
    show PyData.depthAll (zs.map PyData.str) + 1 ≤ 64
    rw [depth_strs]
    decide
def rEqL : R2 := fun x y H Q => ∃ (p q : Addr) (zs ys : List Str), x = .ref p ∧ y = .ref q ∧ H p = some (.lst (zs.map V.str)) ∧ H q = some (.lst (ys.map V.str)) ∧ (∀ z ∈ zs, okS z) ∧ (∀ z ∈ ys, okS z) ∧ Q (.bl (decide (zs = ys))) H
def rNeL : R2 := fun x y H Q => ∃ (p q : Addr) (zs ys : List Str), x = .ref p ∧ y = .ref q ∧ H p = some (.lst (zs.map V.str)) ∧ H q = some (.lst (ys.map V.str)) ∧ (∀ z ∈ zs, okS z) ∧ (∀ z ∈ ys, okS z) ∧ Q (.bl (!decide (zs = ys))) H
section
variable {X : Cx}
theorem op_eqL (hu : X.A.units + 64 < cLine) : OpR X (compareOp .Eq) rEqL := fun pins s σ H x y v u Q I rx ry h => by
  obtain ⟨p, q, zs, ys, rfl, rfl, e1, e2, k1, k2, hq⟩ := h
  refine op_eqD hu pins s σ H _ _ v u Q I rx ry ⟨_, _, dp_strs e1, dp_strs e2, shaped_strs _ k1, shaped_strs _ k2, ?_⟩
  show Q (.bl (PyData.eqvAll (zs.map PyData.str) (ys.map PyData.str))) H
  rw [eqv_strs]
  exact hq
theorem op_neL (hu : X.A.units + 64 < cLine) : OpR X (compareOp .NotEq) rNeL := fun pins s σ H x y v u Q I rx ry h => by
  obtain ⟨p, q, zs, ys, rfl, rfl, e1, e2, k1, k2, hq⟩ := h
  refine op_neD hu pins s σ H _ _ v u Q I rx ry ⟨_, _, dp_strs e1, dp_strs e2, shaped_strs _ k1, shaped_strs _ k2, ?_⟩
  show Q (.bl (!PyData.eqvAll (zs.map PyData.str) (ys.map PyData.str))) H
  rw [eqv_strs]
  exact hq
end
theorem okS_mk {c : Nat} (h : c < 0x110000) : okS ⟨#[c]⟩ := by simp [okS, PyData.strOk, h]
theorem okS_iff {z : Str} : okS z ↔ ∀ c ∈ tl z, c < 0x110000 := by
  unfold okS PyData.strOk
  rw [Array.all_eq_true_iff_forall_mem]
  simp [tl]
/-! ### a comprehension over a text's signs -/
section
theorem lc_str {z : Str} {g : TG} {tt : TT} {te : TE} {vs : List Nat} {σ : L2.St} {H1 : Hp} {D : Addr} {Qd : Hp → Prop} (Pv : Nat → Hp → Prop) (h0 : Pv 0 (upd H1 D (.lst [])))
    (hs : ∀ i c H, (tl z)[i]? = some c → Pv i H → g (.str ⟨#[c]⟩) (wipe σ vs) H fun σ2 H2 => wipe σ2 vs = wipe σ vs ∧ tt σ2 H2 fun b H3 =>
      if b = true then te σ2 H3 fun y H4 => ∃ acc, H4 D = some (.lst acc) ∧ acc.length < sizeLine ∧ Pv (i + 1) (upd H4 D (.lst (acc ++ [y]))) else Pv (i + 1) H3) (hd : ∀ H, Pv (tl z).length H → Qd H) :
    ∃ W : Nat → Nat → Hp → Prop, (∃ m, W 0 m (upd H1 D (.lst []))) ∧ ∀ i m H, W i m H →
      ((Its z).stop i H ∧ Qd H) ∨ ((Its z).go i H ∧ ∃ Nx : Hp → Prop, (∀ H', Nx H' → ∃ m', m' < m ∧ W (i + 1) m' H') ∧ ∀ x H', (Its z).yld i H x H' → g x (wipe σ vs) H' fun σ2 H2 => wipe σ2 vs = wipe σ vs ∧ tt σ2 H2 fun b H3 =>
        if b = true then te σ2 H3 fun y H4 => ∃ acc, H4 D = some (.lst acc) ∧ acc.length < sizeLine ∧ Nx (upd H4 D (.lst (acc ++ [y]))) else Nx H3) := by
  have ez : z.cps.size = (tl z).length := by simp [tl]
  refine ⟨fun i m H => m = (tl z).length - i ∧ i ≤ (tl z).length ∧ Pv i H, ⟨(tl z).length, by simp, Nat.zero_le _, h0⟩, ?_⟩
  rintro i m H ⟨rfl, hi, p⟩
  by_cases hlt : i < (tl z).length
  · refine .inr ⟨(by show i < z.cps.size; rw [ez]; exact hlt), Pv (i + 1), fun H' p' => ⟨(tl z).length - (i + 1), by omega, rfl, hlt, p'⟩, fun x H' y => ?_⟩
    obtain ⟨e, c, hc, ex⟩ := y
    subst e ex
    exact hs i c _ (by rw [← hc]; simp [tl]) p
  · have e : i = (tl z).length := by omega
    subst e
    exact .inl ⟨(by show z.cps.size ≤ _; rw [ez]; exact Nat.le_refl _), hd H p⟩
end
/-! ### words -/
theorem kept_in (z : Str) : inV (.str z) [.str "in", .str "pick", .str "rest"] = kept z := by
  simp only [inV, List.any_cons, List.any_nil, eqV, kept, Bool.or_false]
  have h : ∀ a : Str, (a == z) = decide (z = a) := fun a => by
    rw [Bool.eq_iff_iff, beq_iff_eq, decide_eq_true_iff]
    exact eq_comm
  rw [h, h, h]
theorem small_mem {c : Nat} : decide (c ∈ (Str.ofString "abcdefghijklmnopqrstuvwxyz").cps.toList) = small c := by
  have e : (Str.ofString "abcdefghijklmnopqrstuvwxyz").cps.toList = (List.range 26).map (97 + ·) := by decide +kernel
  rw [e, Bool.eq_iff_iff, decide_eq_true_iff, List.mem_map]
  unfold small
  rw [Bool.and_eq_true, decide_eq_true_iff, decide_eq_true_iff]
  constructor
  · rintro ⟨a, h1, rfl⟩
    have := List.mem_range.mp h1
    omega
  · intro h
    exact ⟨c - 97, List.mem_range.mpr (by omega), by omega⟩
theorem alnum_mem {c : Nat} : decide (c ∈ (Str.ofString "abcdefghijklmnopqrstuvwxyz" ++ Str.ofString "0123456789").cps.toList) = alnum c := by
  have e : (Str.ofString "abcdefghijklmnopqrstuvwxyz" ++ Str.ofString "0123456789").cps.toList = tl (Str.ofString "abcdefghijklmnopqrstuvwxyz") ++ tl (Str.ofString "0123456789") := tl_append _ _
  rw [e]
  unfold alnum
  rw [← small_mem, ← fig_mem, Bool.eq_iff_iff, decide_eq_true_iff, List.mem_append, Bool.or_eq_true, decide_eq_true_iff, decide_eq_true_iff]
theorem isWord_cons {z : Str} {c : Nat} {r : List Nat} (e : tl z = c :: r) : isWordF z = (decide (r.length + 1 ≤ 8) && (small c && (!kept z && (c :: r).all alnum))) := by
  unfold isWordF
  rw [e]
def spIsWord (GT : List Addr) : Sp := fun vs H Q _ => ∃ v : V, vs = [v] ∧ Tbs GT H ∧ ((∃ z, v = .str z ∧ z.length ≤ 1000000 ∧ ∀ H', Ext GT [] H H' → Q (.bl (isWordF z)) H') ∨ ((∃ i, v = .int i) ∧ Q (.bl false) H))
section
variable {P : Program} {w : World} {K : PySem.W.Frag} {mg : Str → Option Value} {base : Heap} {f c : Addr} {fd : FuncData} {GT : List Addr}
theorem ok_isWord {tp : Addr} (F : FunC K "is_word" "is_word" sIsWord f fd c) (T : Bl mg) (G : Gc K mg) (TB : LamX.TabB base mg c tp) (hP : tp ∈ GT) : FnOk P w K mg base CX0 2 f fd pIsWord (spIsWord GT) := by
  refine F.ok scIsWord (fun vs H Q E h => ?_) (fun A outer s H vs Q E hr h => ?_)
  · obtain ⟨v, rfl, _⟩ := h
    rfl
  obtain ⟨v, rfl, tt, h⟩ := h
  obtain ⟨t1, hsm⟩ := G.small
  obtain ⟨ak, hk, sk⟩ := G.kept
  refine ⟨_, pss_cons (ps_if (PW.pt (pw_or (pt_not (pt_val (pe_callB call_isY (by rfl) T.isinstance boot_isinstance (pa_cons (pv 0) (pa_cons (pe_bltn (v := .ty "str") (by rfl) T.str boot_str rfl) pa_nil)))))
    (pw_or (pt_not (pt_chain op_le op_le pe_int (pe_callB call_len_str (by rfl) T.len PySem.boot_len (pa_cons (pv 0) pa_nil)) pe_int))
    (pw_or (pt_cmpR op_notIn_sign (pe_item_str (pv 0) pe_int (fun _ _ => rfl)) (pe_glob (v := .str "abcdefghijklmnopqrstuvwxyz") (by rfl) hsm ⟨_, rfl⟩) (by rfl))
    (pw_or1 (pt_cmpR op_in_seq (pv 0) (pe_glob (v := .ref ak) (by rfl) hk rfl) (by rfl))))))) (pss_one (ps_ret pe_bl)) pss_nil)
    (pss_one (ps_ret (pe_allG (own := [("sign", 1)]) (k := 0) hr rfl scIsWord.nd (by rfl) T.all TB rfl (gblk_by (N := nIsWord) (sc := defScope sIsWord) (by decide +kernel)) (pi_str (pv 0)) (fun _ _ _ _ _ _ _ _ _ => pg_name (i := 1) scIsWord.nd rfl (.inl rfl))
      (fun _ _ _ _ _ _ _ _ _ => pe_cmpR op_in_sign (pv 1) (pe_op op_add_str (pe_glob (v := .str "abcdefghijklmnopqrstuvwxyz") (by rfl) hsm ⟨_, rfl⟩) pe_str) (by rfl))))), ?_⟩
  rcases h with ⟨z, rfl, hz, q⟩ | ⟨⟨i, rfl⟩, q⟩
  · refine ⟨_, rfl, _, _, _, true, rfl, .str _, kb, _, rfl, iteF ?_⟩
    refine ⟨_, rfl, z, rfl, line100 hz, _, _, rfl, rfl, _, rfl, ?_⟩
    cases e : tl z with
    | nil =>
      have hl : z.length = 0 := by rw [len_tl, e]; rfl
      have hw : isWordF z = false := by unfold isWordF; rw [e]
      rw [hw] at q
      exact iteD (fun c => absurd c (by rw [hl]; decide)) (fun _ => ⟨_, rfl, iteT (iteT (q H .refl))⟩)
    | cons c r =>
      have hl : z.length = r.length + 1 := by rw [len_tl, e]; rfl
      rw [isWord_cons e] at q
      refine iteD (fun _ => ?_) (fun c => absurd (by rw [hl]; omega) c)
      refine ⟨_, _, rfl, rfl, _, rfl, ?_⟩
      refine iteND (fun c8 => ?_) (fun c8 => ?_)
      · have h8 : decide (r.length + 1 ≤ 8) = true := decide_eq_true (by rw [hl] at c8; omega)
        rw [h8, Bool.true_and] at q
        refine ⟨_, rfl, z, 0, c, rfl, rfl, by decide, by decide, by rw [hl]; omega, ?_, c, _, rfl, rfl, _, rfl, ?_⟩
        · have e2 : z.cps.toList[0]? = some c := by rw [show z.cps.toList = tl z from rfl, e]; rfl
          rw [← Array.getElem?_toList]
          exact e2
        rw [small_mem]
        cases hs : small c with
        | false =>
          rw [hs, Bool.false_and] at q
          exact iteT (iteT (q H .refl))
        | true =>
          rw [hs, Bool.true_and] at q
          refine iteF ?_
          refine ⟨_, rfl, ak, _, rfl, .inr (sk H), rfl, by decide +kernel, _, rfl, ?_⟩
          show if (inV (V.str z) [.str "in", .str "pick", .str "rest"]) = true then _ else _
          rw [kept_in]
          cases hk : kept z with
          | true =>
            rw [hk] at q
            exact iteT (q H .refl)
          | false =>
            rw [hk] at q
            refine iteF ?_
            refine ⟨_, rfl, z, rfl, ?_⟩
            have qf : ∀ H', Ext GT [] H H' → Q (.bl ((tl z).all alnum)) H' := by
              rw [e]
              exact q
            refine allG_str (fun i H' => Ext GT [] H H' ∧ ((tl z).take i).all alnum = true) (tt tp hP) (fun H2 ht => ⟨Ext.tabbed ht (tt tp hP) hP, by simp⟩) (fun x => rfl) (fun i d H' hi hv => ?_) (fun H' hv => ?_)
            · obtain ⟨x1, hall⟩ := hv
              refine ⟨_, rfl, _, _, rfl, rfl, (by decide +kernel), d, _, rfl, rfl, _, rfl, ?_⟩
              rw [alnum_mem]
              have ht : (tl z).take (i + 1) = (tl z).take i ++ [d] := by rw [List.take_add_one, hi]; rfl
              cases hd : alnum d with
              | true => exact iteT ⟨x1, by rw [ht, List.all_append, hall]; simp [hd]⟩
              | false =>
                have hn : (tl z).all alnum = false := by
                  rw [List.all_eq_false]
                  exact ⟨d, List.mem_of_getElem? hi, by simp [hd]⟩
                rw [hn] at qf
                exact iteF (qf H' x1)
            · obtain ⟨x1, hall⟩ := hv
              rw [List.take_length] at hall
              rw [hall] at qf
              exact qf H' x1
      · have h8 : decide (r.length + 1 ≤ 8) = false := decide_eq_false (by rw [hl] at c8; omega)
        rw [h8, Bool.false_and] at q
        exact q H .refl
  · refine ⟨_, rfl, _, _, _, false, rfl, .int _, kb, _, rfl, iteT ?_⟩
    exact iteT q
theorem ok_lnumber (F : FunC K "_law_number" "_law_number" sLNumber f fd c) (T : Bl mg) : FnOk P w K mg base CX0 1 f fd pLNumber spDigit := by
  refine F.ok scLNumber (fun vs H Q E h => ?_) (fun A outer s H vs Q E hr h => ?_)
  · obtain ⟨z, lo, hi, rfl, _⟩ := h
    rfl
  obtain ⟨z, lo, hi, rfl, hz, q⟩ := h
  refine ⟨_, pss_one (ps_ret (pe_ifExp (PW.pt (pw_and (pt_cmpR op_eq (pe_callB call_len_str (by rfl) T.len PySem.boot_len (pa_cons (pv 0) pa_nil)) pe_int (nomark _))
    (pw_and (pt_cmpR op_in_sign (pv 0) pe_str (by rfl)) (pw_and1 (pt_chain op_le op_le (pv 1) (pe_callTy call_int_str (by rfl) T.int (by decide +kernel) (pa_cons (pv 0) pa_nil)) (pv 2))))))
    (pe_callTy call_int_str (by rfl) T.int (by decide +kernel) (pa_cons (pv 0) pa_nil)) pe_non)), ?_⟩
  exact rd_digit hz q
theorem ok_lisWord (F : FunC K "_law_is_word" "_law_is_word" sLIsWord f fd c) (T : Bl mg) : FnOk P w K mg base CX0 1 f fd pLIsWord (fun vs H Q _ => ∃ z, vs = [.str z] ∧ okS z ∧ z.length ≤ 1000000 ∧ ∀ H', Same H H' → Q (.bl (isWordF z)) H') := by
  refine F.ok scLIsWord (fun vs H Q E h => ?_) (fun A outer s H vs Q E hr h => ?_)
  · obtain ⟨z, rfl, _⟩ := h
    rfl
  obtain ⟨z, rfl, ok, hz, q⟩ := h
  refine ⟨_, pss_cons (ps_if (PW.pt (pw_or (pt_not (pt_chain op_le op_le pe_int (pe_callB call_len_str (by rfl) T.len PySem.boot_len (pa_cons (pv 0) pa_nil)) pe_int))
    (pw_or (pt_cmpR op_notIn_sign (pe_item_str (pv 0) pe_int (fun _ _ => rfl)) pe_str (by rfl))
    (pw_or1 (pt_cmpR op_in_seq (pv 0) (pe_lst (pa_cons pe_str (pa_cons pe_str (pa_cons pe_str pa_nil)))) (by rfl)))))) (pss_one (ps_ret pe_bl)) pss_nil)
    (pss_one (ps_ret (pe_cmpR (op_eqL hr.units) (pe_lc (own := [("_law_sign", 1)]) (g := gName 1) rfl scLIsWord.nd (pi_str (pv 0)) (blkOk_by (N := nLIsWord) (sc := defScope sLIsWord) (by decide +kernel)) (fun _ _ _ _ _ => pg_name (i := 1) scLIsWord.nd rfl (.inl rfl))
      (fun _ _ _ _ _ => pts_one (pt_cmpR op_notIn_sign (pv 1) pe_str (by rfl))) (fun _ _ _ _ _ => pv 1)) (pe_lst pa_nil) (nomark _)))), ?_⟩
  have al2 : ∀ c : Nat, decide (c ∈ (Str.ofString "abcdefghijklmnopqrstuvwxyz0123456789").cps.toList) = alnum c := fun c => by
    rw [← alnum_mem]
    have e : (Str.ofString "abcdefghijklmnopqrstuvwxyz0123456789") = Str.ofString "abcdefghijklmnopqrstuvwxyz" ++ Str.ofString "0123456789" := by decide +kernel
    rw [e]
  refine ⟨_, rfl, z, rfl, line100 hz, _, _, rfl, rfl, _, rfl, ?_⟩
  cases e : tl z with
  | nil =>
    have hl : z.length = 0 := by rw [len_tl, e]; rfl
    have hw : isWordF z = false := by unfold isWordF; rw [e]
    rw [hw] at q
    exact iteD (fun c => absurd c (by rw [hl]; decide)) (fun _ => ⟨_, rfl, iteT (iteT (q H fun _ _ e => e))⟩)
  | cons c r =>
    have hl : z.length = r.length + 1 := by rw [len_tl, e]; rfl
    rw [isWord_cons e] at q
    refine iteD (fun _ => ?_) (fun c => absurd (by rw [hl]; omega) c)
    refine ⟨_, _, rfl, rfl, _, rfl, ?_⟩
    refine iteND (fun c8 => ?_) (fun c8 => ?_)
    · have h8 : decide (r.length + 1 ≤ 8) = true := decide_eq_true (by rw [hl] at c8; omega)
      rw [h8, Bool.true_and] at q
      refine ⟨_, rfl, z, 0, c, rfl, rfl, by decide, by decide, by rw [hl]; omega, ?_, c, _, rfl, rfl, _, rfl, ?_⟩
      · have e2 : z.cps.toList[0]? = some c := by rw [show z.cps.toList = tl z from rfl, e]; rfl
        rw [← Array.getElem?_toList]
        exact e2
      rw [small_mem]
      cases hs : small c with
      | false =>
        rw [hs, Bool.false_and] at q
        exact iteT (iteT (q H fun _ _ e => e))
      | true =>
        rw [hs, Bool.true_and] at q
        refine iteF ?_
        refine ⟨_, rfl, (by show 3 ≤ sizeLine; decide), fun p hp => ?_⟩
        have sp : Same H (upd H p (.lst [.str "in", .str "pick", .str "rest"])) := fun b o e => by
          rw [upd_ne (ne_of_none e hp)]
          exact e
        refine ⟨p, _, rfl, .inl (SqL.of upd_same), rfl, by decide +kernel, _, rfl, ?_⟩
        show if (inV (V.str z) [.str "in", .str "pick", .str "rest"]) = true then _ else _
        rw [kept_in]
        cases hk : kept z with
        | true =>
          rw [hk] at q
          exact iteT (q _ sp)
        | false =>
          rw [hk] at q
          refine iteF ?_
          refine ⟨_, rfl, z, rfl, fun D hD => ?_⟩
          refine lc_str (fun i H' => H' = upd (upd H p (.lst [.str "in", .str "pick", .str "rest"])) D (.lst (((((tl z).take i).filter fun c => !alnum c).map fun c => (⟨#[c]⟩ : Str)).map V.str))) rfl (fun i d H' hi hv => ?_) (fun H' hv => ?_)
          · subst hv
            refine ⟨rfl, _, rfl, d, _, rfl, rfl, _, rfl, ?_⟩
            rw [al2]
            have ht : (tl z).take (i + 1) = (tl z).take i ++ [d] := by rw [List.take_add_one, hi]; rfl
            cases hd : alnum d with
            | true =>
              refine iteF ?_
              rw [ht, List.filter_append]
              simp [hd]
            | false =>
              refine iteT ?_
              refine ⟨_, rfl, _, upd_same, ?_, ?_⟩
              · rw [List.length_map, List.length_map]
                have h1 := List.length_filter_le (fun c => !alnum c) ((tl z).take i)
                have h2 := List.length_take_le i (tl z)
                have h3 : ((tl z).take i).length ≤ (tl z).length := by rw [List.length_take]; omega
                rw [← len_tl] at h3
                exact Nat.lt_of_le_of_lt (by omega : _ ≤ 1000000) (by decide)
              · rw [upd_upd, ht, List.filter_append]
                simp [hd]
          · subst hv
            rw [List.take_length]
            refine ⟨(by show 0 ≤ sizeLine; decide), fun p2 hp2 => ?_⟩
            have nD : D ≠ p2 := ne_of_none (o := .lst (((((tl z).filter fun c => !alnum c).map fun c => (⟨#[c]⟩ : Str)).map V.str))) upd_same hp2
            have s2 : Same H (upd (upd (upd H p (.lst [.str "in", .str "pick", .str "rest"])) D (.lst (((((tl z).filter fun c => !alnum c).map fun c => (⟨#[c]⟩ : Str)).map V.str)))) p2 (.lst [])) := fun b o e => by
              have e1 := sp b o e
              have n1 := ne_of_none e1 hD
              have e2 : (upd (upd H p (.lst [.str "in", .str "pick", .str "rest"])) D (.lst (((((tl z).filter fun c => !alnum c).map fun c => (⟨#[c]⟩ : Str)).map V.str)))) b = some o := by rw [upd_ne n1]; exact e1
              rw [upd_ne (ne_of_none e2 hp2)]
              exact e2
            refine ⟨D, p2, _, [], rfl, rfl, by rw [upd_ne nD, upd_same], upd_same, ?_, by simp, ?_⟩
            · intro y hy
              obtain ⟨c, hc, rfl⟩ := List.mem_map.mp hy
              exact okS_mk (okS_iff.mp ok c (List.mem_filter.mp hc).1)
            · have hb : decide ((((tl z).filter fun c => !alnum c).map fun c => (⟨#[c]⟩ : Str)) = []) = (c :: r).all alnum := by
                rw [← e, Bool.eq_iff_iff, decide_eq_true_iff, List.map_eq_nil_iff, List.filter_eq_nil_iff, List.all_eq_true]
                constructor
                · intro h x hx
                  have := h x hx
                  simpa using this
                · intro h x hx
                  simp [h x hx]
              rw [hb]
              exact q _ s2
    · have h8 : decide (r.length + 1 ≤ 8) = false := decide_eq_false (by rw [hl] at c8; omega)
      rw [h8, Bool.false_and] at q
      exact q H fun _ _ e => e
end
end ML
set_option maxHeartbeats 4000000
namespace ML
open PySem PySem.Spec PyProof.Rows L2 TL Gn
theorem iteDT {p A B : Prop} [Decidable p] (h : p) (a : A) : if decide p = true then A else B := by
  rw [if_pos (decide_eq_true h)]
  exact a
theorem iteDF {p A B : Prop} [Decidable p] (h : ¬ p) (b : B) : if decide p = true then A else B := by
  rw [if_neg (by simp [h])]
  exact b
/-! ### data taken apart -/
theorem DAt.strI {H : Hp} {v : V} {s : Str} (h : DAt H v (.str s)) : v = .str s := by
  cases h
  rfl
theorem DAt.intI {H : Hp} {v : V} {i : Int} (h : DAt H v (.int i)) : v = .int i := by
  cases h
  rfl
theorem DAt.tupI {H : Hp} {v : V} {ds : List D} (h : DAt H v (.tup ds)) : ∃ (p : Addr) (xs : List V), v = .ref p ∧ H p = some (.tup xs) ∧ xs.length = ds.length ∧ ∀ (i : Nat) (x : V) (d : D), xs[i]? = some x → ds[i]? = some d → DAt H x d := by
  cases h with
  | tup h hl hs => exact ⟨_, _, rfl, h, hl, hs⟩
theorem DAt.tup2 {H : Hp} {v : V} {a b : D} (h : DAt H v (.tup [a, b])) : ∃ (p : Addr) (x y : V), v = .ref p ∧ H p = some (.tup [x, y]) ∧ DAt H x a ∧ DAt H y b := by
  obtain ⟨p, xs, rfl, h, hl, hs⟩ := h.tupI
  match xs, hl with
  | [x, y], _ => exact ⟨p, x, y, rfl, h, hs 0 x a rfl rfl, hs 1 y b rfl rfl⟩
theorem DAt.tup3 {H : Hp} {v : V} {a b c : D} (h : DAt H v (.tup [a, b, c])) : ∃ (p : Addr) (x y z : V), v = .ref p ∧ H p = some (.tup [x, y, z]) ∧ DAt H x a ∧ DAt H y b ∧ DAt H z c := by
  obtain ⟨p, xs, rfl, h, hl, hs⟩ := h.tupI
  match xs, hl with
  | [x, y, z], _ => exact ⟨p, x, y, z, rfl, h, hs 0 x a rfl rfl, hs 1 y b rfl rfl, hs 2 z c rfl rfl⟩
theorem DAt.tup4 {H : Hp} {v : V} {a b c d : D} (h : DAt H v (.tup [a, b, c, d])) : ∃ (p : Addr) (x y z u : V), v = .ref p ∧ H p = some (.tup [x, y, z, u]) ∧ DAt H x a ∧ DAt H y b ∧ DAt H z c ∧ DAt H u d := by
  obtain ⟨p, xs, rfl, h, hl, hs⟩ := h.tupI
  match xs, hl with
  | [x, y, z, u], _ => exact ⟨p, x, y, z, u, rfl, h, hs 0 x a rfl rfl, hs 1 y b rfl rfl, hs 2 z c rfl rfl, hs 3 u d rfl rfl⟩
theorem DAt.mk2 {H : Hp} {p : Addr} {x y : V} {a b : D} (h : H p = some (.tup [x, y])) (h1 : DAt H x a) (h2 : DAt H y b) : DAt H (.ref p) (.tup [a, b]) :=
  .tup h rfl fun i u d e1 e2 => match i, e1, e2 with
    | 0, e1, e2 => by cases e1; cases e2; exact h1
    | 1, e1, e2 => by cases e1; cases e2; exact h2
    | _ + 2, e1, _ => by simp at e1
theorem DAt.mk3 {H : Hp} {p : Addr} {x y z : V} {a b c : D} (h : H p = some (.tup [x, y, z])) (h1 : DAt H x a) (h2 : DAt H y b) (h3 : DAt H z c) : DAt H (.ref p) (.tup [a, b, c]) :=
  .tup h rfl fun i u d e1 e2 => match i, e1, e2 with
    | 0, e1, e2 => by cases e1; cases e2; exact h1
    | 1, e1, e2 => by cases e1; cases e2; exact h2
    | 2, e1, e2 => by cases e1; cases e2; exact h3
    | _ + 3, e1, _ => by simp at e1
theorem DAt.mk4 {H : Hp} {p : Addr} {x y z u : V} {a b c d : D} (h : H p = some (.tup [x, y, z, u])) (h1 : DAt H x a) (h2 : DAt H y b) (h3 : DAt H z c) (h4 : DAt H u d) : DAt H (.ref p) (.tup [a, b, c, d]) :=
  .tup h rfl fun i w e e1 e2 => match i, e1, e2 with
    | 0, e1, e2 => by cases e1; cases e2; exact h1
    | 1, e1, e2 => by cases e1; cases e2; exact h2
    | 2, e1, e2 => by cases e1; cases e2; exact h3
    | 3, e1, e2 => by cases e1; cases e2; exact h4
    | _ + 4, e1, _ => by simp at e1
theorem DAt.same {H H1 : Hp} (e : Same H H1) {v : V} {d : D} (h : DAt H v d) : DAt H1 v d := h.ext (Ext.same (GT := []) (M := []) e)
theorem dget_lit {H : Hp} {p : Addr} {kvs : List (Key × V)} {k : Str} {v : V} (e : H p = some (.dK kvs)) (h : valV kvs (Sum.inr k) = some v) : DGet H p (.str k) (some v) := by
  have q := DGet.k (k := Sum.inr k) e
  rw [h] at q
  exact q
theorem same_new {H : Hp} {p : Addr} (h : H p = none) (o : HO) : Same H (upd H p o) := fun b u q => by rw [upd_ne (ne_of_none q h)]; exact q
theorem same_mut {H H1 : Hp} {p : Addr} (s : Same H H1) (h : H p = none) (o : HO) : Same H (upd H1 p o) := fun b u q => by rw [upd_ne (ne_of_none q h)]; exact s b u q
theorem Same.fresh' {H H1 : Hp} {p : Addr} (s : Same H H1) (h : H1 p = none) : H p = none := s.free h
/-! ### the length of a written term -/
theorem len_app (x y : Str) : (x ++ y).length = x.length + y.length := by rw [len_tl, tl_append, List.length_append, ← len_tl, ← len_tl]
theorem off_len {o : Int} (h : o.natAbs ≤ 100) : (offF o).length ≤ 10 := by
  unfold offF
  split
  · decide
  · rw [len_app]
    have el : (Str.ofString (toString (if o < 0 then -o else o))).length ≤ 4 := len_num (by split <;> omega) (by split <;> omega)
    have : (if 0 < o then ("@+" : Str) else "@-").length = 2 := by split <;> decide
    omega
theorem W_len {ws : List Str} (hw : ∀ z ∈ ws, z.length ≤ 8) : ∀ (t : Tm) (r : Nat), t.ok ws.length → (W ws t r).length ≤ 20 * 4 ^ t.deep
  | .inn o, r, h => by
    obtain ⟨h1, h2⟩ := h
    have := off_len (o := o) (by omega)
    show (("in" : Str) ++ offF o).length ≤ 20 * 4 ^ 1
    rw [len_app]
    have : ("in" : Str).length = 2 := by decide
    omega
  | .ofn i o, r, h => by
    obtain ⟨h0, h1, h2⟩ := h
    have := off_len (o := o) (by omega)
    show (ws.getD i (Str.ofString "") ++ offF o).length ≤ 20 * 4 ^ 1
    rw [len_app]
    have h8 : (ws.getD i (Str.ofString "")).length ≤ 8 := by
      rw [List.getD_eq_getElem?_getD, List.getElem?_eq_getElem h0]
      exact hw _ (List.getElem_mem h0)
    omega
  | .isc c, r, h => by
    have h : c ≤ 9 := h
    have := len_num (i := (c : Int)) (by omega) (by omega)
    show (Str.ofString (toString (c : Int))).length ≤ 20 * 4 ^ 1
    omega
  | .rst a c, r, h => by
    obtain ⟨h0, h1, h2⟩ := h
    have ih := W_len hw a 0 h0
    have := len_num (i := (c : Int)) (by omega) (by omega)
    show (("rest(" : Str) ++ W ws a 0 ++ (", " : Str) ++ Str.ofString (toString (c : Int)) ++ (")" : Str)).length ≤ 20 * 4 ^ (a.deep + 1)
    rw [len_app, len_app, len_app, len_app, Nat.pow_succ]
    have e1 : ("rest(" : Str).length = 5 := by decide
    have e2 : (", " : Str).length = 2 := by decide
    have e3 : (")" : Str).length = 1 := by decide
    have e4 : 0 < 4 ^ a.deep := Nat.pow_pos (by decide)
    omega
  | .pck a b c, r, h => by
    obtain ⟨h0, h1, h2⟩ := h
    have ia := W_len hw a 0 h0
    have ib := W_len hw b 0 h1
    have ic := W_len hw c 0 h2
    show (("pick(" : Str) ++ (W ws a 0 ++ (", " : Str) ++ (W ws b 0 ++ (", " : Str) ++ W ws c 0)) ++ (")" : Str)).length ≤ 20 * 4 ^ (max a.deep (max b.deep c.deep) + 1)
    rw [len_app, len_app, len_app, len_app, len_app, len_app, Nat.pow_succ]
    have e1 : ("pick(" : Str).length = 5 := by decide
    have e2 : (", " : Str).length = 2 := by decide
    have e3 : (")" : Str).length = 1 := by decide
    have p1 : 4 ^ a.deep ≤ 4 ^ max a.deep (max b.deep c.deep) := Nat.pow_le_pow_right (by decide) (by omega)
    have p2 : 4 ^ b.deep ≤ 4 ^ max a.deep (max b.deep c.deep) := Nat.pow_le_pow_right (by decide) (by omega)
    have p3 : 4 ^ c.deep ≤ 4 ^ max a.deep (max b.deep c.deep) := Nat.pow_le_pow_right (by decide) (by omega)
    have e4 : 0 < 4 ^ max a.deep (max b.deep c.deep) := Nat.pow_pos (by decide)
    omega
  | .bin op a b, r, h => by
    obtain ⟨h0, h1⟩ := h
    have ia := W_len hw a (if 0 < op.rank then op.rank else 1) h0
    have ib := W_len hw b (op.rank + 1) h1
    have es : op.sign.length ≤ 2 := by cases op <;> decide
    have e2 : (" " : Str).length = 1 := by decide
    have e3 : (")" : Str).length = 1 := by decide
    have e5 : ("(" : Str).length = 1 := by decide
    have p1 : 4 ^ a.deep ≤ 4 ^ max a.deep b.deep := Nat.pow_le_pow_right (by decide) (by omega)
    have p2 : 4 ^ b.deep ≤ 4 ^ max a.deep b.deep := Nat.pow_le_pow_right (by decide) (by omega)
    have e4 : 0 < 4 ^ max a.deep b.deep := Nat.pow_pos (by decide)
    have body : (W ws a (if 0 < op.rank then op.rank else 1) ++ ((" " : Str) ++ op.sign ++ (" " : Str)) ++ W ws b (op.rank + 1)).length ≤ 40 * 4 ^ max a.deep b.deep + 4 := by
      rw [len_app, len_app, len_app, len_app]
      omega
    show (if op.rank < r then ("(" : Str) ++ (W ws a (if 0 < op.rank then op.rank else 1) ++ ((" " : Str) ++ op.sign ++ (" " : Str)) ++ W ws b (op.rank + 1)) ++ (")" : Str) else _).length ≤ 20 * 4 ^ (max a.deep b.deep + 1)
    rw [Nat.pow_succ]
    split
    · rw [len_app, len_app]
      omega
    · omega
end ML
set_option maxHeartbeats 4000000
namespace ML
open PySem PySem.Spec PyProof.Rows L2 TL Gn
/-! ### lists of data that grow -/
theorem get3 {α : Type} {a b c x : α} {i : Nat} (e : [a, b, c][i]? = some x) : (i = 0 ∧ x = a) ∨ (i = 1 ∧ x = b) ∨ (i = 2 ∧ x = c) := by
  match i, e with
  | 0, e => cases e; exact .inl ⟨rfl, rfl⟩
  | 1, e => cases e; exact .inr (.inl ⟨rfl, rfl⟩)
  | 2, e => cases e; exact .inr (.inr ⟨rfl, rfl⟩)
  | _ + 3, e => simp at e
theorem get2 {α : Type} {a b x : α} {i : Nat} (e : [a, b][i]? = some x) : (i = 0 ∧ x = a) ∨ (i = 1 ∧ x = b) := by
  match i, e with
  | 0, e => cases e; exact .inl ⟨rfl, rfl⟩
  | 1, e => cases e; exact .inr ⟨rfl, rfl⟩
  | _ + 2, e => simp at e
def AllD (H : Hp) (xs : List V) (ds : List D) : Prop := xs.length = ds.length ∧ ∀ (i : Nat) (x : V) (d : D), xs[i]? = some x → ds[i]? = some d → DAt H x d
def LAt (H : Hp) (p : Addr) (ds : List D) : Prop := ∃ xs : List V, H p = some (.lst xs) ∧ AllD H xs ds
section
variable {GT M : List Addr} {H H1 H2 H3 H4 : Hp} {p q : Addr} {xs : List V} {ds : List D}
theorem AllD.ext (x : Ext GT M H H1) (h : AllD H xs ds) : AllD H1 xs ds := ⟨h.1, fun i u d e1 e2 => (h.2 i u d e1 e2).ext x⟩
theorem AllD.nil : AllD H [] [] := ⟨rfl, fun i u d e1 _ => by cases i <;> cases e1⟩
theorem AllD.cons {u : V} {d : D} (h1 : DAt H u d) (h : AllD H xs ds) : AllD H (u :: xs) (d :: ds) :=
  ⟨congrArg (· + 1) h.1, fun i y e e1 e2 => match i, e1, e2 with
    | 0, e1, e2 => by cases e1; cases e2; exact h1
    | i + 1, e1, e2 => h.2 i y e e1 e2⟩
theorem AllD.app {ys : List V} {es : List D} (h : AllD H xs ds) (g : AllD H ys es) : AllD H (xs ++ ys) (ds ++ es) := by
  refine ⟨by rw [List.length_append, List.length_append, h.1, g.1], fun i y e e1 e2 => ?_⟩
  by_cases hi : i < xs.length
  · rw [List.getElem?_append_left hi] at e1
    rw [List.getElem?_append_left (h.1 ▸ hi)] at e2
    exact h.2 i y e e1 e2
  · rw [List.getElem?_append_right (by omega)] at e1
    rw [List.getElem?_append_right (by have := h.1; omega)] at e2
    rw [← h.1] at e2
    exact g.2 _ y e e1 e2
theorem AllD.snoc {u : V} {d : D} (h : AllD H xs ds) (h1 : DAt H u d) : AllD H (xs ++ [u]) (ds ++ [d]) := h.app (.cons h1 .nil)
theorem AllD.get {i : Nat} {x : V} (h : AllD H xs ds) (e : xs[i]? = some x) : ∃ d, ds[i]? = some d ∧ DAt H x d := by
  have hi : i < xs.length := (List.getElem?_eq_some_iff.mp e).1
  have hj : i < ds.length := h.1 ▸ hi
  exact ⟨ds[i], List.getElem?_eq_getElem hj, h.2 i x _ e (List.getElem?_eq_getElem hj)⟩
theorem AllD.getD {i : Nat} {d : D} (h : AllD H xs ds) (e : ds[i]? = some d) : ∃ x, xs[i]? = some x ∧ DAt H x d := by
  have hi : i < ds.length := (List.getElem?_eq_some_iff.mp e).1
  have hj : i < xs.length := h.1.symm ▸ hi
  exact ⟨xs[i], List.getElem?_eq_getElem hj, h.2 i _ d (List.getElem?_eq_getElem hj) e⟩
theorem AllD.drop {n : Nat} (h : AllD H xs ds) : AllD H (xs.drop n) (ds.drop n) :=
  ⟨by rw [List.length_drop, List.length_drop, h.1], fun i x d e1 e2 => by rw [List.getElem?_drop] at e1 e2; exact h.2 _ x d e1 e2⟩
theorem AllD.take {n : Nat} (h : AllD H xs ds) : AllD H (xs.take n) (ds.take n) :=
  ⟨by rw [List.length_take, List.length_take, h.1], fun i x d e1 e2 => by
    have hi : i < n := by
      have := (List.getElem?_eq_some_iff.mp e1).1
      rw [List.length_take] at this
      omega
    rw [List.getElem?_take_of_lt hi] at e1 e2
    exact h.2 i x d e1 e2⟩
theorem DAt.ofAll (h : H p = some (.tup xs)) (a : AllD H xs ds) : DAt H (.ref p) (.tup ds) := .tup h a.1 a.2
theorem DAt.all {v : V} (h : DAt H v (.tup ds)) : ∃ (p : Addr) (xs : List V), v = .ref p ∧ H p = some (.tup xs) ∧ AllD H xs ds := by
  obtain ⟨p, xs, e, hp, hl, hs⟩ := h.tupI
  exact ⟨p, xs, e, hp, hl, hs⟩
theorem allD_str : ∀ {H : Hp} {zs : List Str}, AllD H (zs.map V.str) (zs.map D.str)
  | _, [] => .nil
  | _, z :: r => .cons (.str z) allD_str
theorem allD_strI : ∀ {H : Hp} {xs : List V} {zs : List Str}, AllD H xs (zs.map D.str) → xs = zs.map V.str
  | _, [], [], _ => rfl
  | _, [], _ :: _, h => by cases h.1
  | _, _ :: _, [], h => by cases h.1
  | H, x :: r, z :: s, h => by
    have e1 : x = .str z := (h.2 0 x (.str z) rfl rfl).strI
    have e2 : r = s.map V.str := allD_strI (H := H) ⟨Nat.succ.inj h.1, fun i y e a b => h.2 (i + 1) y e a b⟩
    rw [e1, e2]
    rfl
theorem allD_int : ∀ {H : Hp} {zs : List Int}, AllD H (zs.map V.int) (zs.map D.int)
  | _, [] => .nil
  | _, z :: r => .cons (.int z) allD_int
theorem allD_intI : ∀ {H : Hp} {xs : List V} {zs : List Int}, AllD H xs (zs.map D.int) → xs = zs.map V.int
  | _, [], [], _ => rfl
  | _, [], _ :: _, h => by cases h.1
  | _, _ :: _, [], h => by cases h.1
  | H, x :: r, z :: s, h => by
    have e1 : x = .int z := (h.2 0 x (.int z) rfl rfl).intI
    have e2 : r = s.map V.int := allD_intI (H := H) ⟨Nat.succ.inj h.1, fun i y e a b => h.2 (i + 1) y e a b⟩
    rw [e1, e2]
    rfl
theorem LAt.ext (x : Ext GT [] H H1) (h : LAt H p ds) : LAt H1 p ds := by
  obtain ⟨xs, e, a⟩ := h
  exact ⟨xs, x.lst e, a.ext x⟩
theorem LAt.extM (x : Ext GT M H H1) (h : LAt H p ds) (n : p ∉ M) : LAt H1 p ds := by
  obtain ⟨xs, e, a⟩ := h
  exact ⟨xs, x.lstM e n, a.ext x⟩
theorem LAt.str {zs : List Str} (h : LAt H p (zs.map D.str)) : H p = some (.lst (zs.map V.str)) := by
  obtain ⟨xs, e, a⟩ := h
  rw [allD_strI a] at e
  exact e
theorem LAt.ofStr {zs : List Str} (h : H p = some (.lst (zs.map V.str))) : LAt H p (zs.map D.str) := ⟨_, h, allD_str⟩
theorem LAt.new (h : H p = none) (a : AllD H xs ds) : LAt (upd H p (.lst xs)) p ds := ⟨xs, upd_same, a.ext (Ext.new (GT := []) (M := []) h)⟩
theorem DAt.new (h : H p = none) (a : AllD H xs ds) : DAt (upd H p (.tup xs)) (.ref p) (.tup ds) := .ofAll upd_same (a.ext (Ext.new (GT := []) (M := []) h))
/-- a list is written in place -/
theorem Ext.put {xs ys : List V} (h : H p = some (.lst xs)) : Ext GT [p] H (upd H p (.lst ys)) := .mut h (fun _ z => by cases z) (fun _ z => by cases z) (by simp)
theorem AllD.put {xs0 ys0 : List V} (h : H p = some (.lst xs0)) (a : AllD H xs ds) : AllD (upd H p (.lst ys0)) xs ds := a.ext (Ext.put (GT := []) h)
theorem LAt.snoc {u : V} {d : D} (h : LAt H p ds) (h1 : DAt H u d) : ∃ xs, H p = some (.lst xs) ∧ xs.length = ds.length ∧ LAt (upd H p (.lst (xs ++ [u]))) p (ds ++ [d]) := by
  obtain ⟨xs, e, a⟩ := h
  exact ⟨xs, e, a.1, xs ++ [u], upd_same, (a.snoc h1).put e⟩
/-- what a comprehension has when it has walked i -/
structure Acc (GT M : List Addr) (H1 : Hp) (D0 : Addr) (G : Nat → List D → Prop) (i : Nat) (H : Hp) : Prop where
  at_ : ∃ ds, LAt H D0 ds ∧ G i ds ∧ ds.length ≤ i
  ext : Ext GT M H1 H
variable {D0 : Addr} {G : Nat → List D → Prop} {i : Nat} {y : V}
theorem acc0 (h : H1 D0 = none) (g : G 0 []) : Acc GT M H1 D0 G 0 (upd H1 D0 (.lst [])) := ⟨⟨[], .new h .nil, g, Nat.le_refl _⟩, .new h⟩
theorem Acc.skip (a : Acc GT M H1 D0 G i H) (hm : D0 ∉ M) (x : Ext GT M H H3) (g : ∀ ds, G i ds → G (i + 1) ds) : Acc GT M H1 D0 G (i + 1) H3 := by
  obtain ⟨⟨ds, l, hg, hl⟩, x0⟩ := a
  exact ⟨⟨ds, l.extM x hm, g ds hg, by omega⟩, x0.trans x⟩
theorem Acc.step {d : D} (a : Acc GT M H1 D0 G i H) (h : H1 D0 = none) (hm : D0 ∉ M) (hi : i < 1000000) (x : Ext GT M H H4) (hd : DAt H4 y d) (g : ∀ ds, G i ds → G (i + 1) (ds ++ [d])) :
    ∃ acc, H4 D0 = some (.lst acc) ∧ acc.length < sizeLine ∧ Acc GT M H1 D0 G (i + 1) (upd H4 D0 (.lst (acc ++ [y]))) := by
  obtain ⟨⟨ds, l, hg, hl⟩, x0⟩ := a
  obtain ⟨xs, e, el, l2⟩ := (l.extM x hm).snoc hd
  refine ⟨xs, e, Nat.lt_of_lt_of_le (by omega : xs.length < 1000000) (by decide), ⟨⟨ds ++ [d], l2, g ds hg, by rw [List.length_append]; exact Nat.succ_le_succ hl⟩, (x0.trans x).mutN h⟩⟩
theorem new_notin (h : ∀ b ∈ M, H1 b ≠ none) (e : H1 D0 = none) : D0 ∉ M := fun z => h _ z e
/-- the outcome when each item gives its own -/
theorem map_G {α : Type} {as : List α} {f : α → D} {ds : List D} : (fun (i : Nat) (ds : List D) => ds = (as.take i).map f) as.length ds → ds = as.map f := fun e => by
  have e : ds = (as.take as.length).map f := e
  rw [List.take_length] at e
  exact e
theorem map_Gs {α : Type} {as : List α} {f : α → D} {a : α} {i : Nat} {ds : List D} (h : as[i]? = some a) (e : ds = (as.take i).map f) : ds ++ [f a] = (as.take (i + 1)).map f := by
  rw [List.take_add_one, h, e, List.map_append]
  rfl
end
end ML
set_option maxHeartbeats 4000000
namespace ML
open PySem PySem.Spec PyProof.Rows L2 TL Gn
def spW (n : Nat) : Sp := fun vs H Q _ => ∃ (v : V) (t : Tm) (pw : Addr) (ws : List Str) (r : Nat), vs = [v, .ref pw, .int r] ∧ DAt H v t.d ∧ t.ok ws.length ∧ t.deep ≤ n ∧ n ≤ 5 ∧ H pw = some (.tup (ws.map V.str)) ∧ (∀ z ∈ ws, z.length ≤ 8) ∧
  ∀ H', Same H H' → Q (.str (W ws t r)) H'
theorem Tm.deep_pos : ∀ t : Tm, 1 ≤ t.deep
  | .inn _ => Nat.le_refl _ | .ofn _ _ => Nat.le_refl _ | .isc _ => Nat.le_refl _
  | .rst a _ => Nat.succ_le_succ (Nat.zero_le _)
  | .pck _ _ _ => Nat.succ_le_succ (Nat.zero_le _)
  | .bin _ _ _ => Nat.succ_le_succ (Nat.zero_le _)
theorem Ext.toSame {H H1 : Hp} (x : Ext [] [] H H1) : Same H H1 := fun b o e => by
  cases o with
  | tbl ps => exact x.oth b ps e (by simp)
  | _ => exact x.keep b _ e (fun _ z => by cases z) (by simp)
theorem fn_none {P : Program} {w : World} {K : PySem.W.Frag} {mg : Str → Option Value} {base : Heap} {CX : CXT} {k : Nat} {f : Addr} {fd : FuncData} {ps : List Str} {sp : Sp} (no : ∀ vs H Q E, ¬ sp vs H Q E) : FnOk P w K mg base CX k f fd ps sp :=
  ⟨fun vs H Q E h => absurd h (no vs H Q E), fun A outer s H args us vs Q E _ _ _ _ h => absurd h (no vs H Q E)⟩
theorem w_getD {ws : List Str} {i : Nat} (h : i < ws.length) : (ws.map V.str)[i]? = some (.str (ws.getD i (Str.ofString ""))) := by
  rw [List.getElem?_map, List.getElem?_eq_getElem h, List.getD_eq_getElem?_getD, List.getElem?_eq_getElem h]
  rfl
section
variable {P : Program} {w : World} {K : PySem.W.Frag} {mg : Str → Option Value} {base : Heap} {f c fo : Addr} {fd fdo : FuncData}
theorem text_step {n : Nat} (F : FunC K "term_text" "term_text" sTermText f fd c) (T : Bl mg) (bF : Binds K fd pTermText []) (mF : mg "term_text" = some (.ref f)) (G : FnOk P w K mg base CX0 (n + 1) f fd pTermText (spW n))
    (Go : FnOk P w K mg base CX0 1 fo fdo pOffsetText spOff) (mo : mg "offset_text" = some (.ref fo)) (bo : Binds K fdo pOffsetText []) (ko : PySem.W.keepIn K (.ref fo) = true) :
    FnOk P w K mg base CX0 (n + 2) f fd pTermText (spW (n + 1)) := by
  refine F.ok scTermText (fun vs H Q E h => ?_) (fun A outer s H vs Q E hr h => ?_)
  · obtain ⟨v, t, pw, ws, r, rfl, _⟩ := h
    rfl
  obtain ⟨v, t, pw, ws, r, rfl, ht, ok, hd, hn, hpw, hw, q⟩ := h
  have hr1 : Room 1 _ := hr.mono (by omega)
  refine ⟨_, pss_cons (ps_set (i := 3) scTermText.nd rfl (.inl rfl) (pe_ix ix_tup (pv 0) pe_int (fun _ _ => rfl))) (pss_cons (ps_if (pt_cmpR op_eq (pv 3) pe_str (nomark _)) (pss_one (ps_ret (pe_op op_add_str pe_str (pe_call Go hr1 rfl mo ko bo .nil pass0 (pa_cons (pe_ix ix_tup (pv 0) pe_int (fun _ _ => rfl)) pa_nil))))) pss_nil) (pss_cons (ps_if (pt_cmpR op_eq (pv 3) pe_str (nomark _)) (pss_one (ps_ret (pe_op op_add_str (pe_ix ix_tup (pv 1) (pe_ix ix_tup (pv 0) pe_int (fun _ _ => rfl)) (fun _ _ => rfl)) (pe_call Go hr1 rfl mo ko bo .nil pass0 (pa_cons (pe_ix ix_tup (pv 0) pe_int (fun _ _ => rfl)) pa_nil))))) pss_nil) (pss_cons (ps_if (pt_cmpR op_eq (pv 3) pe_str (nomark _)) (pss_one (ps_ret (pe_callTy call_str_int (by rfl) T.str boot_str (pa_cons (pe_ix ix_tup (pv 0) pe_int (fun _ _ => rfl)) pa_nil)))) pss_nil) (pss_cons (ps_if (pt_cmpR op_eq (pv 3) pe_str (nomark _)) (pss_one (ps_ret (pe_op op_add_str (pe_op op_add_str (pe_op op_add_str (pe_op op_add_str pe_str (pe_call G hr rfl mF F.kp bF .nil pass0 (pa_cons (pe_ix ix_tup (pv 0) pe_int (fun _ _ => rfl)) (pa_cons (pv 1) (pa_cons pe_int pa_nil))))) pe_str) (pe_callTy call_str_int (by rfl) T.str boot_str (pa_cons (pe_ix ix_tup (pv 0) pe_int (fun _ _ => rfl)) pa_nil))) pe_str))) pss_nil) (pss_cons (ps_if (pt_cmpR op_eq (pv 3) pe_str (nomark _)) (pss_one (ps_ret (pe_op op_add_str (pe_op op_add_str pe_str (pe_join pe_str (pe_lc (own := [("part", 8)]) rfl scTermText.nd (pi_tup (pe_slice sl_tup (pv 0) (po_some pe_int) po_none)) (blkOk_by (own := [("part", 8)]) (N := nTermText) (sc := defScope sTermText) (by decide +kernel)) (fun _ _ _ _ _ => pg_name (i := 8) scTermText.nd rfl (.inl rfl)) (fun _ _ _ _ _ => pts_nil) (fun _ _ _ _ _ => pe_call G hr rfl mF F.kp bF .nil pass0 (pa_cons (pv 8) (pa_cons (pv 1) (pa_cons pe_int pa_nil))))))) pe_str))) pss_nil) (pss_cons (ps_set (i := 4) scTermText.nd rfl (.inl rfl) (pe_dget (hu_of hr) (pe_disp (pps_cons pe_str pe_int (pps_cons pe_str pe_int (pps_cons pe_str pe_int (pps_cons pe_str pe_int pps_nil)))) (by rfl) (by rfl) (fun z => by cases z) (by decide)) (pv 3) (fun _ _ => rfl))) (pss_cons (ps_set (i := 5) scTermText.nd rfl (.inl rfl) (pe_dget (hu_of hr) (pe_disp (pps_cons pe_str pe_str (pps_cons pe_str pe_str (pps_cons pe_str pe_str (pps_cons pe_str pe_str pps_nil)))) (by rfl) (by rfl) (fun z => by cases z) (by decide)) (pv 3) (fun _ _ => rfl))) (pss_cons (ps_set (i := 6) scTermText.nd rfl (.inl rfl) (pe_call G hr rfl mF F.kp bF .nil pass0 (pa_cons (pe_ix ix_tup (pv 0) pe_int (fun _ _ => rfl)) (pa_cons (pv 1) (pa_cons (pe_ifExp (pt_cmpR op_gt (pv 4) pe_int (nomark _)) (pv 4) pe_int) pa_nil))))) (pss_cons (ps_set (i := 7) scTermText.nd rfl (.inl rfl) (pe_op op_add_str (pe_op op_add_str (pv 6) (pv 5)) (pe_call G hr rfl mF F.kp bF .nil pass0 (pa_cons (pe_ix ix_tup (pv 0) pe_int (fun _ _ => rfl)) (pa_cons (pv 1) (pa_cons (pe_op op_add (pv 4) pe_int) pa_nil)))))) (pss_one (ps_ret (pe_ifExp (pt_cmpR op_gt (pv 2) (pv 4) (nomark _)) (pe_op op_add_str (pe_op op_add_str pe_str (pv 7)) pe_str) (pv 7))))))))))))), ?_⟩
  have Wl := W_len hw t r ok
  have pw4 : 4 ^ t.deep ≤ 4 ^ 5 := Nat.pow_le_pow_right (by decide) (by omega)
  have L8 : ∀ x : Nat, x ≤ 1000000 → x ≤ sizeLine := fun x h => line100 h
  cases t with
  | inn o =>
    obtain ⟨p, x, y, rfl, hp, hx, hy⟩ := DAt.tup2 ht
    have hx := hx.strI
    have hy := hy.intI
    subst hx hy
    refine ⟨_, rfl, p, _, _, _, rfl, rfl, SqT.of hp, atI_nat (j := 0) rfl, ?_⟩
    refine ⟨_, rfl, rfl, _, rfl, iteDT rfl ?_⟩
    refine ⟨_, rfl, p, _, _, _, rfl, rfl, SqT.of hp, atI_nat (j := 1) rfl, o, rfl, ?_, _, _, rfl, rfl, ?_, q H fun _ _ e => e⟩
    · have := ok.1; have := ok.2; omega
    · have e : (W ws (.inn o) r).length = _ := len_app _ _
      rw [← e]
      exact L8 _ (by omega)
  | ofn i o =>
    obtain ⟨p, x, y, z, rfl, hp, hx, hy, hz⟩ := DAt.tup3 ht
    have hx := hx.strI
    have hy := hy.intI
    have hz := hz.intI
    subst hx hy hz
    refine ⟨_, rfl, p, _, _, _, rfl, rfl, SqT.of hp, atI_nat (j := 0) rfl, ?_⟩
    refine ⟨_, rfl, rfl, _, rfl, iteDF (by decide +kernel) ?_⟩
    refine ⟨_, rfl, rfl, _, rfl, iteDT rfl ?_⟩
    refine ⟨_, rfl, _, rfl, p, _, _, _, rfl, rfl, SqT.of hp, atI_nat (j := 1) rfl, pw, _, _, _, rfl, rfl, SqT.of hpw, atI_nat (w_getD ok.1), ?_⟩
    refine ⟨_, rfl, p, _, _, _, rfl, rfl, SqT.of hp, atI_nat (j := 2) rfl, o, rfl, ?_, _, _, rfl, rfl, ?_, q H fun _ _ e => e⟩
    · have := ok.2.1; have := ok.2.2; omega
    · have e : (W ws (.ofn i o) r).length = _ := len_app _ _
      rw [← e]
      exact L8 _ (by omega)
  | isc k =>
    obtain ⟨p, x, y, rfl, hp, hx, hy⟩ := DAt.tup2 ht
    have hx := hx.strI
    have hy := hy.intI
    subst hx hy
    refine ⟨_, rfl, p, _, _, _, rfl, rfl, SqT.of hp, atI_nat (j := 0) rfl, ?_⟩
    refine ⟨_, rfl, rfl, _, rfl, iteDF (by decide +kernel) ?_⟩
    refine ⟨_, rfl, rfl, _, rfl, iteDF (by decide +kernel) ?_⟩
    refine ⟨_, rfl, rfl, _, rfl, iteDT rfl ?_⟩
    refine ⟨_, rfl, p, _, _, _, rfl, rfl, SqT.of hp, atI_nat (j := 1) rfl, _, rfl, ?_, q H fun _ _ e => e⟩
    have ok : k ≤ 9 := ok
    exact log_small (by omega)
  | rst a k =>
    obtain ⟨p, x, y, z, rfl, hp, hx, hy, hz⟩ := DAt.tup3 ht
    have hx := hx.strI
    have hz := hz.intI
    subst hx hz
    refine ⟨_, rfl, p, _, _, _, rfl, rfl, SqT.of hp, atI_nat (j := 0) rfl, ?_⟩
    refine ⟨_, rfl, rfl, _, rfl, iteDF (by decide +kernel) ?_⟩
    refine ⟨_, rfl, rfl, _, rfl, iteDF (by decide +kernel) ?_⟩
    refine ⟨_, rfl, rfl, _, rfl, iteDF (by decide +kernel) ?_⟩
    refine ⟨_, rfl, rfl, _, rfl, iteDT rfl ?_⟩
    have hd : a.deep + 1 ≤ n + 1 := hd
    have k1 := ok.2.1
    have k2 := ok.2.2
    have Wl1 : (W ws (.rst a k) r).length = _ := len_app _ _
    rw [len_app, len_app, len_app] at Wl1
    refine ⟨_, rfl, p, _, _, _, rfl, rfl, SqT.of hp, atI_nat (j := 1) rfl, ?_⟩
    refine ⟨_, rfl, y, a, pw, ws, 0, rfl, hy, ok.1, by omega, by omega, hpw, hw, fun H1 s1 => ?_⟩
    refine ⟨_, _, rfl, rfl, L8 _ (by omega), _, _, rfl, rfl, L8 _ (by rw [len_app]; omega), ?_⟩
    refine ⟨_, rfl, p, _, _, _, rfl, rfl, SqT.of (s1 _ _ hp), atI_nat (j := 2) rfl, _, rfl, log_small (by omega), _, _, rfl, rfl, L8 _ (by rw [len_app, len_app]; omega), _, _, rfl, rfl, L8 _ (by rw [len_app, len_app, len_app]; omega), q H1 s1⟩
  | pck a b d =>
    obtain ⟨p, x, ya, yb, yc, rfl, hp, hx, ha, hb, hc⟩ := DAt.tup4 ht
    have hx := hx.strI
    subst hx
    obtain ⟨oa, ob, oc⟩ := ok
    have hd : max a.deep (max b.deep d.deep) + 1 ≤ n + 1 := hd
    refine ⟨_, rfl, p, _, _, _, rfl, rfl, SqT.of hp, atI_nat (j := 0) rfl, ?_⟩
    refine ⟨_, rfl, rfl, _, rfl, iteDF (by decide +kernel) ?_⟩
    refine ⟨_, rfl, rfl, _, rfl, iteDF (by decide +kernel) ?_⟩
    refine ⟨_, rfl, rfl, _, rfl, iteDF (by decide +kernel) ?_⟩
    refine ⟨_, rfl, rfl, _, rfl, iteDF (by decide +kernel) ?_⟩
    refine ⟨_, rfl, rfl, _, rfl, iteDT rfl ?_⟩
    refine ⟨⟨_, rfl⟩, _, rfl, _, rfl, p, _, rfl, SqT.of hp, (by show ¬ (HT.sIx 4 0 (some 1) = 0 ∧ HT.sIx 4 4 none = 4); decide), fun p2 hp2 => ⟨p2, rfl, ⟨_, SqT.of upd_same⟩, fun D0 hD => ?_⟩⟩
    have ec : cutV [V.str "pick", ya, yb, yc] (some 1) none = [ya, yb, yc] := rfl
    rw [ec] at hD ⊢
    have s1 : Same H (upd H p2 (.tup [ya, yb, yc])) := same_new hp2 _
    have AA : ∀ (i : Nat) (x : V), [ya, yb, yc][i]? = some x → ∃ t : Tm, [a, b, d][i]? = some t ∧ DAt H x t.d ∧ t.ok ws.length ∧ t.deep ≤ n := by
      intro i x e
      rcases get3 e with ⟨rfl, rfl⟩ | ⟨rfl, rfl⟩ | ⟨rfl, rfl⟩
      · exact ⟨a, rfl, ha, oa, by omega⟩
      · exact ⟨b, rfl, hb, ob, by omega⟩
      · exact ⟨d, rfl, hc, oc, by omega⟩
    refine lc_tup (Acc [] [] (upd H p2 (.tup [ya, yb, yc])) D0 (fun i ds => ds = ([a, b, d].take i).map fun t => D.str (W ws t 0))) (acc0 hD rfl) (fun i H2 hi ac => SqT.of (ac.ext.tups _ _ upd_same)) (fun i x H2 hx ac => ?_) (fun H2 ac => ?_)
    · obtain ⟨t, ht, hxt, tok, tdeep⟩ := AA i x hx
      have e2 : Ext [] [] H H2 := (Ext.same s1).trans ac.ext
      refine ⟨rfl, _, rfl, _, rfl, ?_⟩
      refine ⟨x, t, pw, ws, 0, rfl, hxt.ext e2, tok, tdeep, by omega, e2.tups _ _ hpw, hw, fun H3 s3 => ?_⟩
      exact ac.step hD (by simp) (by have := (List.getElem?_eq_some_iff.mp hx).1; simp at this; omega) (.same s3) (.str _) fun ds e => map_Gs (f := fun t => D.str (W ws t 0)) ht e
    · obtain ⟨⟨ds, l, g, _⟩, x2⟩ := ac
      have g : ds = [W ws a 0, W ws b 0, W ws d 0].map D.str := g
      subst g
      have l := l.str
      have Wl1 : (W ws (.pck a b d) r).length = _ := len_app _ _
      rw [len_app, len_app, len_app, len_app, len_app] at Wl1
      have e2 : (", " : Str).length = 2 := by decide
      have ej : Txt.join ", " [W ws a 0, W ws b 0, W ws d 0] = W ws a 0 ++ (", " : Str) ++ (W ws b 0 ++ (", " : Str) ++ W ws d 0) := join_eq _ _
      have ej2 : ("pick(" : Str) ++ Txt.join ", " [W ws a 0, W ws b 0, W ws d 0] ++ (")" : Str) = W ws (.pck a b d) r := by
        rw [ej]
        refine ext_tl ?_
        show _ = tl (("pick(" : Str) ++ (W ws a 0 ++ (", " : Str) ++ (W ws b 0 ++ (", " : Str) ++ W ws d 0)) ++ (")" : Str))
        simp only [tl_append]
      refine ⟨_, D0, [W ws a 0, W ws b 0, W ws d 0], rfl, rfl, .inl (SqL.of l), ?_, ?_⟩
      · show ((W ws a 0).length + ((W ws b 0).length + ((W ws d 0).length + 0))) + 3 * (", " : Str).length ≤ 16777216
        omega
      · refine ⟨_, _, rfl, rfl, L8 _ ?_, _, _, rfl, rfl, L8 _ ?_, ?_⟩
        · rw [ej, len_app, len_app, len_app, len_app]
          omega
        · rw [ej, len_app, len_app, len_app, len_app, len_app]
          omega
        · rw [ej2]
          exact q _ (Ext.toSame (((Ext.same s1).trans x2)))
  | bin op a b =>
    obtain ⟨p, x, ya, yb, rfl, hp, hx, ha, hb⟩ := DAt.tup3 ht
    have hx := hx.strI
    subst hx
    obtain ⟨oa, ob⟩ := ok
    have hd : max a.deep b.deep + 1 ≤ n + 1 := hd
    have wne : op.word ≠ "in" ∧ op.word ≠ "of" ∧ op.word ≠ "is" ∧ op.word ≠ "rest" ∧ op.word ≠ "pick" := by cases op <;> decide +kernel
    obtain ⟨w1, w2, w3, w4, w5⟩ := wne
    have vne : ∀ {s : Str}, op.word ≠ s → ¬ (V.str op.word = V.str s) := fun h z => h (by injection z)
    refine ⟨_, rfl, p, _, _, _, rfl, rfl, SqT.of hp, atI_nat (j := 0) rfl, ?_⟩
    refine ⟨_, rfl, rfl, _, rfl, iteDF (vne w1) ?_⟩
    refine ⟨_, rfl, rfl, _, rfl, iteDF (vne w2) ?_⟩
    refine ⟨_, rfl, rfl, _, rfl, iteDF (vne w3) ?_⟩
    refine ⟨_, rfl, rfl, _, rfl, iteDF (vne w4) ?_⟩
    refine ⟨_, rfl, rfl, _, rfl, iteDF (vne w5) ?_⟩
    have so : ∀ (k : Nat) (h : k = op.rank), True := fun _ _ => trivial
    refine fun p1 hp1 => ⟨upd_same, [(Sum.inr "same", .int 0), (Sum.inr "less", .int 0), (Sum.inr "plus", .int 1), (Sum.inr "times", .int 2)], rfl, by decide, _, rfl, p1, .int op.rank, rfl, dget_lit upd_same ?_, ?_⟩
    · cases op <;> decide +kernel
    refine fun p3 hp3 => ⟨upd_same, [(Sum.inr "same", .str " == "), (Sum.inr "less", .str " < "), (Sum.inr "plus", .str " + "), (Sum.inr "times", .str " * ")], rfl, by decide, _, rfl, p3, .str ((" " : Str) ++ op.sign ++ (" " : Str)), rfl, dget_lit upd_same ?_, ?_⟩
    · cases op <;> decide +kernel
    have s4 : Same H (upd (upd (upd (upd H p1 (.dK [])) p1 (.dK (mergeK [] [(Sum.inr "same", .int 0), (Sum.inr "less", .int 0), (Sum.inr "plus", .int 1), (Sum.inr "times", .int 2)]))) p3 (.dK []))
        p3 (.dK (mergeK [] [(Sum.inr "same", .str " == "), (Sum.inr "less", .str " < "), (Sum.inr "plus", .str " + "), (Sum.inr "times", .str " * ")]))) := by
      have a1 := same_mut (same_new hp1 (.dK [])) hp1 (.dK (mergeK [] [(Sum.inr "same", .int 0), (Sum.inr "less", .int 0), (Sum.inr "plus", .int 1), (Sum.inr "times", .int 2)]))
      have a2 := same_mut (same_new hp3 (.dK [])) hp3 (.dK (mergeK [] [(Sum.inr "same", .str " == "), (Sum.inr "less", .str " < "), (Sum.inr "plus", .str " + "), (Sum.inr "times", .str " * ")]))
      exact fun b o e => a2 b o (a1 b o e)
    have eW : W ws (.bin op a b) r = if op.rank < r then ("(" : Str) ++ (W ws a (if 0 < op.rank then op.rank else 1) ++ ((" " : Str) ++ op.sign ++ (" " : Str)) ++ W ws b (op.rank + 1)) ++ (")" : Str) else W ws a (if 0 < op.rank then op.rank else 1) ++ ((" " : Str) ++ op.sign ++ (" " : Str)) ++ W ws b (op.rank + 1) := rfl
    have body : (W ws a (if 0 < op.rank then op.rank else 1) ++ ((" " : Str) ++ op.sign ++ (" " : Str)) ++ W ws b (op.rank + 1)).length ≤ (W ws (.bin op a b) r).length := by
      rw [eW]
      by_cases h : op.rank < r
      · rw [if_pos h, len_app _ (")" : Str), len_app ("(" : Str)]; omega
      · rw [if_neg h]
        exact Nat.le_refl _
    refine ⟨_, rfl, p, _, _, _, rfl, rfl, SqT.of (s4 _ _ hp), atI_nat (j := 1) rfl, _, rfl, _, rfl, _, _, rfl, rfl, _, rfl, ?_⟩
    refine iteD (fun c1 => ?_) (fun c1 => ?_)
    · rw [if_pos (Int.ofNat_lt.mp c1)] at eW body
      refine ⟨_, rfl, ?_⟩
      refine ⟨ya, a, pw, ws, op.rank, rfl, ha.same s4, oa, by omega, by omega, s4 _ _ hpw, hw, fun H5 s5 => ?_⟩
      have s6 : Same H H5 := fun b o e => s5 b o (s4 b o e)
      refine ⟨_, rfl, _, rfl, _, _, rfl, rfl, L8 _ ?_, ?_⟩
      · rw [len_app, len_app] at body; omega
      refine ⟨_, rfl, p, _, _, _, rfl, rfl, SqT.of (s6 _ _ hp), atI_nat (j := 2) rfl, _, rfl, _, rfl, _, _, rfl, rfl, ?_⟩
      refine ⟨yb, b, pw, ws, op.rank + 1, rfl, hb.same s6, ob, by omega, by omega, s6 _ _ hpw, hw, fun H7 s7 => ?_⟩
      have s8 : Same H H7 := fun b o e => s7 b o (s6 b o e)
      refine ⟨_, _, rfl, rfl, L8 _ ?_, ?_⟩
      · rw [len_app, len_app] at body; rw [len_app]; omega
      refine ⟨_, rfl, _, rfl, _, _, rfl, rfl, _, rfl, ?_⟩
      refine iteD (fun c2 => ?_) (fun c2 => ?_)
      · have c2 : op.rank < r := Int.ofNat_lt.mp c2
        rw [if_pos c2] at eW
        rw [eW, len_app, len_app] at Wl
        refine ⟨_, rfl, _, _, rfl, rfl, L8 _ ?_, _, _, rfl, rfl, L8 _ ?_, ?_⟩
        · omega
        · rw [len_app]; omega
        · rw [eW] at q
          exact q H7 s8
      · have c2 : ¬ op.rank < r := fun z => c2 (Int.ofNat_lt.mpr z)
        rw [if_neg c2] at eW
        rw [eW] at q
        exact ⟨_, rfl, q H7 s8⟩
    · rw [if_neg (fun z => c1 (Int.ofNat_lt.mpr z))] at eW body
      refine ⟨ya, a, pw, ws, 1, rfl, ha.same s4, oa, by omega, by omega, s4 _ _ hpw, hw, fun H5 s5 => ?_⟩
      have s6 : Same H H5 := fun b o e => s5 b o (s4 b o e)
      refine ⟨_, rfl, _, rfl, _, _, rfl, rfl, L8 _ ?_, ?_⟩
      · rw [len_app, len_app] at body; omega
      refine ⟨_, rfl, p, _, _, _, rfl, rfl, SqT.of (s6 _ _ hp), atI_nat (j := 2) rfl, _, rfl, _, rfl, _, _, rfl, rfl, ?_⟩
      refine ⟨yb, b, pw, ws, op.rank + 1, rfl, hb.same s6, ob, by omega, by omega, s6 _ _ hpw, hw, fun H7 s7 => ?_⟩
      have s8 : Same H H7 := fun b o e => s7 b o (s6 b o e)
      refine ⟨_, _, rfl, rfl, L8 _ ?_, ?_⟩
      · rw [len_app, len_app] at body; rw [len_app]; omega
      refine ⟨_, rfl, _, rfl, _, _, rfl, rfl, _, rfl, ?_⟩
      refine iteD (fun c2 => ?_) (fun c2 => ?_)
      · have c2 : op.rank < r := Int.ofNat_lt.mp c2
        rw [if_pos c2] at eW
        rw [eW, len_app, len_app] at Wl
        refine ⟨_, rfl, _, _, rfl, rfl, L8 _ ?_, _, _, rfl, rfl, L8 _ ?_, ?_⟩
        · omega
        · rw [len_app]; omega
        · rw [eW] at q
          exact q H7 s8
      · have c2 : ¬ op.rank < r := fun z => c2 (Int.ofNat_lt.mpr z)
        rw [if_neg c2] at eW
        rw [eW] at q
        exact ⟨_, rfl, q H7 s8⟩
theorem ok_text (F : FunC K "term_text" "term_text" sTermText f fd c) (T : Bl mg) (bF : Binds K fd pTermText []) (mF : mg "term_text" = some (.ref f))
    (Go : FnOk P w K mg base CX0 1 fo fdo pOffsetText spOff) (mo : mg "offset_text" = some (.ref fo)) (bo : Binds K fdo pOffsetText []) (ko : PySem.W.keepIn K (.ref fo) = true) : ∀ n : Nat, FnOk P w K mg base CX0 (n + 1) f fd pTermText (spW n)
  | 0 => fn_none fun vs H Q E h => by
    obtain ⟨v, t, pw, ws, r, _, _, _, h0, _⟩ := h
    have := t.deep_pos
    omega
  | n + 1 => text_step F T bF mF (ok_text F T bF mF Go mo bo ko n) Go mo bo ko
end
end ML
set_option maxHeartbeats 4000000
namespace ML
open PySem PySem.Spec PyProof.Rows L2 TL Gn
/-- what a caller knows of a def by its name -/
def Cal (P : Program) (w : World) (K : PySem.W.Frag) (mg : Str → Option Value) (base : Heap) (k : Nat) (x : Str) (ps : List Str) (sp : Sp) : Prop :=
  ∃ f fd, FnOk P w K mg base CX0 k f fd ps sp ∧ mg x = some (.ref f) ∧ Binds K fd ps [] ∧ PySem.W.keepIn K (.ref f) = true
def CalR (P : Program) (w : World) (K : PySem.W.Frag) (mg : Str → Option Value) (base : Heap) (B : Around → Prop) (x : Str) (ps : List Str) (sp : Sp) : Prop :=
  ∃ f fd, FnR P w K mg base B f fd ps sp ∧ mg x = some (.ref f) ∧ Binds K fd ps [] ∧ PySem.W.keepIn K (.ref f) = true
section
variable {X : Cx} {k : Nat} {ps : List Str} {sp : Sp} {x : Str} {p pos : Pos} {e : Expr} {es : List Expr} {t : TA} {B : Around → Prop}
theorem pe_cal (C : Cal X.prog X.w X.K X.mg X.base k x ps sp) (hr : Room k X.A) (hg : Gl X x := by rfl) (ha : PA X (e :: es) t)
    (hdb : (x == ("__debug__" : Str)) = false := by decide) (he : starEach (e :: es) X.env = (false, eval e X.env) :: starEach es X.env := by rfl) (hpl : (backTo pos (starEach es X.env)).any (·.1) = false := by rfl) :
    PE X (.Call (.Name x p) (e :: es) [] pos) (tCall sp [] E0 t) := by
  obtain ⟨f, fd, F, m, b, kp⟩ := C
  exact pe_callR (.of F) hr hg m kp b ha hdb he hpl
theorem pe_calR (C : CalR X.prog X.w X.K X.mg X.base B x ps sp) (hr : B X.A) (hg : Gl X x := by rfl) (ha : PA X (e :: es) t)
    (hdb : (x == ("__debug__" : Str)) = false := by decide) (he : starEach (e :: es) X.env = (false, eval e X.env) :: starEach es X.env := by rfl) (hpl : (backTo pos (starEach es X.env)).any (·.1) = false := by rfl) :
    PE X (.Call (.Name x p) (e :: es) [] pos) (tCall sp [] E0 t) := by
  obtain ⟨f, fd, F, m, b, kp⟩ := C
  exact pe_callR F hr hg m kp b ha hdb he hpl
end
section
variable {P : Program} {w : World} {K : PySem.W.Frag} {mg : Str → Option Value} {base : Heap} {k : Nat} {x : Str} {ps : List Str} {sp : Sp}
theorem Cal.r (C : Cal P w K mg base k x ps sp) : CalR P w K mg base (Room k) x ps sp := by
  obtain ⟨f, fd, F, m, b, kp⟩ := C
  exact ⟨f, fd, .of F, m, b, kp⟩
theorem boot_max : bootBuiltins "max" = some (.builtin "max") := by decide +kernel
theorem Cal.mk {f c : Addr} {fd : FuncData} {qual : Str} {st : Stmt} (Fc : FunC K x qual st f fd c) (m : mg x = some (.ref f)) (b : Binds K fd ps []) (F : FnOk P w K mg base CX0 k f fd ps sp) : Cal P w K mg base k x ps sp := ⟨f, fd, F, m, b, Fc.kp⟩
end
end ML
set_option maxHeartbeats 4000000
namespace ML
open PySem PySem.Spec PyProof.Rows L2 TL Gn
theorem tm_ref {H : Hp} {v : V} : ∀ {t : Tm}, DAt H v t.d → ∃ (p : Addr) (xs : List V), v = .ref p ∧ H p = some (.tup xs)
  | .inn _, h | .ofn _ _, h | .isc _, h | .rst _ _, h | .pck _ _ _, h | .bin _ _ _, h => by
    obtain ⟨p, xs, e, hp, _⟩ := DAt.tupI h
    exact ⟨p, xs, e, hp⟩
section
variable {P : Program} {w : World} {K : PySem.W.Frag} {mg : Str → Option Value} {base : Heap} {f c fo : Addr} {fd fdo : FuncData}
theorem ltext_step {n : Nat} (F : FunC K "_law_text" "_law_text" sLText f fd c) (T : Bl mg) (G : Cal P w K mg base (n + 1) "_law_text" pLText (spW n)) (Go : Cal P w K mg base 1 "_law_offset_text" pLOffsetText spOff) :
    FnOk P w K mg base CX0 (n + 2) f fd pLText (spW (n + 1)) := by
  refine F.ok scLText (fun vs H Q E h => ?_) (fun A outer s H vs Q E hr h => ?_)
  · obtain ⟨v, t, pw, ws, r, rfl, _⟩ := h
    rfl
  obtain ⟨v, t, pw, ws, r, rfl, ht, ok, hd, hn, hpw, hw, q⟩ := h
  have hr1 : Room 1 _ := hr.mono (by omega)
  refine ⟨_, pss_cons (ps_if (pt_cmpR op_eq (pe_ix ix_tup (pv 0) pe_int (fun _ _ => rfl)) pe_str (nomark _)) (pss_one (ps_ret (pe_op op_add_str pe_str (pe_cal Go hr1 rfl (pa_cons (pe_ix ix_tup (pv 0) pe_int (fun _ _ => rfl)) pa_nil))))) pss_nil) (pss_cons (ps_if (pt_cmpR op_eq (pe_ix ix_tup (pv 0) pe_int (fun _ _ => rfl)) pe_str (nomark _)) (pss_one (ps_ret (pe_op op_add_str (pe_ix ix_tup (pv 1) (pe_ix ix_tup (pv 0) pe_int (fun _ _ => rfl)) (fun _ _ => rfl)) (pe_cal Go hr1 rfl (pa_cons (pe_ix ix_tup (pv 0) pe_int (fun _ _ => rfl)) pa_nil))))) pss_nil) (pss_cons (ps_if (pt_cmpR op_eq (pe_ix ix_tup (pv 0) pe_int (fun _ _ => rfl)) pe_str (nomark _)) (pss_one (ps_ret (pe_callTy call_str_int (by rfl) T.str boot_str (pa_cons (pe_ix ix_tup (pv 0) pe_int (fun _ _ => rfl)) pa_nil)))) pss_nil) (pss_cons (ps_if (pt_cmpR op_in_seq (pe_ix ix_tup (pv 0) pe_int (fun _ _ => rfl)) (pe_lst (pa_cons pe_str (pa_cons pe_str pa_nil))) (by rfl)) (pss_cons (ps_setLc (i := 3) (own := [("_law_part", 7)]) rfl scLText.nd rfl rfl (by rfl) (pi_tup (pe_slice sl_tup (pv 0) (po_some pe_int) po_none)) (blkOk_by (own := [("_law_part", 7)]) (N := nLText) (sc := defScope sLText) (by decide +kernel)) (fun _ _ _ _ _ => pg_name (i := 7) scLText.nd rfl (.inl rfl)) (fun _ _ _ _ _ => pts_nil) (fun _ _ _ _ _ => pe_ifExp (pt_val (pe_callB call_isY (by rfl) T.isinstance boot_isinstance (pa_cons (pv 7) (pa_cons (pe_bltn (v := .ty "tuple") (by rfl) T.tuple boot_tuple rfl) pa_nil)))) (pe_cal G hr rfl (pa_cons (pv 7) (pa_cons (pv 1) (pa_cons pe_int pa_nil)))) (pe_callTy call_str_int (by rfl) T.str boot_str (pa_cons (pv 7) pa_nil)))) (pss_one (ps_ret (pe_op op_add_str (pe_op op_add_str (pe_op op_add_str (pe_ix ix_tup (pv 0) pe_int (fun _ _ => rfl)) pe_str) (pe_join pe_str (pv 3))) pe_str)))) pss_nil) (pss_cons (ps_asg (pe_dget (hu_of hr) (pe_disp (pps_cons pe_str (pe_tup (pa_cons pe_int (pa_cons pe_str pa_nil))) (pps_cons pe_str (pe_tup (pa_cons pe_int (pa_cons pe_str pa_nil))) (pps_cons pe_str (pe_tup (pa_cons pe_int (pa_cons pe_str pa_nil))) (pps_cons pe_str (pe_tup (pa_cons pe_int (pa_cons pe_str pa_nil))) pps_nil)))) (by rfl) (by rfl) (fun z => by cases z) (by decide)) (pe_ix ix_tup (pv 0) pe_int (fun _ _ => rfl)) (fun _ _ => rfl)) (pg_tup rfl (pgs_cons (pg_name (i := 4) scLText.nd rfl (.inl rfl)) (pgs_cons (pg_name (i := 5) scLText.nd rfl (.inl rfl)) pgs_nil)))) (pss_cons (ps_set (i := 6) scLText.nd rfl (.inl rfl) (pe_op op_add_str (pe_op op_add_str (pe_op op_add_str (pe_op op_add_str (pe_cal G hr rfl (pa_cons (pe_ix ix_tup (pv 0) pe_int (fun _ _ => rfl)) (pa_cons (pv 1) (pa_cons (pe_callB (call_max2 rfl) (by rfl) T.max boot_max (pa_cons (pv 4) (pa_cons pe_int pa_nil))) pa_nil)))) pe_str) (pv 5)) pe_str) (pe_cal G hr rfl (pa_cons (pe_ix ix_tup (pv 0) pe_int (fun _ _ => rfl)) (pa_cons (pv 1) (pa_cons (pe_op op_add (pv 4) pe_int) pa_nil)))))) (pss_one (ps_ret (pe_ifExp (pt_cmpR op_lt (pv 4) (pv 2) (nomark _)) (pe_op op_add_str (pe_op op_add_str pe_str (pv 6)) pe_str) (pv 6))))))))), ?_⟩
  have Wl := W_len hw t r ok
  have pw4 : 4 ^ t.deep ≤ 4 ^ 5 := Nat.pow_le_pow_right (by decide) (by omega)
  have L8 : ∀ x : Nat, x ≤ 1000000 → x ≤ sizeLine := fun x h => line100 h
  have s1 : ∀ {p1 : Addr} {xs : List V}, H p1 = none → Same H (upd H p1 (.lst xs)) := fun h => same_new h _
  have s1 : ∀ {p1 : Addr} {xs : List V}, H p1 = none → Same H (upd H p1 (.lst xs)) := fun h => same_new h _
  have s1 : ∀ {p1 : Addr} {xs : List V}, H p1 = none → Same H (upd H p1 (.lst xs)) := fun h => same_new h _
  have s1 : ∀ {p1 : Addr} {xs : List V}, H p1 = none → Same H (upd H p1 (.lst xs)) := fun h => same_new h _
  have s1 : ∀ {p1 : Addr} {xs : List V}, H p1 = none → Same H (upd H p1 (.lst xs)) := fun h => same_new h _
  cases t with
  | inn o =>
    obtain ⟨p, x, y, rfl, hp, hx, hy⟩ := DAt.tup2 ht
    have hx := hx.strI
    have hy := hy.intI
    subst hx hy
    refine ⟨_, rfl, p, _, _, _, rfl, rfl, SqT.of hp, atI_nat (j := 0) rfl, rfl, _, rfl, iteDT rfl ?_⟩
    refine ⟨_, rfl, p, _, _, _, rfl, rfl, SqT.of hp, atI_nat (j := 1) rfl, o, rfl, ?_, _, _, rfl, rfl, ?_, q H fun _ _ e => e⟩
    · have := ok.1; have := ok.2; omega
    · have e : (W ws (.inn o) r).length = _ := len_app _ _
      rw [← e]
      exact L8 _ (by omega)
  | ofn i o =>
    obtain ⟨p, x, y, z, rfl, hp, hx, hy, hz⟩ := DAt.tup3 ht
    have hx := hx.strI
    have hy := hy.intI
    have hz := hz.intI
    subst hx hy hz
    refine ⟨_, rfl, p, _, _, _, rfl, rfl, SqT.of hp, atI_nat (j := 0) rfl, rfl, _, rfl, iteDF (by decide +kernel) ?_⟩
    refine ⟨_, rfl, p, _, _, _, rfl, rfl, SqT.of hp, atI_nat (j := 0) rfl, rfl, _, rfl, iteDT rfl ?_⟩
    refine ⟨_, rfl, _, rfl, p, _, _, _, rfl, rfl, SqT.of hp, atI_nat (j := 1) rfl, pw, _, _, _, rfl, rfl, SqT.of hpw, atI_nat (w_getD ok.1), ?_⟩
    refine ⟨_, rfl, p, _, _, _, rfl, rfl, SqT.of hp, atI_nat (j := 2) rfl, o, rfl, ?_, _, _, rfl, rfl, ?_, q H fun _ _ e => e⟩
    · have := ok.2.1; have := ok.2.2; omega
    · have e : (W ws (.ofn i o) r).length = _ := len_app _ _
      rw [← e]
      exact L8 _ (by omega)
  | isc k =>
    obtain ⟨p, x, y, rfl, hp, hx, hy⟩ := DAt.tup2 ht
    have hx := hx.strI
    have hy := hy.intI
    subst hx hy
    refine ⟨_, rfl, p, _, _, _, rfl, rfl, SqT.of hp, atI_nat (j := 0) rfl, rfl, _, rfl, iteDF (by decide +kernel) ?_⟩
    refine ⟨_, rfl, p, _, _, _, rfl, rfl, SqT.of hp, atI_nat (j := 0) rfl, rfl, _, rfl, iteDF (by decide +kernel) ?_⟩
    refine ⟨_, rfl, p, _, _, _, rfl, rfl, SqT.of hp, atI_nat (j := 0) rfl, rfl, _, rfl, iteDT rfl ?_⟩
    refine ⟨_, rfl, p, _, _, _, rfl, rfl, SqT.of hp, atI_nat (j := 1) rfl, _, rfl, ?_, q H fun _ _ e => e⟩
    have ok : k ≤ 9 := ok
    exact log_small (by omega)
  | rst a k =>
    obtain ⟨p, x, y, z, rfl, hp, hx, hy, hz⟩ := DAt.tup3 ht
    have hx := hx.strI
    have hz := hz.intI
    subst hx hz
    refine ⟨_, rfl, p, _, _, _, rfl, rfl, SqT.of hp, atI_nat (j := 0) rfl, rfl, _, rfl, iteDF (by decide +kernel) ?_⟩
    refine ⟨_, rfl, p, _, _, _, rfl, rfl, SqT.of hp, atI_nat (j := 0) rfl, rfl, _, rfl, iteDF (by decide +kernel) ?_⟩
    refine ⟨_, rfl, p, _, _, _, rfl, rfl, SqT.of hp, atI_nat (j := 0) rfl, rfl, _, rfl, iteDF (by decide +kernel) ?_⟩
    have k1 := ok.2.1
    have k2 := ok.2.2
    have Wl1 : (W ws (.rst a k) r).length = _ := len_app _ _
    rw [len_app, len_app, len_app] at Wl1
    have hd : a.deep + 1 ≤ n + 1 := hd
    refine ⟨_, rfl, p, _, _, _, rfl, rfl, SqT.of hp, atI_nat (j := 0) rfl, (by show 2 ≤ sizeLine; decide), fun p1 hp1 => ⟨p1, _, rfl, .inl (SqL.of upd_same), rfl, by decide +kernel, _, rfl, iteT ?_⟩⟩
    refine ⟨_, rfl, _, rfl, p, _, rfl, SqT.of (s1 hp1 _ _ hp), (by show ¬ (HT.sIx 3 0 (some 1) = 0 ∧ HT.sIx 3 3 none = 3); decide), fun p2 hp2 => ⟨p2, rfl, ⟨_, SqT.of upd_same⟩, fun D0 hD => ?_⟩⟩
    have ec : cutV [V.str "rest", y, V.int k] (some 1) none = [y, V.int k] := rfl
    rw [ec] at hD ⊢
    have sA : Ext [] [] H (upd (upd H p1 (.lst [V.str "rest", V.str "pick"])) p2 (.tup [y, V.int k])) := (Ext.new hp1).trans (.new hp2)
    refine lc_tup (Acc [] [] (upd (upd H p1 (.lst [V.str "rest", V.str "pick"])) p2 (.tup [y, V.int k])) D0 (fun i ds => ds = ([W ws a 0, Str.ofString (toString (k : Int))].take i).map D.str)) (acc0 hD rfl) (fun i H2 hi ac => SqT.of (ac.ext.tups _ _ upd_same)) (fun i x H2 hx ac => ?_) (fun H2 ac => ?_)
    · have e2 : Ext [] [] H H2 := sA.trans ac.ext
      rcases get2 hx with ⟨rfl, rfl⟩ | ⟨rfl, rfl⟩
      · obtain ⟨py, ys, rfl, hpy⟩ := tm_ref hy
        refine ⟨rfl, _, rfl, _, _, _, true, rfl, .tup (e2.tups _ _ hpy), kb, _, rfl, ?_⟩
        refine ⟨_, rfl, _, rfl, ?_⟩
        refine ⟨_, a, pw, ws, 0, rfl, hy.ext e2, ok.1, by omega, by omega, e2.tups _ _ hpw, hw, fun H3 s3 => ?_⟩
        exact ac.step hD (by simp) (by decide) (.same s3) (.str _) fun ds e => map_Gs (f := D.str) (as := [W ws a 0, Str.ofString (toString (k : Int))]) rfl e
      · refine ⟨rfl, _, rfl, _, _, _, false, rfl, .int _, kb, _, rfl, ?_⟩
        refine ⟨_, rfl, _, rfl, log_small (by omega), ?_⟩
        exact ac.step hD (by simp) (by decide) .refl (.str _) fun ds e => map_Gs (f := D.str) (as := [W ws a 0, Str.ofString (toString (k : Int))]) rfl e
    · obtain ⟨⟨ds, l, g, _⟩, x2⟩ := ac
      have g : ds = [W ws a 0, Str.ofString (toString (k : Int))].map D.str := g
      subst g
      have l := l.str
      have e2 : (", " : Str).length = 2 := by decide
      have e3 : ("(" : Str).length = 1 := by decide
      have e4 : ("rest" : Str).length = 4 := by decide
      have ej : Txt.join ", " [W ws a 0, Str.ofString (toString (k : Int))] = W ws a 0 ++ (", " : Str) ++ Str.ofString (toString (k : Int)) := join_eq _ _
      have ej2 : ("rest" : Str) ++ ("(" : Str) ++ Txt.join ", " [W ws a 0, Str.ofString (toString (k : Int))] ++ (")" : Str) = W ws (.rst a k) r := by
        rw [ej]
        refine ext_tl ?_
        show _ = tl (("rest(" : Str) ++ W ws a 0 ++ (", " : Str) ++ Str.ofString (toString (k : Int)) ++ (")" : Str))
        simp only [tl_append, List.append_assoc]
        rfl
      have ex := sA.trans x2
      refine ⟨_, rfl, p, _, _, _, rfl, rfl, SqT.of (ex.tups _ _ hp), atI_nat (j := 0) rfl, _, _, rfl, rfl, L8 _ (by omega), ?_⟩
      refine ⟨⟨_, rfl⟩, _, rfl, _, D0, [W ws a 0, Str.ofString (toString (k : Int))], rfl, rfl, .inl (SqL.of l), ?_, ?_⟩
      · show ((W ws a 0).length + ((Str.ofString (toString (k : Int))).length + 0)) + 2 * (", " : Str).length ≤ 16777216
        omega
      · refine ⟨_, _, rfl, rfl, L8 _ ?_, _, _, rfl, rfl, L8 _ ?_, ?_⟩
        · rw [ej, len_app, len_app, len_app]
          omega
        · rw [ej, len_app, len_app, len_app, len_app]
          omega
        · rw [ej2]
          exact q _ ex.toSame
  | pck a b d =>
    obtain ⟨p, x, ya, yb, yc, rfl, hp, hx, ha, hb, hc⟩ := DAt.tup4 ht
    have hx := hx.strI
    subst hx
    obtain ⟨oa, ob, oc⟩ := ok
    have hd : max a.deep (max b.deep d.deep) + 1 ≤ n + 1 := hd
    refine ⟨_, rfl, p, _, _, _, rfl, rfl, SqT.of hp, atI_nat (j := 0) rfl, rfl, _, rfl, iteDF (by decide +kernel) ?_⟩
    refine ⟨_, rfl, p, _, _, _, rfl, rfl, SqT.of hp, atI_nat (j := 0) rfl, rfl, _, rfl, iteDF (by decide +kernel) ?_⟩
    refine ⟨_, rfl, p, _, _, _, rfl, rfl, SqT.of hp, atI_nat (j := 0) rfl, rfl, _, rfl, iteDF (by decide +kernel) ?_⟩
    refine ⟨_, rfl, p, _, _, _, rfl, rfl, SqT.of hp, atI_nat (j := 0) rfl, (by show 2 ≤ sizeLine; decide), fun p1 hp1 => ⟨p1, _, rfl, .inl (SqL.of upd_same), rfl, by decide +kernel, _, rfl, iteT ?_⟩⟩
    refine ⟨_, rfl, _, rfl, p, _, rfl, SqT.of (s1 hp1 _ _ hp), (by show ¬ (HT.sIx 4 0 (some 1) = 0 ∧ HT.sIx 4 4 none = 4); decide), fun p2 hp2 => ⟨p2, rfl, ⟨_, SqT.of upd_same⟩, fun D0 hD => ?_⟩⟩
    have ec : cutV [V.str "pick", ya, yb, yc] (some 1) none = [ya, yb, yc] := rfl
    rw [ec] at hD ⊢
    have sA : Ext [] [] H (upd (upd H p1 (.lst [V.str "rest", V.str "pick"])) p2 (.tup [ya, yb, yc])) := (Ext.new hp1).trans (.new hp2)
    have AA : ∀ (i : Nat) (x : V), [ya, yb, yc][i]? = some x → ∃ t : Tm, [a, b, d][i]? = some t ∧ DAt H x t.d ∧ t.ok ws.length ∧ t.deep ≤ n := by
      intro i x e
      rcases get3 e with ⟨rfl, rfl⟩ | ⟨rfl, rfl⟩ | ⟨rfl, rfl⟩
      · exact ⟨a, rfl, ha, oa, by omega⟩
      · exact ⟨b, rfl, hb, ob, by omega⟩
      · exact ⟨d, rfl, hc, oc, by omega⟩
    refine lc_tup (Acc [] [] (upd (upd H p1 (.lst [V.str "rest", V.str "pick"])) p2 (.tup [ya, yb, yc])) D0 (fun i ds => ds = ([a, b, d].take i).map fun t => D.str (W ws t 0))) (acc0 hD rfl) (fun i H2 hi ac => SqT.of (ac.ext.tups _ _ upd_same)) (fun i x H2 hx ac => ?_) (fun H2 ac => ?_)
    · obtain ⟨t, ht, hxt, tok, tdeep⟩ := AA i x hx
      have e2 : Ext [] [] H H2 := sA.trans ac.ext
      obtain ⟨py, ys, rfl, hpy⟩ := tm_ref hxt
      refine ⟨rfl, _, rfl, _, _, _, true, rfl, .tup (e2.tups _ _ hpy), kb, _, rfl, ?_⟩
      refine ⟨_, rfl, _, rfl, ?_⟩
      refine ⟨_, t, pw, ws, 0, rfl, hxt.ext e2, tok, tdeep, by omega, e2.tups _ _ hpw, hw, fun H3 s3 => ?_⟩
      exact ac.step hD (by simp) (by have := (List.getElem?_eq_some_iff.mp hx).1; simp at this; omega) (.same s3) (.str _) fun ds e => map_Gs (f := fun t => D.str (W ws t 0)) ht e
    · obtain ⟨⟨ds, l, g, _⟩, x2⟩ := ac
      have g : ds = [W ws a 0, W ws b 0, W ws d 0].map D.str := g
      subst g
      have l := l.str
      have Wl1 : (W ws (.pck a b d) r).length = _ := len_app _ _
      rw [len_app, len_app, len_app, len_app, len_app] at Wl1
      have e2 : (", " : Str).length = 2 := by decide
      have e3 : ("(" : Str).length = 1 := by decide
      have e4 : ("pick" : Str).length = 4 := by decide
      have e5 : ("pick(" : Str).length = 5 := by decide
      have ej : Txt.join ", " [W ws a 0, W ws b 0, W ws d 0] = W ws a 0 ++ (", " : Str) ++ (W ws b 0 ++ (", " : Str) ++ W ws d 0) := join_eq _ _
      have ej2 : ("pick" : Str) ++ ("(" : Str) ++ Txt.join ", " [W ws a 0, W ws b 0, W ws d 0] ++ (")" : Str) = W ws (.pck a b d) r := by
        rw [ej]
        refine ext_tl ?_
        show _ = tl (("pick(" : Str) ++ (W ws a 0 ++ (", " : Str) ++ (W ws b 0 ++ (", " : Str) ++ W ws d 0)) ++ (")" : Str))
        simp only [tl_append, List.append_assoc]
        rfl
      have ex := sA.trans x2
      refine ⟨_, rfl, p, _, _, _, rfl, rfl, SqT.of (ex.tups _ _ hp), atI_nat (j := 0) rfl, _, _, rfl, rfl, L8 _ (by omega), ?_⟩
      refine ⟨⟨_, rfl⟩, _, rfl, _, D0, [W ws a 0, W ws b 0, W ws d 0], rfl, rfl, .inl (SqL.of l), ?_, ?_⟩
      · show ((W ws a 0).length + ((W ws b 0).length + ((W ws d 0).length + 0))) + 3 * (", " : Str).length ≤ 16777216
        omega
      · refine ⟨_, _, rfl, rfl, L8 _ ?_, _, _, rfl, rfl, L8 _ ?_, ?_⟩
        · rw [ej, len_app, len_app, len_app, len_app, len_app]
          omega
        · rw [ej, len_app, len_app, len_app, len_app, len_app, len_app]
          omega
        · rw [ej2]
          exact q _ ex.toSame
  | bin op a b =>
    obtain ⟨p, x, ya, yb, rfl, hp, hx, ha, hb⟩ := DAt.tup3 ht
    have hx := hx.strI
    subst hx
    obtain ⟨oa, ob⟩ := ok
    have hd : max a.deep b.deep + 1 ≤ n + 1 := hd
    have wne : op.word ≠ "in" ∧ op.word ≠ "of" ∧ op.word ≠ "is" ∧ op.word ≠ "rest" ∧ op.word ≠ "pick" := by cases op <;> decide +kernel
    obtain ⟨w1, w2, w3, w4, w5⟩ := wne
    have vne : ∀ {s : Str}, op.word ≠ s → ¬ (V.str op.word = V.str s) := fun h z => h (by injection z)
    refine ⟨_, rfl, p, _, _, _, rfl, rfl, SqT.of hp, atI_nat (j := 0) rfl, rfl, _, rfl, iteDF (vne w1) ?_⟩
    refine ⟨_, rfl, p, _, _, _, rfl, rfl, SqT.of hp, atI_nat (j := 0) rfl, rfl, _, rfl, iteDF (vne w2) ?_⟩
    refine ⟨_, rfl, p, _, _, _, rfl, rfl, SqT.of hp, atI_nat (j := 0) rfl, rfl, _, rfl, iteDF (vne w3) ?_⟩
    refine ⟨_, rfl, p, _, _, _, rfl, rfl, SqT.of hp, atI_nat (j := 0) rfl, (by show 2 ≤ sizeLine; decide), fun p1 hp1 => ⟨p1, _, rfl, .inl (SqL.of upd_same), rfl, by cases op <;> decide +kernel, _, rfl, ?_⟩⟩
    rw [show inV (V.str op.word) [V.str "rest", V.str "pick"] = false by cases op <;> decide +kernel]
    refine iteF ?_
    refine fun pd hpd => ?_
    refine ⟨(by show 2 ≤ sizeLine; decide), fun t1 h1 => ?_⟩
    refine ⟨(by show 2 ≤ sizeLine; decide), fun t2 h2 => ?_⟩
    refine ⟨(by show 2 ≤ sizeLine; decide), fun t3 h3 => ?_⟩
    refine ⟨(by show 2 ≤ sizeLine; decide), fun t4 h4 => ?_⟩
    obtain ⟨B4, hB4⟩ : ∃ B4 : Hp, B4 = upd (upd (upd (upd (upd (upd H p1 (.lst [.str "rest", .str "pick"])) pd (.dK [])) t1 (.tup [.int 0, .str "=="])) t2 (.tup [.int 0, .str "<"])) t3 (.tup [.int 1, .str "+"])) t4 (.tup [.int 2, .str "*"]) := ⟨_, rfl⟩
    have x0 : Ext [] [] (upd H p1 (.lst [.str "rest", .str "pick"])) (upd (upd H p1 (.lst [.str "rest", .str "pick"])) pd (.dK [])) := .new hpd
    have x1 := Ext.new (GT := []) (M := []) (o := .tup [.int 0, .str "=="]) h1
    have x2 := Ext.new (GT := []) (M := []) (o := .tup [.int 0, .str "<"]) h2
    have x3 := Ext.new (GT := []) (M := []) (o := .tup [.int 1, .str "+"]) h3
    have x4 := Ext.new (GT := []) (M := []) (o := .tup [.int 2, .str "*"]) h4
    have ed : B4 pd = some (.dK []) := by
      rw [hB4]
      exact ((((x1.trans x2).trans x3).trans x4).keep pd _ upd_same (fun _ z => by cases z) (by simp))
    have e1 : B4 t1 = some (.tup [.int 0, .str "=="]) := by rw [hB4]; exact ((x2.trans x3).trans x4).tups _ _ upd_same
    have e2 : B4 t2 = some (.tup [.int 0, .str "<"]) := by rw [hB4]; exact (x3.trans x4).tups _ _ upd_same
    have e3 : B4 t3 = some (.tup [.int 1, .str "+"]) := by rw [hB4]; exact x4.tups _ _ upd_same
    have e4 : B4 t4 = some (.tup [.int 2, .str "*"]) := by rw [hB4]; exact upd_same
    have xA : Ext [] [] H B4 := by rw [hB4]; exact (Ext.new hp1).trans (((((x0.trans x1).trans x2).trans x3).trans x4))
    rw [← hB4]
    refine ⟨ed, [(Sum.inr "same", .ref t1), (Sum.inr "less", .ref t2), (Sum.inr "plus", .ref t3), (Sum.inr "times", .ref t4)], rfl, (by show 4 ≤ 15; decide), ?_⟩
    obtain ⟨tx, hv, htx⟩ : ∃ tx, valV (mergeK [] [(Sum.inr "same", V.ref t1), (Sum.inr "less", .ref t2), (Sum.inr "plus", .ref t3), (Sum.inr "times", .ref t4)]) (Sum.inr op.word) = some (.ref tx) ∧ B4 tx = some (.tup [.int op.rank, .str op.sign]) := by
      cases op
      · exact ⟨t1, rfl, e1⟩
      · exact ⟨t2, rfl, e2⟩
      · exact ⟨t3, rfl, e3⟩
      · exact ⟨t4, rfl, e4⟩
    have xM : Ext [] [pd] B4 (upd B4 pd (.dK (mergeK [] [(Sum.inr "same", V.ref t1), (Sum.inr "less", .ref t2), (Sum.inr "plus", .ref t3), (Sum.inr "times", .ref t4)]))) := .mut ed (fun _ z => by cases z) (fun _ z => by cases z) (by simp)
    have npd : H pd = none := by
      have : upd H p1 (.lst [.str "rest", .str "pick"]) pd = none := hpd
      exact (Ext.new (GT := []) (M := []) hp1).fresh this
    have s4 : Same H (upd B4 pd (.dK (mergeK [] [(Sum.inr "same", V.ref t1), (Sum.inr "less", .ref t2), (Sum.inr "plus", .ref t3), (Sum.inr "times", .ref t4)]))) := same_mut xA.toSame npd _
    refine ⟨_, rfl, p, _, _, _, rfl, rfl, SqT.of (s4 _ _ hp), atI_nat (j := 0) rfl, pd, .ref tx, rfl, dget_lit upd_same hv, tx, _, rfl, SqT.of (xM.tups _ _ htx), rfl, .int op.rank, _, rfl, .str op.sign, _, rfl, rfl, ?_⟩
    have em : (if (1 : Int) > (op.rank : Int) then 1 else (op.rank : Int)) = ((if 0 < op.rank then op.rank else 1 : Nat) : Int) := by cases op <;> decide
    have eW : W ws (.bin op a b) r = if op.rank < r then ("(" : Str) ++ (W ws a (if 0 < op.rank then op.rank else 1) ++ ((" " : Str) ++ op.sign ++ (" " : Str)) ++ W ws b (op.rank + 1)) ++ (")" : Str) else W ws a (if 0 < op.rank then op.rank else 1) ++ ((" " : Str) ++ op.sign ++ (" " : Str)) ++ W ws b (op.rank + 1) := rfl
    have body : (W ws a (if 0 < op.rank then op.rank else 1) ++ ((" " : Str) ++ op.sign ++ (" " : Str)) ++ W ws b (op.rank + 1)).length ≤ (W ws (.bin op a b) r).length := by
      rw [eW]
      by_cases h : op.rank < r
      · rw [if_pos h, len_app _ (")" : Str), len_app ("(" : Str)]; omega
      · rw [if_neg h]
        exact Nat.le_refl _
    have et : W ws a (if 0 < op.rank then op.rank else 1) ++ (" " : Str) ++ op.sign ++ (" " : Str) ++ W ws b (op.rank + 1) = W ws a (if 0 < op.rank then op.rank else 1) ++ ((" " : Str) ++ op.sign ++ (" " : Str)) ++ W ws b (op.rank + 1) := by
      refine ext_tl ?_
      simp only [tl_append, List.append_assoc]
    refine ⟨_, rfl, p, _, _, _, rfl, rfl, SqT.of (s4 _ _ hp), atI_nat (j := 1) rfl, _, rfl, _, rfl, _, _, rfl, ?_⟩
    refine ⟨ya, a, pw, ws, (if 0 < op.rank then op.rank else 1), congrArg (fun z => [ya, V.ref pw, V.int z]) em, ha.same s4, oa, by omega, by omega, s4 _ _ hpw, hw, fun H5 s5 => ?_⟩
    have s6 : Same H H5 := fun b o e => s5 b o (s4 b o e)
    rw [len_app, len_app, len_app, len_app] at body
    refine ⟨_, _, rfl, rfl, L8 _ (by omega), _, rfl, _, _, rfl, rfl, L8 _ (by rw [len_app]; omega), _, _, rfl, rfl, L8 _ (by rw [len_app, len_app]; omega), ?_⟩
    refine ⟨_, rfl, p, _, _, _, rfl, rfl, SqT.of (s6 _ _ hp), atI_nat (j := 2) rfl, _, rfl, _, rfl, _, _, rfl, rfl, ?_⟩
    refine ⟨yb, b, pw, ws, op.rank + 1, rfl, hb.same s6, ob, by omega, by omega, s6 _ _ hpw, hw, fun H7 s7 => ?_⟩
    have s8 : Same H H7 := fun b o e => s7 b o (s6 b o e)
    refine ⟨_, _, rfl, rfl, L8 _ (by rw [len_app, len_app, len_app]; omega), ?_⟩
    refine ⟨_, rfl, _, rfl, _, _, rfl, rfl, _, rfl, ?_⟩
    refine iteD (fun c2 => ?_) (fun c2 => ?_)
    · have c2 : op.rank < r := Int.ofNat_lt.mp c2
      rw [if_pos c2] at eW
      have eL := Wl
      rw [eW, len_app, len_app, len_app, len_app, len_app, len_app] at eL
      refine ⟨_, rfl, _, _, rfl, rfl, L8 _ (by rw [len_app, len_app, len_app, len_app]; omega), _, _, rfl, rfl, L8 _ (by rw [len_app, len_app, len_app, len_app, len_app]; omega), ?_⟩
      rw [et, ← eW]
      exact q H7 s8
    · have c2 : ¬ op.rank < r := fun z => c2 (Int.ofNat_lt.mpr z)
      rw [if_neg c2] at eW
      refine ⟨_, rfl, ?_⟩
      rw [et, ← eW]
      exact q H7 s8
theorem ok_ltext (F : FunC K "_law_text" "_law_text" sLText f fd c) (T : Bl mg) (m : mg "_law_text" = some (.ref f)) (b : Binds K fd pLText []) (Go : Cal P w K mg base 1 "_law_offset_text" pLOffsetText spOff) : ∀ n : Nat, Cal P w K mg base (n + 1) "_law_text" pLText (spW n)
  | 0 => .mk F m b (fn_none fun vs H Q E h => by
    obtain ⟨v, t, pw, ws, r, _, _, _, h0, _⟩ := h
    have := t.deep_pos
    omega)
  | n + 1 => .mk F m b (ltext_step F T (ok_ltext F T m b Go n) Go)
end
end ML
set_option maxHeartbeats 4000000
namespace ML
open PySem PySem.Spec PyProof.Rows L2 TL Gn
theorem iteNDT {p A B : Prop} [Decidable p] (h : p) (b : B) : if (!decide p) = true then A else B := by
  rw [if_neg (by simp [h])]
  exact b
theorem iteNDF {p A B : Prop} [Decidable p] (h : ¬ p) (a : A) : if (!decide p) = true then A else B := by
  rw [if_pos (by simp [h])]
  exact a
def spTerm (GT : List Addr) (n : Nat) : Sp := fun vs H Q _ => ∃ (v : V) (t : Tm) (m k : Nat), vs = [v, .int m, .int k] ∧ DAt H v t.d ∧ t.ok m ∧ k < n ∧ Tbs GT H ∧ ∀ H', Ext GT [] H H' → Q (.bl (decide (t.deep ≤ k))) H'
section
variable {P : Program} {w : World} {K : PySem.W.Frag} {mg : Str → Option Value} {base : Heap} {f c : Addr} {fd : FuncData} {GT : List Addr} {tp : Addr}
theorem term_step {n : Nat} (F : FunC K "is_term" "is_term" sIsTerm f fd c) (T : Bl mg) (Gv : Gc K mg) (TB : LamX.TabB base mg c tp) (hP : tp ∈ GT) (G : Cal P w K mg base (2 * n + 1) "is_term" pIsTerm (spTerm GT n)) (Gn : Cal P w K mg base 1 "is_number" pIsNumber spIsNumber) :
    FnOk P w K mg base CX0 (2 * n + 3) f fd pIsTerm (spTerm GT (n + 1)) := by
  refine F.ok scIsTerm (fun vs H Q E h => ?_) (fun A outer s H vs Q E hr h => ?_)
  · obtain ⟨v, t, m, k, rfl, _⟩ := h
    rfl
  obtain ⟨v, t, m, k, rfl, ht, ok, hk, tt, q⟩ := h
  obtain ⟨apairs, hpairs, sp⟩ := Gv.pairs
  have hMOSTREACH := Gv.mostReach.choose_spec
  have hMOSTNUMBER := Gv.mostNumber.choose_spec
  refine ⟨_, pss_cons (ps_if (PW.pt (pw_or (pt_cmpR op_eq (pv 2) pe_int (nomark _)) (pw_or (pt_not (pt_val (pe_callB call_isY (by rfl) T.isinstance boot_isinstance (pa_cons (pv 0) (pa_cons (pe_bltn (v := .ty "tuple") (by rfl) T.tuple boot_tuple rfl) pa_nil))))) (pw_or (pt_not (pt_chain op_le op_le pe_int (pe_callB call_len_seq (by rfl) T.len PySem.boot_len (pa_cons (pv 0) pa_nil)) pe_int)) (pw_or1 (pt_not (pt_val (pe_callB call_isY (by rfl) T.isinstance boot_isinstance (pa_cons (pe_ix ix_tup (pv 0) pe_int (fun _ _ => rfl)) (pa_cons (pe_bltn (v := .ty "str") (by rfl) T.str boot_str rfl) pa_nil)))))))))) (pss_one (ps_ret pe_bl)) pss_nil) (pss_cons (ps_par (i := 3) (j := 4) rfl scIsTerm.nd rfl rfl (by decide) rfl rfl (pa_cons (pe_ix ix_tup (pv 0) pe_int (fun _ _ => rfl)) (pa_cons (pe_slice sl_tup (pv 0) (po_some pe_int) po_none) pa_nil)) rfl) (pss_cons (ps_if (pt_cmpR op_eq (pv 3) pe_str (nomark _)) (pss_one (ps_ret (pe_and (pe_cmpR op_eq (pe_callB call_len_seq (by rfl) T.len PySem.boot_len (pa_cons (pv 4) pa_nil)) pe_int (nomark _)) (pe_one (pe_cal Gn (hr.mono (by omega)) rfl (pa_cons (pe_ix ix_tup (pv 4) pe_int (fun _ _ => rfl)) (pa_cons (pe_un un_neg (pe_glob (v := .int 2) (by rfl) hMOSTREACH ⟨_, rfl⟩)) (pa_cons (pe_glob (v := .int 2) (by rfl) hMOSTREACH ⟨_, rfl⟩) pa_nil)))))))) pss_nil) (pss_cons (ps_if (pt_cmpR op_eq (pv 3) pe_str (nomark _)) (pss_one (ps_ret (pe_and (pe_cmpR op_eq (pe_callB call_len_seq (by rfl) T.len PySem.boot_len (pa_cons (pv 4) pa_nil)) pe_int (nomark _)) (pe_and (pe_cal Gn (hr.mono (by omega)) rfl (pa_cons (pe_ix ix_tup (pv 4) pe_int (fun _ _ => rfl)) (pa_cons pe_int (pa_cons (pe_op op_sub (pv 1) pe_int) pa_nil)))) (pe_one (pe_cal Gn (hr.mono (by omega)) rfl (pa_cons (pe_ix ix_tup (pv 4) pe_int (fun _ _ => rfl)) (pa_cons (pe_un un_neg (pe_glob (v := .int 2) (by rfl) hMOSTREACH ⟨_, rfl⟩)) (pa_cons (pe_glob (v := .int 2) (by rfl) hMOSTREACH ⟨_, rfl⟩) pa_nil))))))))) pss_nil) (pss_cons (ps_if (pt_cmpR op_eq (pv 3) pe_str (nomark _)) (pss_one (ps_ret (pe_and (pe_cmpR op_eq (pe_callB call_len_seq (by rfl) T.len PySem.boot_len (pa_cons (pv 4) pa_nil)) pe_int (nomark _)) (pe_one (pe_cal Gn (hr.mono (by omega)) rfl (pa_cons (pe_ix ix_tup (pv 4) pe_int (fun _ _ => rfl)) (pa_cons pe_int (pa_cons (pe_glob (v := .int 9) (by rfl) hMOSTNUMBER ⟨_, rfl⟩) pa_nil)))))))) pss_nil) (pss_cons (ps_if (pt_cmpR op_eq (pv 3) pe_str (nomark _)) (pss_one (ps_ret (pe_and (pe_cmpR op_eq (pe_callB call_len_seq (by rfl) T.len PySem.boot_len (pa_cons (pv 4) pa_nil)) pe_int (nomark _)) (pe_and (pe_cal G (hr.mono (by omega)) rfl (pa_cons (pe_ix ix_tup (pv 4) pe_int (fun _ _ => rfl)) (pa_cons (pv 1) (pa_cons (pe_op op_sub (pv 2) pe_int) pa_nil)))) (pe_one (pe_cal Gn (hr.mono (by omega)) rfl (pa_cons (pe_ix ix_tup (pv 4) pe_int (fun _ _ => rfl)) (pa_cons pe_int (pa_cons (pe_glob (v := .int 9) (by rfl) hMOSTNUMBER ⟨_, rfl⟩) pa_nil))))))))) pss_nil) (pss_cons (ps_if (pt_cmpR op_eq (pv 3) pe_str (nomark _)) (pss_one (ps_ret (pe_and (pe_cmpR op_eq (pe_callB call_len_seq (by rfl) T.len PySem.boot_len (pa_cons (pv 4) pa_nil)) pe_int (nomark _)) (pe_one (pe_allG (own := [("part", 5)]) (k := (2 * n + 1)) hr rfl scIsTerm.nd (by rfl) T.all TB rfl (gblk_by (N := nIsTerm) (sc := defScope sIsTerm) (by decide +kernel)) (pi_tup (pv 4)) (fun A' s' H' cl C' code bi fp hr' => pg_name (i := 5) scIsTerm.nd rfl (.inl rfl)) (fun A' s' H' cl C' code bi fp hr' => pe_cal G (hr'.mono (by omega)) rfl (pa_cons (pv 5) (pa_cons (pv 1) (pa_cons (pe_op op_sub (pv 2) pe_int) pa_nil))))))))) pss_nil) (pss_one (ps_ret (pe_and (pe_cmpR op_in_seq (pv 3) (pe_glob (v := .ref apairs) (by rfl) hpairs rfl) (by rfl)) (pe_and (pe_cmpR op_eq (pe_callB call_len_seq (by rfl) T.len PySem.boot_len (pa_cons (pv 4) pa_nil)) pe_int (nomark _)) (pe_one (pe_allG (own := [("part", 5)]) (k := (2 * n + 1)) hr rfl scIsTerm.nd (by rfl) T.all TB rfl (gblk_by (N := nIsTerm) (sc := defScope sIsTerm) (by decide +kernel)) (pi_tup (pv 4)) (fun A' s' H' cl C' code bi fp hr' => pg_name (i := 5) scIsTerm.nd rfl (.inl rfl)) (fun A' s' H' cl C' code bi fp hr' => pe_cal G (hr'.mono (by omega)) rfl (pa_cons (pv 5) (pa_cons (pv 1) (pa_cons (pe_op op_sub (pv 2) pe_int) pa_nil)))))))))))))))), ?_⟩
  by_cases k0 : k = 0
  · have e : decide (t.deep ≤ k) = false := decide_eq_false (by have := t.deep_pos; omega)
    rw [e] at q
    exact ⟨_, rfl, rfl, _, rfl, iteDT (by rw [k0]; rfl) (iteT (q H .refl))⟩
  have k1 : ¬ (V.int (k : Int) = V.int 0) := fun z => by
    injection z with z
    omega
  obtain ⟨j, rfl⟩ : ∃ j, k = j + 1 := ⟨k - 1, by omega⟩
  have ej : ((j + 1 : Nat) : Int) - 1 = (j : Int) := by omega
  cases t with
  | inn o =>
    obtain ⟨p, x, y, rfl, hp, hx, hy⟩ := DAt.tup2 ht
    have hx := hx.strI
    have hy := hy.intI
    subst hx hy
    refine ⟨_, rfl, rfl, _, rfl, iteDF k1 ?_⟩
    refine ⟨_, rfl, _, _, _, true, rfl, .tup hp, kb, _, rfl, iteF ?_⟩
    refine ⟨_, rfl, p, _, rfl, .inr (SqT.of hp), _, _, rfl, rfl, _, rfl, iteDT (by show (2 : Int) ≤ 2; decide) ?_⟩
    refine ⟨_, _, rfl, rfl, _, rfl, ?_⟩
    refine iteNDT (by show (2 : Int) ≤ 4; decide) ?_
    refine ⟨_, rfl, p, _, _, _, rfl, rfl, SqT.of hp, atI_nat (j := 0) rfl, _, _, _, true, rfl, .str _, kb, _, rfl, iteF ?_⟩
    refine ⟨_, rfl, p, _, _, _, rfl, rfl, SqT.of hp, atI_nat (j := 0) rfl, _, rfl, _, rfl, p, _, rfl, SqT.of hp, (by show ¬ (HT.sIx 2 0 (some 1) = 0 ∧ HT.sIx 2 2 none = 2); decide), fun p2 hp2 => ⟨_, _, rfl, ?_⟩⟩
    have x2 : ∀ ys : List V, Ext GT [] H (upd H p2 (.tup ys)) := fun ys => .new hp2
    refine ⟨_, rfl, rfl, _, rfl, iteDT rfl ?_⟩
    refine ⟨_, rfl, p2, _, rfl, .inr (SqT.of upd_same), rfl, _, rfl, iteDT rfl ?_⟩
    have e : decide (-2 ≤ o ∧ o ≤ 2) = decide ((Tm.inn o).deep ≤ j + 1) := by
      rw [decide_eq_true (show -2 ≤ o ∧ o ≤ 2 from ok), decide_eq_true (show (Tm.inn o).deep ≤ j + 1 from Nat.succ_le_succ (Nat.zero_le _))]
    refine ⟨_, rfl, p2, _, _, _, rfl, rfl, SqT.of upd_same, atI_nat (j := 0) rfl, _, rfl, o, -2, 2, rfl, ?_⟩
    rw [e]
    exact q _ (x2 _)
  | ofn i o =>
    obtain ⟨p, x, y, z, rfl, hp, hx, hy, hz⟩ := DAt.tup3 ht
    have hx := hx.strI
    have hy := hy.intI
    have hz := hz.intI
    subst hx hy hz
    obtain ⟨ok1, ok2⟩ := ok
    refine ⟨_, rfl, rfl, _, rfl, iteDF k1 ?_⟩
    refine ⟨_, rfl, _, _, _, true, rfl, .tup hp, kb, _, rfl, iteF ?_⟩
    refine ⟨_, rfl, p, _, rfl, .inr (SqT.of hp), _, _, rfl, rfl, _, rfl, iteDT (by show (2 : Int) ≤ 3; decide) ?_⟩
    refine ⟨_, _, rfl, rfl, _, rfl, ?_⟩
    refine iteNDT (by show (3 : Int) ≤ 4; decide) ?_
    refine ⟨_, rfl, p, _, _, _, rfl, rfl, SqT.of hp, atI_nat (j := 0) rfl, _, _, _, true, rfl, .str _, kb, _, rfl, iteF ?_⟩
    refine ⟨_, rfl, p, _, _, _, rfl, rfl, SqT.of hp, atI_nat (j := 0) rfl, _, rfl, _, rfl, p, _, rfl, SqT.of hp, (by show ¬ (HT.sIx 3 0 (some 1) = 0 ∧ HT.sIx 3 3 none = 3); decide), fun p2 hp2 => ⟨_, _, rfl, ?_⟩⟩
    have x2 : ∀ ys : List V, Ext GT [] H (upd H p2 (.tup ys)) := fun ys => .new hp2
    refine ⟨_, rfl, rfl, _, rfl, iteDF (by decide +kernel) ?_⟩
    refine ⟨_, rfl, rfl, _, rfl, iteDT rfl ?_⟩
    refine ⟨_, rfl, p2, _, rfl, .inr (SqT.of upd_same), rfl, _, rfl, iteDT rfl ?_⟩
    refine ⟨_, rfl, p2, _, _, _, rfl, rfl, SqT.of upd_same, atI_nat (j := 0) rfl, _, rfl, _, _, rfl, rfl, (i : Int), 0, (m : Int) - 1, rfl, ?_⟩
    rw [decide_eq_true (show (0 : Int) ≤ i ∧ (i : Int) ≤ m - 1 by omega)]
    refine ⟨_, rfl, iteT ?_⟩
    have e : decide (-2 ≤ o ∧ o ≤ 2) = decide ((Tm.ofn i o).deep ≤ j + 1) := by
      rw [decide_eq_true ok2, decide_eq_true (show (Tm.ofn i o).deep ≤ j + 1 from Nat.succ_le_succ (Nat.zero_le _))]
    refine ⟨_, rfl, p2, _, _, _, rfl, rfl, SqT.of upd_same, atI_nat (j := 1) rfl, _, rfl, o, -2, 2, rfl, ?_⟩
    rw [e]
    exact q _ (x2 _)
  | isc c0 =>
    obtain ⟨p, x, y, rfl, hp, hx, hy⟩ := DAt.tup2 ht
    have hx := hx.strI
    have hy := hy.intI
    subst hx hy
    have ok : c0 ≤ 9 := ok
    refine ⟨_, rfl, rfl, _, rfl, iteDF k1 ?_⟩
    refine ⟨_, rfl, _, _, _, true, rfl, .tup hp, kb, _, rfl, iteF ?_⟩
    refine ⟨_, rfl, p, _, rfl, .inr (SqT.of hp), _, _, rfl, rfl, _, rfl, iteDT (by show (2 : Int) ≤ 2; decide) ?_⟩
    refine ⟨_, _, rfl, rfl, _, rfl, ?_⟩
    refine iteNDT (by show (2 : Int) ≤ 4; decide) ?_
    refine ⟨_, rfl, p, _, _, _, rfl, rfl, SqT.of hp, atI_nat (j := 0) rfl, _, _, _, true, rfl, .str _, kb, _, rfl, iteF ?_⟩
    refine ⟨_, rfl, p, _, _, _, rfl, rfl, SqT.of hp, atI_nat (j := 0) rfl, _, rfl, _, rfl, p, _, rfl, SqT.of hp, (by show ¬ (HT.sIx 2 0 (some 1) = 0 ∧ HT.sIx 2 2 none = 2); decide), fun p2 hp2 => ⟨_, _, rfl, ?_⟩⟩
    have x2 : ∀ ys : List V, Ext GT [] H (upd H p2 (.tup ys)) := fun ys => .new hp2
    refine ⟨_, rfl, rfl, _, rfl, iteDF (by decide +kernel) ?_⟩
    refine ⟨_, rfl, rfl, _, rfl, iteDF (by decide +kernel) ?_⟩
    refine ⟨_, rfl, rfl, _, rfl, iteDT rfl ?_⟩
    refine ⟨_, rfl, p2, _, rfl, .inr (SqT.of upd_same), rfl, _, rfl, iteDT rfl ?_⟩
    have e : decide ((0 : Int) ≤ c0 ∧ (c0 : Int) ≤ 9) = decide ((Tm.isc c0).deep ≤ j + 1) := by
      rw [decide_eq_true (show (0 : Int) ≤ c0 ∧ (c0 : Int) ≤ 9 by omega), decide_eq_true (show (Tm.isc c0).deep ≤ j + 1 from Nat.succ_le_succ (Nat.zero_le _))]
    refine ⟨_, rfl, p2, _, _, _, rfl, rfl, SqT.of upd_same, atI_nat (j := 0) rfl, c0, 0, 9, rfl, ?_⟩
    rw [e]
    exact q _ (x2 _)
  | rst a c0 =>
    obtain ⟨p, x, y, z, rfl, hp, hx, hy, hz⟩ := DAt.tup3 ht
    have hx := hx.strI
    have hz := hz.intI
    subst hx hz
    obtain ⟨oa, ok1, ok2⟩ := ok
    have dd : (Tm.rst a c0).deep = a.deep + 1 := rfl
    rw [dd] at q
    refine ⟨_, rfl, rfl, _, rfl, iteDF k1 ?_⟩
    refine ⟨_, rfl, _, _, _, true, rfl, .tup hp, kb, _, rfl, iteF ?_⟩
    refine ⟨_, rfl, p, _, rfl, .inr (SqT.of hp), _, _, rfl, rfl, _, rfl, iteDT (by show (2 : Int) ≤ 3; decide) ?_⟩
    refine ⟨_, _, rfl, rfl, _, rfl, ?_⟩
    refine iteNDT (by show (3 : Int) ≤ 4; decide) ?_
    refine ⟨_, rfl, p, _, _, _, rfl, rfl, SqT.of hp, atI_nat (j := 0) rfl, _, _, _, true, rfl, .str _, kb, _, rfl, iteF ?_⟩
    refine ⟨_, rfl, p, _, _, _, rfl, rfl, SqT.of hp, atI_nat (j := 0) rfl, _, rfl, _, rfl, p, _, rfl, SqT.of hp, (by show ¬ (HT.sIx 3 0 (some 1) = 0 ∧ HT.sIx 3 3 none = 3); decide), fun p2 hp2 => ⟨_, _, rfl, ?_⟩⟩
    have x2 : ∀ ys : List V, Ext GT [] H (upd H p2 (.tup ys)) := fun ys => .new hp2
    refine ⟨_, rfl, rfl, _, rfl, iteDF (by decide +kernel) ?_⟩
    refine ⟨_, rfl, rfl, _, rfl, iteDF (by decide +kernel) ?_⟩
    refine ⟨_, rfl, rfl, _, rfl, iteDF (by decide +kernel) ?_⟩
    refine ⟨_, rfl, rfl, _, rfl, iteDT rfl ?_⟩
    refine ⟨_, rfl, p2, _, rfl, .inr (SqT.of upd_same), rfl, _, rfl, iteDT rfl ?_⟩
    refine ⟨_, rfl, p2, _, _, _, rfl, rfl, SqT.of upd_same, atI_nat (j := 0) rfl, _, rfl, _, rfl, _, _, rfl, rfl, ?_⟩
    refine ⟨y, a, m, j, congrArg (fun z => [y, V.int m, V.int z]) ej, hy.ext (x2 _), oa, by omega, tt.ext (x2 _), fun H3 x3 => ?_⟩
    refine ⟨_, rfl, ?_⟩
    refine iteD (fun c => ?_) (fun c => ?_)
    · refine ⟨_, rfl, p2, _, _, _, rfl, rfl, SqT.of (x3.tups _ _ upd_same), atI_nat (j := 1) rfl, c0, 1, 9, rfl, ?_⟩
      rw [decide_eq_true (show (1 : Int) ≤ c0 ∧ (c0 : Int) ≤ 9 by omega)]
      rw [decide_eq_true (by omega)] at q
      exact q _ ((x2 _).trans x3)
    · rw [decide_eq_false (by omega)] at q
      exact q _ ((x2 _).trans x3)
  | pck a b d =>
    obtain ⟨p, x, ya, yb, yc, rfl, hp, hx, ha, hb, hc⟩ := DAt.tup4 ht
    have hx := hx.strI
    subst hx
    obtain ⟨oa, ob, oc⟩ := ok
    have dd : (Tm.pck a b d).deep = max a.deep (max b.deep d.deep) + 1 := rfl
    rw [dd] at q
    have AA : ∀ (i : Nat) (x : V), [ya, yb, yc][i]? = some x → ∃ t : Tm, [a, b, d][i]? = some t ∧ DAt H x t.d ∧ t.ok m := by
      intro i x e
      rcases get3 e with ⟨rfl, rfl⟩ | ⟨rfl, rfl⟩ | ⟨rfl, rfl⟩
      · exact ⟨a, rfl, ha, oa⟩
      · exact ⟨b, rfl, hb, ob⟩
      · exact ⟨d, rfl, hc, oc⟩
    refine ⟨_, rfl, rfl, _, rfl, iteDF k1 ?_⟩
    refine ⟨_, rfl, _, _, _, true, rfl, .tup hp, kb, _, rfl, iteF ?_⟩
    refine ⟨_, rfl, p, _, rfl, .inr (SqT.of hp), _, _, rfl, rfl, _, rfl, iteDT (by show (2 : Int) ≤ 4; decide) ?_⟩
    refine ⟨_, _, rfl, rfl, _, rfl, ?_⟩
    refine iteNDT (by show (4 : Int) ≤ 4; decide) ?_
    refine ⟨_, rfl, p, _, _, _, rfl, rfl, SqT.of hp, atI_nat (j := 0) rfl, _, _, _, true, rfl, .str _, kb, _, rfl, iteF ?_⟩
    refine ⟨_, rfl, p, _, _, _, rfl, rfl, SqT.of hp, atI_nat (j := 0) rfl, _, rfl, _, rfl, p, _, rfl, SqT.of hp, (by show ¬ (HT.sIx 4 0 (some 1) = 0 ∧ HT.sIx 4 4 none = 4); decide), fun p2 hp2 => ⟨_, _, rfl, ?_⟩⟩
    have x2 : ∀ ys : List V, Ext GT [] H (upd H p2 (.tup ys)) := fun ys => .new hp2
    refine ⟨_, rfl, rfl, _, rfl, iteDF (by decide +kernel) ?_⟩
    refine ⟨_, rfl, rfl, _, rfl, iteDF (by decide +kernel) ?_⟩
    refine ⟨_, rfl, rfl, _, rfl, iteDF (by decide +kernel) ?_⟩
    refine ⟨_, rfl, rfl, _, rfl, iteDF (by decide +kernel) ?_⟩
    refine ⟨_, rfl, rfl, _, rfl, iteDT rfl ?_⟩
    refine ⟨_, rfl, p2, _, rfl, .inr (SqT.of upd_same), rfl, _, rfl, iteDT rfl ?_⟩
    refine ⟨_, rfl, p2, rfl, ⟨_, SqT.of upd_same⟩, ?_⟩
    have tt2 := tt.ext (x2 [ya, yb, yc])
    refine allG_tup (xs := [ya, yb, yc]) (fun i H' => Ext GT [] H H' ∧ H' p2 = some (.tup [ya, yb, yc]) ∧ ∀ t ∈ [a, b, d].take i, t.deep ≤ j) (tt2 tp hP) (fun H2 htb => ⟨(x2 _).trans (Ext.tabbed htb (tt2 tp hP) hP), (Ext.tabbed (M := []) htb (tt2 tp hP) hP).tups _ _ upd_same, by simp⟩) (fun i H' hi hv => SqT.of hv.2.1) (fun x => rfl) (fun i x H' hi hv => ?_) (fun H' hv => ?_)
    · obtain ⟨t, ht, hxt, tok⟩ := AA i x hi
      obtain ⟨xv, hpv, hall⟩ := hv
      refine ⟨_, rfl, _, rfl, _, rfl, _, _, rfl, rfl, ?_⟩
      refine ⟨x, t, m, j, congrArg (fun z => [x, V.int m, V.int z]) ej, hxt.ext xv, tok, by omega, tt.ext xv, fun H3 x3 => ?_⟩
      refine ⟨_, rfl, ?_⟩
      refine iteD (fun c => ⟨xv.trans x3, x3.tups _ _ hpv, ?_⟩) (fun c => ?_)
      · intro u hu
        rw [List.take_add_one, ht] at hu
        rcases List.mem_append.mp hu with z | z
        · exact hall u z
        · rw [List.mem_singleton.mp z]
          exact c
      · have hm : t = a ∨ t = b ∨ t = d := by simpa using List.mem_of_getElem? ht
        rw [decide_eq_false (by rcases hm with rfl | rfl | rfl <;> omega)] at q
        exact q _ (xv.trans x3)
    · obtain ⟨xv, hpv, hall⟩ := hv
      have h1 := hall a (by simp)
      have h2 := hall b (by simp)
      have h3 := hall d (by simp)
      rw [decide_eq_true (by omega)] at q
      exact q _ xv
  | bin op a b =>
    obtain ⟨p, x, ya, yb, rfl, hp, hx, ha, hb⟩ := DAt.tup3 ht
    have hx := hx.strI
    subst hx
    obtain ⟨oa, ob⟩ := ok
    have wne : op.word ≠ "in" ∧ op.word ≠ "of" ∧ op.word ≠ "is" ∧ op.word ≠ "rest" ∧ op.word ≠ "pick" := by cases op <;> decide +kernel
    obtain ⟨w1, w2, w3, w4, w5⟩ := wne
    have vne : ∀ {s : Str}, op.word ≠ s → ¬ (V.str op.word = V.str s) := fun h z => h (by injection z)
    have dd : (Tm.bin op a b).deep = max a.deep b.deep + 1 := rfl
    rw [dd] at q
    have AA : ∀ (i : Nat) (x : V), [ya, yb][i]? = some x → ∃ t : Tm, [a, b][i]? = some t ∧ DAt H x t.d ∧ t.ok m := by
      intro i x e
      rcases get2 e with ⟨rfl, rfl⟩ | ⟨rfl, rfl⟩
      · exact ⟨a, rfl, ha, oa⟩
      · exact ⟨b, rfl, hb, ob⟩
    refine ⟨_, rfl, rfl, _, rfl, iteDF k1 ?_⟩
    refine ⟨_, rfl, _, _, _, true, rfl, .tup hp, kb, _, rfl, iteF ?_⟩
    refine ⟨_, rfl, p, _, rfl, .inr (SqT.of hp), _, _, rfl, rfl, _, rfl, iteDT (by show (2 : Int) ≤ 3; decide) ?_⟩
    refine ⟨_, _, rfl, rfl, _, rfl, ?_⟩
    refine iteNDT (by show (3 : Int) ≤ 4; decide) ?_
    refine ⟨_, rfl, p, _, _, _, rfl, rfl, SqT.of hp, atI_nat (j := 0) rfl, _, _, _, true, rfl, .str _, kb, _, rfl, iteF ?_⟩
    refine ⟨_, rfl, p, _, _, _, rfl, rfl, SqT.of hp, atI_nat (j := 0) rfl, _, rfl, _, rfl, p, _, rfl, SqT.of hp, (by show ¬ (HT.sIx 3 0 (some 1) = 0 ∧ HT.sIx 3 3 none = 3); decide), fun p2 hp2 => ⟨_, _, rfl, ?_⟩⟩
    have x2 : ∀ ys : List V, Ext GT [] H (upd H p2 (.tup ys)) := fun ys => .new hp2
    refine ⟨_, rfl, rfl, _, rfl, iteDF (vne w1) ?_⟩
    refine ⟨_, rfl, rfl, _, rfl, iteDF (vne w2) ?_⟩
    refine ⟨_, rfl, rfl, _, rfl, iteDF (vne w3) ?_⟩
    refine ⟨_, rfl, rfl, _, rfl, iteDF (vne w4) ?_⟩
    refine ⟨_, rfl, rfl, _, rfl, iteDF (vne w5) ?_⟩
    refine ⟨_, rfl, apairs, _, rfl, .inr (sp _), rfl, by cases op <;> decide +kernel, _, rfl, ?_⟩
    rw [show inV (V.str op.word) [V.str "plus", V.str "times", V.str "same", V.str "less"] = true by cases op <;> decide +kernel]
    refine iteT ?_
    refine ⟨_, rfl, p2, _, rfl, .inr (SqT.of upd_same), rfl, _, rfl, iteDT rfl ?_⟩
    refine ⟨_, rfl, p2, rfl, ⟨_, SqT.of upd_same⟩, ?_⟩
    have tt2 := tt.ext (x2 [ya, yb])
    refine allG_tup (xs := [ya, yb]) (fun i H' => Ext GT [] H H' ∧ H' p2 = some (.tup [ya, yb]) ∧ ∀ t ∈ [a, b].take i, t.deep ≤ j) (tt2 tp hP) (fun H2 htb => ⟨(x2 _).trans (Ext.tabbed htb (tt2 tp hP) hP), (Ext.tabbed (M := []) htb (tt2 tp hP) hP).tups _ _ upd_same, by simp⟩) (fun i H' hi hv => SqT.of hv.2.1) (fun x => rfl) (fun i x H' hi hv => ?_) (fun H' hv => ?_)
    · obtain ⟨t, ht, hxt, tok⟩ := AA i x hi
      obtain ⟨xv, hpv, hall⟩ := hv
      refine ⟨_, rfl, _, rfl, _, rfl, _, _, rfl, rfl, ?_⟩
      refine ⟨x, t, m, j, congrArg (fun z => [x, V.int m, V.int z]) ej, hxt.ext xv, tok, by omega, tt.ext xv, fun H3 x3 => ?_⟩
      refine ⟨_, rfl, ?_⟩
      refine iteD (fun c => ⟨xv.trans x3, x3.tups _ _ hpv, ?_⟩) (fun c => ?_)
      · intro u hu
        rw [List.take_add_one, ht] at hu
        rcases List.mem_append.mp hu with z | z
        · exact hall u z
        · rw [List.mem_singleton.mp z]
          exact c
      · have hm : t = a ∨ t = b := by simpa using List.mem_of_getElem? ht
        rw [decide_eq_false (by rcases hm with rfl | rfl <;> omega)] at q
        exact q _ (xv.trans x3)
    · obtain ⟨xv, hpv, hall⟩ := hv
      have h1 := hall a (by simp)
      have h2 := hall b (by simp)
      rw [decide_eq_true (by omega)] at q
      exact q _ xv
theorem ok_term (F : FunC K "is_term" "is_term" sIsTerm f fd c) (T : Bl mg) (Gv : Gc K mg) (TB : LamX.TabB base mg c tp) (hP : tp ∈ GT) (mo : mg "is_term" = some (.ref f)) (b : Binds K fd pIsTerm []) (Gn : Cal P w K mg base 1 "is_number" pIsNumber spIsNumber) :
    ∀ n : Nat, Cal P w K mg base (2 * n + 1) "is_term" pIsTerm (spTerm GT n)
  | 0 => .mk F mo b (fn_none fun vs H Q E h => by
    obtain ⟨v, t, m, k, _, _, _, h0, _⟩ := h
    omega)
  | n + 1 => .mk F mo b (term_step F T Gv TB hP (ok_term F T Gv TB hP mo b Gn n) Gn)
end
end ML
set_option maxHeartbeats 4000000
namespace ML
open PySem PySem.Spec PyProof.Rows L2 TL Gn
theorem test_q {t : TE} {σ : L2.St} {H : Hp} {Qb : Bool → Hp → Prop} (h : ∀ Q' : VK, (∀ b H', Qb b H' → Q' (.bl b) H') → t σ H Q') : tTest t σ H Qb := h _ fun b H' q => ⟨b, rfl, q⟩
theorem not_q {t : TE} {σ : L2.St} {H : Hp} {Qb : Bool → Hp → Prop} (h : ∀ Q' : VK, (∀ b H', Qb (!b) H' → Q' (.bl b) H') → t σ H Q') : tNot (tTest t) σ H Qb := h _ fun b H' q => ⟨b, rfl, q⟩
theorem cut_from {xs : List V} {k : Nat} : cutV xs (some (k : Int)) none = xs.drop k := by
  unfold cutV
  rw [HT.sIx_nat, HT.sIx_none]
  by_cases h : k ≤ xs.length
  · rw [Nat.min_eq_left h, List.take_of_length_le (by rw [List.length_drop]; exact Nat.le_refl _)]
  · rw [Nat.min_eq_right (by omega), List.drop_length, List.drop_eq_nil_of_le (by omega)]
    simp
theorem cut_to {xs : List V} {k : Nat} : cutV xs none (some (k : Int)) = xs.take k := by
  unfold cutV
  rw [HT.sIx_nat, HT.sIx_none]
  by_cases h : k ≤ xs.length
  · rw [Nat.min_eq_left h]
    simp
  · rw [Nat.min_eq_right (by omega)]
    rw [Nat.sub_zero, List.drop_zero, List.take_length, List.take_of_length_le (by omega)]
def namesD (ns : List (Nat × Nat)) : D := .tup (ns.map fun n => .tup [.int n.1, .int n.2])
def toldD (l : List Nat) : D := .tup (l.map fun (i : Nat) => .int i)
def eqsD (es : List (Tm × Tm)) : D := .tup (es.map fun e => .tup [e.1.d, e.2.d])
structure NamesOk (ns : List (Nat × Nat)) : Prop where
  pos : 1 ≤ ns.length
  few : ns.length ≤ 3
  each : ∀ n ∈ ns, 2 ≤ n.1 ∧ n.1 ≤ 3 ∧ n.2 < n.1
structure ToldOk (n : Nat) (l : List Nat) : Prop where
  pos : l ≠ []
  each : ∀ i ∈ l, i < n
  ris : l.Pairwise (· < ·)
  few : l.length ≤ 3
def eqsOk (n : Nat) (es : List (Tm × Tm)) : Prop := ∀ e ∈ es, e.1.ok n ∧ e.2.ok n
structure Mill.ok (m : Mill) : Prop where
  letters : 1 ≤ m.letters ∧ m.letters ≤ 3
  names : NamesOk m.names
  told : ToldOk m.names.length m.told
  eqs : eqsOk m.names.length m.eqs
  few : m.eqs.length ≤ 6
  deep : ∀ e ∈ m.eqs, e.1.deep ≤ 5 ∧ e.2.deep ≤ 5
def spNames : Sp := fun vs H Q _ => ∃ v ns, vs = [v] ∧ DAt H v (namesD ns) ∧ NamesOk ns ∧ Q (.bl true) H
def spTold (GT : List Addr) : Sp := fun vs H Q _ => ∃ v l n, vs = [v, .int (n : Nat)] ∧ DAt H v (toldD l) ∧ ToldOk n l ∧ Tbs GT H ∧ ∀ H', Ext GT [] H H' → Q (.bl true) H'
def spEqs (GT : List Addr) : Sp := fun vs H Q _ => ∃ v es n, vs = [v, .int (n : Nat)] ∧ DAt H v (eqsD es) ∧ eqsOk n es ∧ es.length ≤ 6 ∧ Tbs GT H ∧ ∀ H', Ext GT [] H H' → Q (.bl (decide (∀ e ∈ es, e.1.deep ≤ 5 ∧ e.2.deep ≤ 5))) H'
def spNeedMill (GT : List Addr) : Sp := fun vs H Q _ => ∃ (v : V) (m : Mill), vs = [v] ∧ DAt H v m.d ∧ m.ok ∧ Tbs GT H ∧ ∀ H', Ext GT [] H H' → Q .non H'
section
variable {P : Program} {w : World} {K : PySem.W.Frag} {mg : Str → Option Value} {base : Heap} {f c : Addr} {fd : FuncData} {GT : List Addr} {tp : Addr}
theorem ok_areNames (F : FunC K "are_names" "are_names" sAreNames f fd c) (T : Bl mg) (Gv : Gc K mg) (Gn : Cal P w K mg base 1 "is_number" pIsNumber spIsNumber) : FnOk P w K mg base CX0 2 f fd pAreNames spNames := by
  refine F.ok scAreNames (fun vs H Q E h => ?_) (fun A outer s H vs Q E hr h => ?_)
  · obtain ⟨v, ns, rfl, _⟩ := h
    rfl
  obtain ⟨v, ns, rfl, hv, ok, q⟩ := h
  have hMOSTNAMES := Gv.mostNames.choose_spec
  have hLEASTVALUES := Gv.leastValues.choose_spec
  have hMOSTVALUES := Gv.mostValues.choose_spec
  refine ⟨_, pss_cons (ps_if (PW.pt (pw_or (pt_not (pt_val (pe_callB call_isY (by rfl) T.isinstance boot_isinstance (pa_cons (pv 0) (pa_cons (pe_bltn (v := .ty "tuple") (by rfl) T.tuple boot_tuple rfl) pa_nil))))) (pw_or1 (pt_not (pt_chain op_le op_le pe_int (pe_callB call_len_seq (by rfl) T.len PySem.boot_len (pa_cons (pv 0) pa_nil)) (pe_glob (v := .int 3) (by rfl) hMOSTNAMES ⟨_, rfl⟩)))))) (pss_one (ps_ret pe_bl)) pss_nil) (pss_cons (ps_for PassesOwn.never rfl (pi_tup (pv 0)) (pg_name (i := 1) scAreNames.nd rfl (.inl rfl)) (pss_cons (ps_if (PW.pt (pw_or (pt_not (pt_val (pe_callB call_isY (by rfl) T.isinstance boot_isinstance (pa_cons (pv 1) (pa_cons (pe_bltn (v := .ty "tuple") (by rfl) T.tuple boot_tuple rfl) pa_nil))))) (pw_or (pt_cmpR op_ne (pe_callB call_len_seq (by rfl) T.len PySem.boot_len (pa_cons (pv 1) pa_nil)) pe_int (nomark _)) (pw_or1 (pt_not (pt_val (pe_cal Gn (hr.mono (by omega)) rfl (pa_cons (pe_ix ix_tup (pv 1) pe_int (fun _ _ => rfl)) (pa_cons (pe_glob (v := .int 2) (by rfl) hLEASTVALUES ⟨_, rfl⟩) (pa_cons (pe_glob (v := .int 3) (by rfl) hMOSTVALUES ⟨_, rfl⟩) pa_nil)))))))))) (pss_one (ps_ret pe_bl)) pss_nil) (pss_one (ps_if (pt_not (pt_val (pe_cal Gn (hr.mono (by omega)) rfl (pa_cons (pe_ix ix_tup (pv 1) pe_int (fun _ _ => rfl)) (pa_cons pe_int (pa_cons (pe_op op_sub (pe_ix ix_tup (pv 1) pe_int (fun _ _ => rfl)) pe_int) pa_nil)))))) (pss_one (ps_ret pe_bl)) pss_nil)))) (pss_one (ps_ret pe_bl))), ?_⟩
  obtain ⟨p, xs, rfl, hp, ax⟩ := DAt.all hv
  have hl : xs.length = ns.length := by rw [ax.1, List.length_map]
  have h1 := ok.pos
  have h2 := ok.few
  refine ⟨_, rfl, _, _, _, true, rfl, .tup hp, kb, _, rfl, iteF ?_⟩
  refine ⟨_, rfl, p, _, rfl, .inr (SqT.of hp), _, _, rfl, rfl, _, rfl, iteDT (by omega) ?_⟩
  refine ⟨_, _, rfl, rfl, _, rfl, ?_⟩
  refine iteNDT (by omega) ?_
  refine ⟨_, rfl, p, rfl, ⟨_, SqT.of hp⟩, ?_⟩
  refine for_tup (xs := xs) (fun i σ H' => H' = H ∧ ∃ y, σ = [some (.ref p), y]) ⟨rfl, none, rfl⟩ (fun i σ H' hi hv => by rw [hv.1]; exact SqT.of hp) (fun i x σ H' hi hv => ?_) (fun σ H' hv => ?_)
  · obtain ⟨rfl, y, rfl⟩ := hv
    obtain ⟨d, hd, hx⟩ := ax.get hi
    rw [List.getElem?_map] at hd
    obtain ⟨n, hn, rfl⟩ := Option.map_eq_some_iff.mp hd
    obtain ⟨a1, a2, a3⟩ := ok.each n (List.mem_of_getElem? hn)
    obtain ⟨px, u, v, rfl, hpx, hu, hv⟩ := DAt.tup2 hx
    have hu := hu.intI
    have hv := hv.intI
    subst hu hv
    refine ⟨_, rfl, _, _, _, true, rfl, .tup hpx, kb, _, rfl, iteF ?_⟩
    refine ⟨_, rfl, px, _, rfl, .inr (SqT.of hpx), rfl, _, rfl, iteNDT rfl ?_⟩
    refine ⟨_, rfl, px, _, _, _, rfl, rfl, SqT.of hpx, atI_nat (j := 0) rfl, n.1, 2, 3, rfl, ?_⟩
    rw [decide_eq_true (show (2 : Int) ≤ n.1 ∧ (n.1 : Int) ≤ 3 by omega)]
    refine ⟨_, rfl, iteF ?_⟩
    refine ⟨_, rfl, px, _, _, _, rfl, rfl, SqT.of hpx, atI_nat (j := 1) rfl, _, rfl, px, _, _, _, rfl, rfl, SqT.of hpx, atI_nat (j := 0) rfl, _, _, rfl, rfl, n.2, 0, n.1 - 1, rfl, ?_⟩
    rw [decide_eq_true (show (0 : Int) ≤ n.2 ∧ (n.2 : Int) ≤ n.1 - 1 by omega)]
    refine ⟨_, rfl, iteF ?_⟩
    exact ⟨rfl, _, rfl⟩
  · obtain ⟨rfl, y, rfl⟩ := hv
    exact q
theorem ok_areTold (F : FunC K "are_told" "are_told" sAreTold f fd c) (T : Bl mg) (TB : LamX.TabB base mg c tp) (hP : tp ∈ GT) (Gn : Cal P w K mg base 1 "is_number" pIsNumber spIsNumber) : FnOk P w K mg base CX0 3 f fd pAreTold (spTold GT) := by
  refine F.ok scAreTold (fun vs H Q E h => ?_) (fun A outer s H vs Q E hr h => ?_)
  · obtain ⟨v, l, n, rfl, _⟩ := h
    rfl
  obtain ⟨v, l, n, rfl, hv, ok, tt, q⟩ := h
  refine ⟨_, pss_cons (ps_if (PW.pt (pw_or (pt_not (pt_val (pe_callB call_isY (by rfl) T.isinstance boot_isinstance (pa_cons (pv 0) (pa_cons (pe_bltn (v := .ty "tuple") (by rfl) T.tuple boot_tuple rfl) pa_nil))))) (pw_or (pt_not (pt_truth (pv 0) (by intro _; rfl))) (pw_or1 (pt_not (pt_val (pe_allG (own := [("name", 2)]) (k := 1) hr rfl scAreTold.nd (by rfl) T.all TB rfl (gblk_by (N := nAreTold) (sc := defScope sAreTold) (by decide +kernel)) (pi_tup (pv 0)) (fun A' s' H' cl C' code bi fp hr' => pg_name (i := 2) scAreTold.nd rfl (.inl rfl)) (fun A' s' H' cl C' code bi fp hr' => pe_cal Gn (hr'.mono (by omega)) rfl (pa_cons (pv 2) (pa_cons pe_int (pa_cons (pe_op op_sub (pv 1) pe_int) pa_nil))))))))))) (pss_one (ps_ret pe_bl)) pss_nil) (pss_one (ps_ret (pe_allG (own := [("one", 3), ("other", 4)]) (g := gTup K 2 (gCons (gName 3) (gCons (gName 4) gNil))) (k := 1) hr rfl scAreTold.nd (by rfl) T.all TB rfl (gblk_by (N := nAreTold) (sc := defScope sAreTold) (by decide +kernel)) (RZ.pi_zipA (by rfl) T.zip (pa_cons (pv 0) (pa_cons (pe_slice sl_tup (pv 0) (po_some pe_int) po_none) pa_nil))) (fun A' s' H' cl C' code bi fp hr' => pg_tup rfl (pgs_cons (pg_name (i := 3) scAreTold.nd rfl (.inl rfl)) (pgs_cons (pg_name (i := 4) scAreTold.nd rfl (.inl rfl)) pgs_nil))) (fun A' s' H' cl C' code bi fp hr' => pe_cmpR op_lt (pv 3) (pv 4) (nomark _))))), ?_⟩
  obtain ⟨p, xs, rfl, hp, ax⟩ := DAt.all hv
  have ex : xs = l.map fun (i : Nat) => V.int i := by
    have := allD_intI (zs := l.map fun (i : Nat) => (i : Int)) (H := H) (xs := xs) (by rw [List.map_map]; exact ax)
    rw [this, List.map_map]
    rfl
  subst ex
  have hl : (l.map fun (i : Nat) => V.int i).length = l.length := List.length_map _
  have hne : 1 ≤ l.length := by
    cases e : l with
    | nil => exact absurd e ok.pos
    | cons a r => exact Nat.succ_le_succ (Nat.zero_le _)
  refine ⟨_, rfl, _, _, _, true, rfl, .tup hp, kb, _, rfl, iteF ?_⟩
  refine ⟨_, rfl, true, .inr (.inl ⟨_, SqT.of hp, ?_⟩), iteF ?_⟩
  · cases l with
    | nil => exact absurd rfl ok.pos
    | cons a r => rfl
  refine not_q fun Q' hQ => ?_
  refine ⟨_, rfl, p, rfl, ⟨_, SqT.of hp⟩, ?_⟩
  refine allG_tup (xs := l.map fun (i : Nat) => V.int i) (fun i H' => Ext GT [] H H') (tt tp hP) (fun H2 htb => Ext.tabbed htb (tt tp hP) hP) (fun i H' hi hv => SqT.of (hv.tups _ _ hp)) (fun x => by rfl) (fun i x H' hi hv => ?_) (fun H1 x1 => ?_)
  · rw [List.getElem?_map] at hi
    obtain ⟨a, ha, rfl⟩ := Option.map_eq_some_iff.mp hi
    have hlt := ok.each a (List.mem_of_getElem? ha)
    refine ⟨_, rfl, _, rfl, _, _, rfl, rfl, a, 0, (n : Int) - 1, rfl, ?_⟩
    rw [decide_eq_true (show (0 : Int) ≤ a ∧ (a : Int) ≤ n - 1 by omega)]
    exact ⟨_, rfl, hv⟩
  refine hQ _ _ ?_
  refine ⟨_, rfl, _, rfl, _, rfl, p, _, rfl, SqT.of (x1.tups _ _ hp), ?_, fun p2 hp2 => ?_⟩
  · intro z
    have z1 : HT.sIx (l.map fun (i : Nat) => V.int i).length 0 (some ((1 : Nat) : Int)) = 0 := z.1
    rw [HT.sIx_nat, hl] at z1
    omega
  have ec : cutV (l.map fun (i : Nat) => V.int i) (some 1) none = (l.drop 1).map fun (i : Nat) => V.int i := by
    rw [show (some (1 : Int)) = some ((1 : Nat) : Int) from rfl, cut_from, List.map_drop]
  rw [ec]
  have xA : Ext GT [] H (upd H1 p2 (.tup ((l.drop 1).map fun (i : Nat) => V.int i))) := x1.trans (.new hp2)
  have ttA := tt.ext xA
  have sP : SqT K (upd H1 p2 (.tup ((l.drop 1).map fun (i : Nat) => V.int i))) p (l.map fun (i : Nat) => V.int i) := SqT.of (xA.tups _ _ hp)
  refine ⟨p, p2, _, _, rfl, .inr ⟨sP, SqT.of upd_same, ?_⟩⟩
  refine allG_zipT (xs := l.map fun (i : Nat) => V.int i) (ys := (l.drop 1).map fun (i : Nat) => V.int i) (fun i H' => Ext GT [] H H' ∧ H' p2 = some (.tup ((l.drop 1).map fun (i : Nat) => V.int i))) (ttA tp hP)
    (fun H2 htb => ⟨xA.trans (Ext.tabbed htb (ttA tp hP) hP), (Ext.tabbed (M := []) htb (ttA tp hP) hP).tups _ _ upd_same⟩) (fun i H' hi hv => ⟨SqT.of (hv.1.tups _ _ hp), SqT.of hv.2⟩) (by rw [List.length_map, List.length_map, List.length_drop]; omega) (fun x y => rfl)
    (fun i H' T o hv hn => ⟨hv.1.trans (.new hn), by rw [upd_ne (ne_of_none hv.2 hn)]; exact hv.2⟩) (fun i x y H' hx hy hv => ?_) (fun H' hv => q H' hv.1)
  rw [List.getElem?_map] at hx hy
  obtain ⟨a, ha, rfl⟩ := Option.map_eq_some_iff.mp hx
  obtain ⟨b, hb, rfl⟩ := Option.map_eq_some_iff.mp hy
  rw [List.getElem?_drop] at hb
  have hlt : a < b := by
    obtain ⟨h1, e1⟩ := List.getElem?_eq_some_iff.mp ha
    obtain ⟨h2, e2⟩ := List.getElem?_eq_some_iff.mp hb
    rw [← e1, ← e2]
    exact List.pairwise_iff_getElem.mp ok.ris _ _ h1 h2 (by omega)
  refine ⟨_, rfl, _, rfl, _, _, rfl, rfl, _, rfl, iteDT (by omega) hv⟩
theorem ok_areEqs (F : FunC K "are_equations" "are_equations" sAreEquations f fd c) (T : Bl mg) (Gv : Gc K mg) (TB : LamX.TabB base mg c tp) (hP : tp ∈ GT) (G : Cal P w K mg base 13 "is_term" pIsTerm (spTerm GT 6)) : FnOk P w K mg base CX0 15 f fd pAreEquations (spEqs GT) := by
  refine F.ok scAreEquations (fun vs H Q E h => ?_) (fun A outer s H vs Q E hr h => ?_)
  · obtain ⟨v, l, n, rfl, _⟩ := h
    rfl
  obtain ⟨v, es, n, rfl, hv, ok, few, tt, q⟩ := h
  have hMOSTEQUATIONS := Gv.mostEquations.choose_spec
  have hMOSTDEPTH := Gv.mostDepth.choose_spec
  refine ⟨_, pss_cons (ps_if (PW.pt (pw_or (pt_not (pt_val (pe_callB call_isY (by rfl) T.isinstance boot_isinstance (pa_cons (pv 0) (pa_cons (pe_bltn (v := .ty "tuple") (by rfl) T.tuple boot_tuple rfl) pa_nil))))) (pw_or1 (pt_cmpR op_gt (pe_callB call_len_seq (by rfl) T.len PySem.boot_len (pa_cons (pv 0) pa_nil)) (pe_glob (v := .int 6) (by rfl) hMOSTEQUATIONS ⟨_, rfl⟩) (nomark _))))) (pss_one (ps_ret pe_bl)) pss_nil) (pss_cons (ps_for PassesOwn.never rfl (pi_tup (pv 0)) (pg_name (i := 2) scAreEquations.nd rfl (.inl rfl)) (pss_one (ps_if (PW.pt (pw_or (pt_not (pt_val (pe_callB call_isY (by rfl) T.isinstance boot_isinstance (pa_cons (pv 2) (pa_cons (pe_bltn (v := .ty "tuple") (by rfl) T.tuple boot_tuple rfl) pa_nil))))) (pw_or (pt_cmpR op_ne (pe_callB call_len_seq (by rfl) T.len PySem.boot_len (pa_cons (pv 2) pa_nil)) pe_int (nomark _)) (pw_or1 (pt_not (pt_val (pe_allG (own := [("term", 3)]) (k := 13) hr rfl scAreEquations.nd (by rfl) T.all TB rfl (gblk_by (N := nAreEquations) (sc := defScope sAreEquations) (by decide +kernel)) (pi_tup (pv 2)) (fun A' s' H' cl C' code bi fp hr' => pg_name (i := 3) scAreEquations.nd rfl (.inl rfl)) (fun A' s' H' cl C' code bi fp hr' => pe_cal G hr' rfl (pa_cons (pv 3) (pa_cons (pv 1) (pa_cons (pe_glob (v := .int 5) (by rfl) hMOSTDEPTH ⟨_, rfl⟩) pa_nil))))))))))) (pss_one (ps_ret pe_bl)) pss_nil))) (pss_one (ps_ret pe_bl))), ?_⟩
  obtain ⟨p, xs, rfl, hp, ax⟩ := DAt.all hv
  have hl : xs.length = es.length := by rw [ax.1, List.length_map]
  refine ⟨_, rfl, _, _, _, true, rfl, .tup hp, kb, _, rfl, iteF ?_⟩
  refine ⟨_, rfl, p, _, rfl, .inr (SqT.of hp), _, _, rfl, rfl, _, rfl, iteDF (by omega) ?_⟩
  refine ⟨_, rfl, p, rfl, ⟨_, SqT.of hp⟩, ?_⟩
  refine for_tup (xs := xs) (fun i σ H' => Ext GT [] H H' ∧ (∃ y z, σ = [some (.ref p), some (.int n), y, z]) ∧ ∀ e ∈ es.take i, e.1.deep ≤ 5 ∧ e.2.deep ≤ 5) ⟨.refl, ⟨none, none, rfl⟩, by simp⟩ (fun i σ H' hi hv => SqT.of (hv.1.tups _ _ hp)) (fun i x σ H' hi hv => ?_) (fun σ H' hv => ?_)
  · obtain ⟨x1, ⟨y, z, rfl⟩, hall⟩ := hv
    obtain ⟨d, hd, hx⟩ := ax.get hi
    rw [List.getElem?_map] at hd
    obtain ⟨e, he, rfl⟩ := Option.map_eq_some_iff.mp hd
    obtain ⟨oa, ob⟩ := ok e (List.mem_of_getElem? he)
    obtain ⟨px, u, v, rfl, hpx, hu, hv⟩ := DAt.tup2 hx
    have hpx1 := x1.tups _ _ hpx
    refine ⟨_, rfl, _, _, _, true, rfl, .tup hpx1, kb, _, rfl, iteF ?_⟩
    refine ⟨_, rfl, px, _, rfl, .inr (SqT.of hpx1), rfl, _, rfl, iteNDT rfl ?_⟩
    refine not_q fun Q' hQ => ?_
    refine ⟨_, rfl, px, rfl, ⟨_, SqT.of hpx1⟩, ?_⟩
    have tt1 := tt.ext x1
    have AA : ∀ (i : Nat) (x : V), [u, v][i]? = some x → ∃ t : Tm, [e.1, e.2][i]? = some t ∧ DAt H x t.d ∧ t.ok n := by
      intro i x h
      rcases get2 h with ⟨rfl, rfl⟩ | ⟨rfl, rfl⟩
      · exact ⟨e.1, rfl, hu, oa⟩
      · exact ⟨e.2, rfl, hv, ob⟩
    refine allG_tup (xs := [u, v]) (fun i H2 => Ext GT [] H H2 ∧ ∀ t ∈ [e.1, e.2].take i, t.deep ≤ 5) (tt1 tp hP) (fun H2 htb => ⟨x1.trans (Ext.tabbed htb (tt1 tp hP) hP), by simp⟩) (fun i H2 hi hv => SqT.of (hv.1.tups _ _ hpx)) (fun x => by rfl) (fun k x H2 hk hv => ?_) (fun H2 hv => ?_)
    · obtain ⟨t, ht, hxt, tok⟩ := AA k x hk
      obtain ⟨x2, h5⟩ := hv
      refine ⟨_, rfl, _, rfl, x, t, n, 5, rfl, hxt.ext x2, tok, by decide, tt.ext x2, fun H3 x3 => ?_⟩
      refine ⟨_, rfl, ?_⟩
      refine iteD (fun c => ⟨x2.trans x3, ?_⟩) (fun c => ?_)
      · intro s hs
        rw [List.take_add_one, ht] at hs
        rcases List.mem_append.mp hs with z | z
        · exact h5 s z
        · rw [List.mem_singleton.mp z]
          exact c
      · refine hQ _ _ (iteT ?_)
        have hm : t = e.1 ∨ t = e.2 := by simpa using List.mem_of_getElem? ht
        rw [decide_eq_false (fun h => c (by
          have := h e (List.mem_of_getElem? he)
          rcases hm with rfl | rfl
          · exact this.1
          · exact this.2))] at q
        exact q _ (x2.trans x3)
    · obtain ⟨x2, h5⟩ := hv
      refine hQ _ _ (iteF ⟨x2, ⟨_, _, rfl⟩, ?_⟩)
      intro e' he'
      rw [List.take_add_one, he] at he'
      rcases List.mem_append.mp he' with z | z
      · exact hall e' z
      · rw [List.mem_singleton.mp z]
        exact ⟨h5 _ (by simp), h5 _ (by simp)⟩
  · obtain ⟨x1, ⟨y, z, rfl⟩, hall⟩ := hv
    rw [hl, List.take_length] at hall
    rw [decide_eq_true hall] at q
    exact q _ x1
theorem ok_needMill (F : FunC K "need_mill" "need_mill" sNeedMill f fd c) (T : Bl mg) (Gv : Gc K mg) (Gn : Cal P w K mg base 1 "is_number" pIsNumber spIsNumber) (G1 : Cal P w K mg base 2 "are_names" pAreNames spNames)
    (G2 : Cal P w K mg base 3 "are_told" pAreTold (spTold GT)) (G3 : Cal P w K mg base 15 "are_equations" pAreEquations (spEqs GT)) : FnOk P w K mg base CX0 16 f fd pNeedMill (spNeedMill GT) := by
  refine F.ok scNeedMill (fun vs H Q E h => ?_) (fun A outer s H vs Q E hr h => ?_)
  · obtain ⟨v, m, rfl, _⟩ := h
    rfl
  obtain ⟨v, m, rfl, hv, ok, tt, q⟩ := h
  have hMOSTLETTERS := Gv.mostLetters.choose_spec
  refine ⟨_, pss_cons (ps_if (PW.pt (pw_or (pt_not (pt_val (pe_callB call_isY (by rfl) T.isinstance boot_isinstance (pa_cons (pv 0) (pa_cons (pe_bltn (v := .ty "tuple") (by rfl) T.tuple boot_tuple rfl) pa_nil))))) (pw_or1 (pt_cmpR op_ne (pe_callB call_len_seq (by rfl) T.len PySem.boot_len (pa_cons (pv 0) pa_nil)) pe_int (nomark _))))) (pss_one ps_never) pss_nil) (pss_cons (ps_asg (pv 0) (pg_tup rfl (pgs_cons (pg_name (i := 1) scNeedMill.nd rfl (.inl rfl)) (pgs_cons (pg_name (i := 2) scNeedMill.nd rfl (.inl rfl)) (pgs_cons (pg_name (i := 3) scNeedMill.nd rfl (.inl rfl)) (pgs_cons (pg_name (i := 4) scNeedMill.nd rfl (.inl rfl)) pgs_nil)))))) (pss_cons (ps_if (pt_not (pt_val (pe_cal Gn (hr.mono (by omega)) rfl (pa_cons (pv 1) (pa_cons pe_int (pa_cons (pe_glob (v := .int 3) (by rfl) hMOSTLETTERS ⟨_, rfl⟩) pa_nil)))))) (pss_one ps_never) pss_nil) (pss_cons (ps_if (pt_not (pt_val (pe_cal G1 (hr.mono (by omega)) rfl (pa_cons (pv 2) pa_nil)))) (pss_one ps_never) pss_nil) (pss_cons (ps_if (pt_not (pt_val (pe_cal G2 (hr.mono (by omega)) rfl (pa_cons (pv 3) (pa_cons (pe_callB call_len_seq (by rfl) T.len PySem.boot_len (pa_cons (pv 2) pa_nil)) pa_nil))))) (pss_one ps_never) pss_nil) (pss_one (ps_if (pt_not (pt_val (pe_cal G3 (hr.mono (by omega)) rfl (pa_cons (pv 4) (pa_cons (pe_callB call_len_seq (by rfl) T.len PySem.boot_len (pa_cons (pv 2) pa_nil)) pa_nil))))) (pss_one ps_never) pss_nil)))))), ?_⟩
  obtain ⟨p, a, b, d, e, rfl, hp, ha, hb, hd, he⟩ := DAt.tup4 hv
  have ha := ha.intI
  subst ha
  obtain ⟨l1, l2⟩ := ok.letters
  refine ⟨_, rfl, _, _, _, true, rfl, .tup hp, kb, _, rfl, iteF ?_⟩
  refine ⟨_, rfl, p, _, rfl, .inr (SqT.of hp), rfl, _, rfl, iteNDT rfl ?_⟩
  refine ⟨_, rfl, p, _, rfl, SqT.of hp, rfl, _, _, rfl, b, _, rfl, d, _, rfl, e, _, rfl, rfl, ?_⟩
  refine ⟨_, rfl, m.letters, 1, 3, rfl, ?_⟩
  rw [decide_eq_true (show (1 : Int) ≤ m.letters ∧ (m.letters : Int) ≤ 3 by omega)]
  refine ⟨_, rfl, iteF ?_⟩
  refine ⟨_, rfl, b, m.names, rfl, hb, ok.names, _, rfl, iteF ?_⟩
  obtain ⟨pb, xb, rfl, hpb, ab⟩ := DAt.all hb
  have elb : xb.length = m.names.length := by rw [ab.1, List.length_map]
  refine ⟨_, rfl, _, rfl, pb, _, rfl, .inr (SqT.of hpb), ?_⟩
  refine ⟨d, m.told, m.names.length, by rw [elb]; rfl, hd, ok.told, tt, fun H1 x1 => ?_⟩
  refine ⟨_, rfl, iteF ?_⟩
  refine ⟨_, rfl, _, rfl, pb, _, rfl, .inr (SqT.of (x1.tups _ _ hpb)), ?_⟩
  refine ⟨e, m.eqs, m.names.length, by rw [elb]; rfl, he.ext x1, ok.eqs, ok.few, tt.ext x1, fun H2 x2 => ?_⟩
  rw [decide_eq_true ok.deep]
  exact ⟨_, rfl, iteF (q _ (x1.trans x2))⟩
end
end ML
set_option maxHeartbeats 4000000
namespace ML
open PySem PySem.Spec PyProof.Rows L2 TL Gn
/-! ### signs of a line, in plain -/
theorem tk0 : tl "==" = [61, 61] := by decide
theorem tk1 : tl "<" = [60] := by decide
theorem tk2 : tl "+" = [43] := by decide
theorem tk3 : tl "*" = [42] := by decide
theorem tk4 : tl "(" = [40] := by decide
theorem tk5 : tl ")" = [41] := by decide
theorem tk6 : tl "," = [44] := by decide
theorem tk7 : tl "@+" = [64, 43] := by decide
theorem tk8 : tl "@-" = [64, 45] := by decide
theorem tk9 : tl "=" = [61] := by decide
theorem signAt_app {l : List Nat} {s : Str} {r : List Nat} (h : signAt l = some (s, r)) : l = tl s ++ r ∧ 1 ≤ s.length ∧ s.length ≤ 2 := by
  unfold signAt at h
  split at h
  all_goals first
    | (simp only [Option.some.injEq, Prod.mk.injEq] at h
       obtain ⟨rfl, rfl⟩ := h
       refine ⟨?_, by decide, by decide⟩
       simp only [tk0, tk1, tk2, tk3, tk4, tk5, tk6, tk7, tk8, tk9, List.cons_append, List.nil_append])
    | cases h
theorem signAt_len {l : List Nat} {s : Str} {r : List Nat} (h : signAt l = some (s, r)) : r.length < l.length := by
  obtain ⟨e, h1, _⟩ := signAt_app h
  rw [e, List.length_append, ← len_tl]
  omega
theorem takeW_split (l : List Nat) : l = l.takeWhile alnum ++ l.dropWhile alnum := (List.takeWhile_append_dropWhile).symm
theorem dropW_len {l : List Nat} (h : l.takeWhile alnum ≠ []) : (l.dropWhile alnum).length < l.length := by
  have e := congrArg List.length (takeW_split l)
  rw [List.length_append] at e
  cases e2 : l.takeWhile alnum with
  | nil => exact absurd e2 h
  | cons a r =>
    rw [e2] at e
    simp only [List.length_cons] at e
    omega
theorem signsN_fuel : ∀ (n m : Nat) (l : List Nat), l.length ≤ n → l.length ≤ m → signsN n l = signsN m l
  | n, m, [], _, _ => by cases n <;> cases m <;> rfl
  | 0, _, _ :: _, h, _ => by simp at h
  | _, 0, _ :: _, _, h => by simp at h
  | n + 1, m + 1, c :: r, h1, h2 => by
    unfold signsN
    have h1 : r.length ≤ n := Nat.le_of_succ_le_succ h1
    have h2 : r.length ≤ m := Nat.le_of_succ_le_succ h2
    split
    · exact signsN_fuel n m r h1 h2
    · cases e : signAt (c :: r) with
      | some x =>
        obtain ⟨s, r'⟩ := x
        have := signAt_len e
        simp only [List.length_cons] at this
        simp only
        rw [signsN_fuel n m r' (by omega) (by omega)]
      | none =>
        simp only
        split
        · rfl
        · rename_i h
          have := dropW_len h
          simp only [List.length_cons] at this
          rw [signsN_fuel n m _ (by omega) (by omega)]
theorem sg_nil : signsF [] = some [] := rfl
theorem sg_sp {r : List Nat} : signsF (32 :: r) = signsF r := by
  unfold signsF
  rw [show (32 :: r).length = r.length + 1 from rfl]
  conv => lhs; unfold signsN
  rw [if_pos rfl]
theorem sg_at {c : Nat} {r r' : List Nat} {s : Str} (hc : c ≠ 32) (h : signAt (c :: r) = some (s, r')) : signsF (c :: r) = (signsF r').map (s :: ·) := by
  unfold signsF
  rw [show (c :: r).length = r.length + 1 from rfl]
  conv => lhs; unfold signsN
  rw [if_neg hc, h]
  simp only
  have := signAt_len h
  simp only [List.length_cons] at this
  rw [signsN_fuel r.length r'.length r' (by omega) (Nat.le_refl _)]
theorem sg_bad {c : Nat} {r : List Nat} (hc : c ≠ 32) (h : signAt (c :: r) = none) (hw : (c :: r).takeWhile alnum = []) : signsF (c :: r) = none := by
  unfold signsF
  rw [show (c :: r).length = r.length + 1 from rfl]
  conv => lhs; unfold signsN
  rw [if_neg hc, h]
  simp only
  rw [if_pos hw]
theorem sg_word {c : Nat} {r : List Nat} (hc : c ≠ 32) (h : signAt (c :: r) = none) (hw : (c :: r).takeWhile alnum ≠ []) : signsF (c :: r) = (signsF ((c :: r).dropWhile alnum)).map (S ((c :: r).takeWhile alnum) :: ·) := by
  unfold signsF
  rw [show (c :: r).length = r.length + 1 from rfl]
  conv => lhs; unfold signsN
  rw [if_neg hc, h]
  simp only
  rw [if_neg hw]
  have := dropW_len hw
  simp only [List.length_cons] at this
  rw [signsN_fuel r.length _ _ (by omega) (Nat.le_refl _)]
/-- the first sign of either list of signs -/
abbrev sgA : List Str := ["==", "<", "+", "*", "(", ")", ",", "@+", "@-", "="]
abbrev sgB : List Str := ["==", "@+", "@-", "=", "<", "+", "*", "(", ")", ","]
def pre (l : List Nat) (s : Str) : Bool := (tl s).isPrefixOf l
theorem pre_nil : ∀ s ∈ sgA, pre [] s = false := by decide
theorem pre0 {l : List Nat} {s : Str} : pre l s = (tl s).isPrefixOf l := rfl
theorem head_of {l : List Nat} : (sgA.filter (pre l)).head? = (signAt l).map (·.1) ∧ (sgB.filter (pre l)).head? = (signAt l).map (·.1) := by
  match l with
  | [] => exact ⟨by decide, by decide⟩
  | c :: r =>
    by_cases h1 : c = 61
    · subst h1
      by_cases h2 : ∃ r', r = 61 :: r'
      · obtain ⟨r', rfl⟩ := h2
        constructor <;> simp [List.filter, pre0, tk0, tk1, tk2, tk3, tk4, tk5, tk6, tk7, tk8, tk9, List.isPrefixOf, signAt]
      · have e : signAt (61 :: r) = some (("=" : Str), r) := by
          unfold signAt
          split <;> simp_all
        have e2 : [61].isPrefixOf r = false := by
          cases r with
          | nil => rfl
          | cons d r => simp [List.isPrefixOf]; exact fun z => h2 ⟨r, by rw [← z]⟩
        rw [e]
        constructor <;> simp [List.filter, pre0, tk0, tk1, tk2, tk3, tk4, tk5, tk6, tk7, tk8, tk9, List.isPrefixOf, e2]
    by_cases h2 : c = 64
    · subst h2
      by_cases h3 : ∃ r', r = 43 :: r'
      · obtain ⟨r', rfl⟩ := h3
        constructor <;> simp [List.filter, pre0, tk0, tk1, tk2, tk3, tk4, tk5, tk6, tk7, tk8, tk9, List.isPrefixOf, signAt]
      by_cases h4 : ∃ r', r = 45 :: r'
      · obtain ⟨r', rfl⟩ := h4
        constructor <;> simp [List.filter, pre0, tk0, tk1, tk2, tk3, tk4, tk5, tk6, tk7, tk8, tk9, List.isPrefixOf, signAt]
      · have e : signAt (64 :: r) = none := by
          unfold signAt
          split <;> simp_all
        have e2 : [43].isPrefixOf r = false := by
          cases r with
          | nil => rfl
          | cons d r => simp [List.isPrefixOf]; exact fun z => h3 ⟨r, by rw [← z]⟩
        have e3 : [45].isPrefixOf r = false := by
          cases r with
          | nil => rfl
          | cons d r => simp [List.isPrefixOf]; exact fun z => h4 ⟨r, by rw [← z]⟩
        rw [e]
        constructor <;> simp [List.filter, pre0, tk0, tk1, tk2, tk3, tk4, tk5, tk6, tk7, tk8, tk9, List.isPrefixOf, e2, e3]
    by_cases h : c = 60 ∨ c = 43 ∨ c = 42 ∨ c = 40 ∨ c = 41 ∨ c = 44
    · rcases h with rfl | rfl | rfl | rfl | rfl | rfl <;> constructor <;> simp [List.filter, pre0, tk0, tk1, tk2, tk3, tk4, tk5, tk6, tk7, tk8, tk9, List.isPrefixOf, signAt]
    · simp only [not_or] at h
      obtain ⟨h3, h4, h5, h6, h7, h8⟩ := h
      have e : signAt (c :: r) = none := by
        unfold signAt
        split <;> simp_all
      rw [e]
      have n : ∀ {k : Nat}, c ≠ k → (k == c) = false := fun h => by simp [Ne.symm h]
      constructor <;> simp [List.filter, pre0, tk0, tk1, tk2, tk3, tk4, tk5, tk6, tk7, tk8, tk9, List.isPrefixOf, n h1, n h2, n h3, n h4, n h5, n h6, n h7, n h8]
theorem sw3 {z y : Str} {k : Nat} (hk : k ≤ z.length) : Txt.startswith3 z y k = pre ((tl z).drop k) y := by
  have e1 : PySem.fromIndex z.length k = k := by
    unfold PySem.fromIndex
    rw [if_neg (by omega)]
    omega
  unfold Txt.startswith3 pre
  rw [e1, StrLaws.subAt_eq]
  rw [Bool.eq_iff_iff, Bool.and_eq_true, decide_eq_true_iff, beq_iff_eq, List.isPrefixOf_iff_prefix, List.prefix_iff_eq_take, ← len_tl]
  constructor
  · rintro ⟨_, h⟩
    exact h.symm
  · intro h
    refine ⟨?_, h.symm⟩
    have := congrArg List.length h
    rw [List.length_take, List.length_drop, ← len_tl, ← len_tl] at this
    omega
end ML
set_option maxHeartbeats 4000000
namespace ML
open PySem PySem.Spec PyProof.Rows L2 TL Gn
/-! ### rules within a block, the ground's share by its name -/
section
variable {X : Cx} {K : PySem.W.Frag}
theorem ix_tupK (hK : X.K = K := by rfl) : IxR X (rIxT K) := hK ▸ ix_tup
theorem ix_listK (hK : X.K = K := by rfl) : IxR X (rIxL K) := hK ▸ ix_list
theorem sl_tupK (hK : X.K = K := by rfl) : SlR X (rSlT K) := hK ▸ sl_tup
theorem sl_tupAK (hK : X.K = K := by rfl) : SlR X (rSlA K) := hK ▸ sl_tupA
theorem sl_listK (hK : X.K = K := by rfl) : SlR X (rSlL K) := hK ▸ sl_list
theorem op_in_seqK (hK : X.K = K := by rfl) : OpR X (compareOp .In) (rIn K false) := hK ▸ op_in_seq
theorem op_notIn_seqK (hK : X.K = K := by rfl) : OpR X (compareOp .NotIn) (rIn K true) := hK ▸ op_notIn_seq
theorem call_len_seqK (hK : X.K = K := by rfl) : CallR X (.builtin "len") (fun xs H Q => ∃ p ys, xs = [.ref p] ∧ (SqL K H p ys ∨ SqT K H p ys) ∧ Q (.int ys.length) H) := hK ▸ call_len_seq
theorem mt_tup_indexK (hK : X.K = K := by rfl) : MtR X "tuple.index" (fun x xs H Q => ∃ p, ∃ ys : List Str, ∃ z j, x = .ref p ∧ xs = [.str z] ∧ SqT K H p (ys.map V.str) ∧ ys[j]? = some z ∧ (∀ m, m < j → ys[m]? ≠ some z) ∧ Q (.int (j : Nat)) H) := hK ▸ mt_tup_index
theorem mt_indexK (hK : X.K = K := by rfl) : MtR X "list.index" (rIndex K) := hK ▸ mt_index
theorem pe_bmK {T id : String} {name : Str} {r : V → List V → Hp → VK → Prop} {o e : Expr} {es : List Expr} {apos cpos : Pos} {to : TE} {t : TA} (pa : PlainAttrs T) (slot : Slot T name id) (hty : typeOf (.builtin id) = pure (.type "method_descriptor")) (hm : MtR X id r) (ho : PE X o to) (ha : PA X (e :: es) t)
    (hbase : attributeBase o name X.env (eval o X.env) = eval o X.env := by rfl)
    (hfew : ((backTo cpos (starEach (e :: es) X.env)).all (fun x => !x.1) && (backToKw cpos (keywordEach [] X.env)).all (fun x => x.1.isSome)
      && decide ((e :: es).length + ([] : List Keyword).length + (if ([] : List Keyword).isEmpty then 0 else 1) < 30)) = true := by rfl)
    (hline : (apos.endLine == cpos.line) = true := by rfl) (hs : starEach (e :: es) X.env = (false, eval e X.env) :: starEach es X.env := by rfl) (hplain : (backTo cpos (starEach es X.env)).any (·.1) = false := by rfl) (hK : X.K = K := by rfl) :
    PE X (.Call (.Attribute o name apos) (e :: es) [] cpos) (tBM K T r to t) := hK ▸ pe_bm pa slot hty hm ho ha hbase hfew hline hs hplain
end
end ML
set_option maxHeartbeats 4000000
namespace ML
open PySem PySem.Spec PyProof.Rows L2 TL Gn
/-- the signs of a line, or None -/
def spSigns : Sp := fun vs H Q _ => ∃ z : Str, vs = [.str z] ∧ z.length ≤ 100000 ∧ okS z ∧ (signsF (tl z) = none → ∀ H', Ext [] [] H H' → Q .non H') ∧
  ∀ ss, signsF (tl z) = some ss → ∀ H' p, Ext [] [] H H' → H p = none → H' p = some (.lst (ss.map V.str)) → Q (.ref p) H'
theorem sp_eq : (" " : Str) = ⟨#[32]⟩ := by decide +kernel
theorem tw_get {p : Nat → Bool} : ∀ (l : List Nat) (j c : Nat), l[j]? = some c → (j < (l.takeWhile p).length → p c = true) ∧ (j = (l.takeWhile p).length → p c = false)
  | [], j, c, h => by simp at h
  | a :: r, 0, c, h => by
    cases h
    rw [List.takeWhile_cons]
    cases hp : p a <;> simp [hp]
  | a :: r, j + 1, c, h => by
    have ih := tw_get (p := p) r j c h
    rw [List.takeWhile_cons]
    cases hp : p a with
    | false => simp
    | true =>
      simp only [if_true, List.length_cons]
      exact ⟨fun h => ih.1 (by omega), fun h => ih.2 (by omega)⟩
theorem tw_le {p : Nat → Bool} (l : List Nat) : (l.takeWhile p).length ≤ l.length := List.Sublist.length_le (List.takeWhile_sublist p)
theorem tw_take {p : Nat → Bool} (l : List Nat) : l.take (l.takeWhile p).length = l.takeWhile p := by
  have e := congrArg (List.take (l.takeWhile p).length) (List.takeWhile_append_dropWhile (p := p) (l := l)).symm
  rw [List.take_left'] at e
  · exact e
  · rfl
theorem tw_drop {p : Nat → Bool} (l : List Nat) : l.drop (l.takeWhile p).length = l.dropWhile p := by
  have e := congrArg (List.drop (l.takeWhile p).length) (List.takeWhile_append_dropWhile (p := p) (l := l)).symm
  rw [List.drop_left'] at e
  · exact e
  · rfl
theorem cutS_mid {z : Str} {k j : Nat} (h : k + j ≤ z.length) : cutS z (some (k : Int)) (some ((k + j : Nat) : Int)) = S (((tl z).drop k).take j) := by
  unfold cutS
  rw [HT.sIx_nat, HT.sIx_nat, Nat.min_eq_left h, Nat.min_eq_left (show k ≤ z.length by omega), Nat.add_sub_cancel_left]
theorem cutS_from {z : Str} {k : Nat} : cutS z (some (k : Int)) none = S ((tl z).drop k) := by
  unfold cutS
  rw [HT.sIx_nat, HT.sIx_none]
  by_cases h : k ≤ z.length
  · rw [Nat.min_eq_left h, List.take_of_length_le (by rw [List.length_drop]; exact Nat.le_of_eq (by rw [show z.cps.toList = tl z from rfl, ← len_tl]))]
  · rw [Nat.min_eq_right (by omega), show (tl z).drop k = [] from List.drop_eq_nil_of_le (by rw [← len_tl]; omega)]
    simp
theorem cutS_to {z : Str} {k : Nat} : cutS z none (some (k : Int)) = S ((tl z).take k) := by
  unfold cutS
  rw [HT.sIx_nat, HT.sIx_none]
  by_cases h : k ≤ z.length
  · rw [Nat.min_eq_left h]
    rfl
  · rw [Nat.min_eq_right (by omega), show (tl z).take k = tl z from List.take_of_length_le (by rw [← len_tl]; omega)]
    show S ((tl z).take (z.length - 0)) = S (tl z)
    rw [Nat.sub_zero, len_tl, List.take_length]
theorem cut_pre {y s : Str} : decide (V.str (cutS y none (some (s.length : Int))) = V.str s) = pre (tl y) s := by
  rw [cutS_to, Bool.eq_iff_iff, decide_eq_true_iff]
  unfold pre
  rw [List.isPrefixOf_iff_prefix, List.prefix_iff_eq_take, ← len_tl]
  constructor
  · intro h
    injection h with h
    exact (congrArg tl h).symm
  · intro h
    rw [← h, S_tl]
theorem filt_step {as : List Str} {p : Str → Bool} {a : Str} {i : Nat} {ds : List D} (h : as[i]? = some a) (e : ds = ((as.take i).filter p).map D.str) : (p a = true → ds ++ [D.str a] = ((as.take (i + 1)).filter p).map D.str) ∧ (p a = false → ds = ((as.take (i + 1)).filter p).map D.str) := by
  rw [List.take_add_one, h, e]
  constructor
  · intro h
    simp [h]
  · intro h
    simp [h]
section
variable {P : Program} {w : World} {K : PySem.W.Frag} {mg : Str → Option Value} {base : Heap} {f c : Addr} {fd : FuncData}
theorem ok_signs (F : FunC K "signs_of" "signs_of" sSignsOf f fd c) (T : Bl mg) (Gv : Gc K mg) : FnOk P w K mg base CX0 1 f fd pSignsOf spSigns := by
  refine F.ok scSignsOf (fun vs H Q E h => ?_) (fun A outer s H vs Q E hr h => ?_)
  · obtain ⟨z, rfl, _⟩ := h
    rfl
  obtain ⟨z, rfl, hz, okz, qn, qs⟩ := h
  obtain ⟨asigns, hsigns, ss⟩ := Gv.signs
  have hsm := Gv.small.choose_spec
  refine ⟨_, pss_cons (ps_asg (pe_tup (pa_cons (pe_lst pa_nil) (pa_cons pe_int pa_nil))) (pg_tup rfl (pgs_cons (pg_name (i := 1) scSignsOf.nd rfl (.inl rfl)) (pgs_cons (pg_name (i := 2) scSignsOf.nd rfl (.inr rfl)) pgs_nil)))) (pss_cons (ps_while PassesOwn.never (pt_cmpR op_lt (pv 2) (pe_callB call_len_str (by rfl) T.len PySem.boot_len (pa_cons (pv 0) pa_nil)) (nomark _)) (pss_cons (ps_if (pt_cmpR op_eq (pe_item_str (pv 0) (pv 2) (fun _ _ => rfl)) pe_str (nomark _)) (pss_cons (ps_aug (i := 2) scSignsOf.nd rfl (.inr rfl) pe_int ip_add) (pss_one ps_continue)) pss_nil) (pss_cons (ps_setLc (i := 3) (own := [("sign", 5)]) rfl scSignsOf.nd rfl rfl (by rfl) (pi_tup (pe_glob (v := .ref asigns) (by rfl) hsigns rfl)) (blkOk_by (own := [("sign", 5)]) (N := nSignsOf) (sc := defScope sSignsOf) (by decide +kernel)) (fun _ _ _ _ _ => pg_name (i := 5) scSignsOf.nd rfl (.inl rfl)) (fun _ _ _ _ _ => pts_one (pt_val (pe_bmK (K := K) PySem.F.plainAttrs_str PySem.F.slot_str_startswith PySem.F.type_str_startswith mt_startswith3 (pv 0) (pa_cons (pv 5) (pa_cons (pv 2) pa_nil))))) (fun _ _ _ _ _ => (pv 5))) (pss_cons (ps_if (pt_truth (pv 3) (by intro _; rfl)) (pss_one (ps_expr (pe_bm PySem.F.plainAttrs_list PySem.F.slot_list_append PySem.F.type_list_append mt_append (pv 1) (pa_cons (pe_ix ix_list (pv 3) pe_int (fun _ _ => rfl)) pa_nil)))) (pss_cons (ps_set (i := 4) scSignsOf.nd rfl (.inl rfl) (pv 2)) (pss_cons (ps_while PassesOwn.never (PW.pt (pw_and (pt_cmpR op_lt (pv 4) (pe_callB call_len_str (by rfl) T.len PySem.boot_len (pa_cons (pv 0) pa_nil)) (nomark _)) (pw_and1 (pt_cmpR op_in_sign (pe_item_str (pv 0) (pv 4) (fun _ _ => rfl)) (pe_op op_add_str (pe_glob (v := .str "abcdefghijklmnopqrstuvwxyz") (by rfl) hsm ⟨_, rfl⟩) pe_str) (by rfl))))) (pss_one (ps_aug (i := 4) scSignsOf.nd rfl (.inl rfl) pe_int ip_add))) (pss_cons (ps_if (pt_cmpR op_eq (pv 4) (pv 2) (nomark _)) (pss_one (ps_ret pe_non)) pss_nil) (pss_one (ps_expr (pe_bm PySem.F.plainAttrs_list PySem.F.slot_list_append PySem.F.type_list_append mt_append (pv 1) (pa_cons (pe_slice sl_str (pv 0) (po_some (pv 2)) (po_some (pv 4))) pa_nil)))))))) (pss_one (ps_aug (i := 2) scSignsOf.nd rfl (.inr rfl) (pe_callB call_len_str (by rfl) T.len PySem.boot_len (pa_cons (pe_ix ix_list (pv 1) (pe_un un_neg pe_int) (fun _ _ => rfl)) pa_nil)) ip_add)))))) (pss_one (ps_ret (pv 1)))), ?_⟩
  refine ⟨(by show 0 ≤ sizeLine; decide), fun pf hpf => ⟨(by show 2 ≤ sizeLine; decide), fun pt hpt => ?_⟩⟩
  refine ⟨pt, _, rfl, SqT.of upd_same, rfl, .ref pf, _, rfl, .int 0, _, rfl, rfl, ?_⟩
  have npt : pf ≠ pt := ne_of_none (o := .lst []) upd_same hpt
  refine ⟨fun m σ' H' => ∃ (ss0 : List Str) (k : Nat) (a b : Option V), σ' = [some (.str z), some (.ref pf), some (.int k), a, b, none] ∧ m = z.length - k ∧ k ≤ z.length ∧ Ext [] [] H H' ∧ H' pf = some (.lst (ss0.map V.str)) ∧
    signsF (tl z) = (signsF ((tl z).drop k)).map (ss0 ++ ·) ∧ ss0.length ≤ k, ⟨_, [], 0, none, none, rfl, rfl, Nat.zero_le _, (Ext.new hpf).trans (.new hpt), ?_, ?_, Nat.le_refl _⟩, ?_⟩
  · rw [upd_ne npt]
    exact upd_same
  · rw [List.drop_zero]
    cases signsF (tl z) <;> rfl
  rintro m σ' H' ⟨ss0, k, a, b, rfl, rfl, hk, x1, hf, hs, hn⟩
  refine ⟨_, rfl, _, rfl, z, rfl, line100 (by omega), _, _, rfl, rfl, _, rfl, ?_⟩
  by_cases hlt : k < z.length
  · refine iteDT (by omega) ?_
    refine ⟨_, fun _ _ h => h, ?_⟩
    have hl : k < (tl z).length := by rw [← len_tl]; exact hlt
    obtain ⟨c, hcr⟩ : ∃ c, (tl z).drop k = c :: (tl z).drop (k + 1) := ⟨_, List.drop_eq_getElem_cons hl⟩
    have hc : z.cps[k]? = some c := by
      have : (tl z)[k]? = some c := by
        have := congrArg (·[0]?) hcr
        simpa using this
      rw [← Array.getElem?_toList]
      exact this
    refine ⟨_, rfl, _, rfl, z, k, c, rfl, rfl, by omega, ?_, by omega, hc, rfl, _, rfl, ?_⟩
    · omega
    by_cases h32 : c = 32
    · subst h32
      refine iteDT rfl ?_
      refine ⟨_, rfl, _, _, rfl, rfl, z.length - (k + 1), by omega, ss0, k + 1, a, b, rfl, rfl, hlt, x1, hf, ?_, by omega⟩
      rw [hs, hcr, sg_sp]
    · refine iteDF (fun h => h32 (by rw [sp_eq] at h; injection h with h; injection h with h; simpa using h)) ?_
      refine ⟨asigns, rfl, ⟨_, ss _⟩, fun D0 hD => ?_⟩
      refine lc_tup (Acc [] [] H' D0 (fun i ds => ds = ((sgA.take i).filter (pre ((tl z).drop k))).map D.str)) (acc0 hD rfl) (fun i H2 hi ac => ss H2) (fun i x H2 hx ac => ?_) (fun H2 ac => ?_)
      · have hx : (sgA.map V.str)[i]? = some x := hx
        rw [List.getElem?_map] at hx
        obtain ⟨sg, hsg, rfl⟩ := Option.map_eq_some_iff.mp hx
        have hi : i < 1000000 := by
          have := (List.getElem?_eq_some_iff.mp hsg).1
          simp only [List.length_cons, List.length_nil] at this
          omega
        obtain ⟨g1, g2⟩ : (∀ {ds : List D}, ds = ((sgA.take i).filter (pre ((tl z).drop k))).map D.str → pre ((tl z).drop k) sg = true → ds ++ [D.str sg] = ((sgA.take (i + 1)).filter (pre ((tl z).drop k))).map D.str) ∧
          (∀ {ds : List D}, ds = ((sgA.take i).filter (pre ((tl z).drop k))).map D.str → pre ((tl z).drop k) sg = false → ds = ((sgA.take (i + 1)).filter (pre ((tl z).drop k))).map D.str) := ⟨fun e => (filt_step hsg e).1, fun e => (filt_step hsg e).2⟩
        refine ⟨rfl, _, rfl, rfl, _, rfl, _, rfl, z, sg, k, rfl, rfl, _, rfl, ?_⟩
        rw [sw3 hk]
        cases hp : pre ((tl z).drop k) sg with
        | true => exact iteT ⟨_, rfl, ac.step hD (by simp) hi .refl (.str sg) fun ds e => g1 e hp⟩
        | false => exact iteF (ac.skip (by simp) .refl fun ds e => g2 e hp)
      · obtain ⟨⟨ds, l, g, _⟩, x2⟩ := ac
        have g : ds = (sgA.filter (pre ((tl z).drop k))).map D.str := g
        subst g
        have l := l.str
        have hd := head_of (l := (tl z).drop k).1
        have x3 := x1.trans x2
        have hf2 := x2.lst hf
        cases hsa : signAt ((tl z).drop k) with
        | some sr =>
          obtain ⟨s1, r'⟩ := sr
          rw [hsa] at hd
          obtain ⟨rest, hfs⟩ : ∃ rest, sgA.filter (pre ((tl z).drop k)) = s1 :: rest := by
            cases e : sgA.filter (pre ((tl z).drop k)) with
            | nil => rw [e] at hd; cases hd
            | cons a rest =>
              rw [e] at hd
              cases hd
              exact ⟨rest, rfl⟩
          rw [hfs] at l
          obtain ⟨eapp, l1, l2⟩ := signAt_app hsa
          have hlen : s1.length ≤ z.length - k := by
            have := congrArg List.length eapp
            rw [List.length_drop, List.length_append, ← len_tl, ← len_tl] at this
            omega
          refine ⟨_, rfl, true, .inl ⟨_, SqL.of l, rfl⟩, iteT ?_⟩
          have hlt0 : ss0.length < sizeLine := Nat.lt_of_lt_of_le (by omega : ss0.length < 1000000) (by decide)
          refine ⟨_, rfl, .inl ⟨rfl, _, SqL.of hf2⟩, _, rfl, D0, _, _, _, rfl, rfl, SqL.of l, atI_nat (j := 0) rfl, pf, _, _, rfl, rfl, hf2, (by rw [List.length_map]; exact hlt0), ?_⟩
          refine ⟨_, rfl, _, rfl, _, rfl, pf, _, _, _, rfl, rfl, SqL.of upd_same, atI_last _ _, s1, rfl, line100 (by omega), _, _, rfl, rfl, ?_⟩
          refine ⟨z.length - (k + s1.length), by omega, ss0 ++ [s1], k + s1.length, _, _, rfl, rfl, by omega, x3.mutN hpf, ?_, ?_, ?_⟩
          · rw [List.map_append]
            exact upd_same
          · have e2 : (tl z).drop (k + s1.length) = r' := by
              rw [← List.drop_drop, eapp, List.drop_left' (len_tl s1).symm]
            rw [hs, e2]
            have eg : signsF ((tl z).drop k) = (signsF r').map (s1 :: ·) := by
              rw [hcr] at hsa ⊢
              exact sg_at h32 hsa
            rw [eg]
            cases signsF r' <;> simp
          · rw [List.length_append]
            exact Nat.add_le_add hn l1
        | none =>
          have hfs : sgA.filter (pre ((tl z).drop k)) = [] := by
            cases e : sgA.filter (pre ((tl z).drop k)) with
            | nil => rfl
            | cons a rest => rw [e, hsa] at hd; cases hd
          rw [hfs] at l
          refine ⟨_, rfl, false, .inl ⟨_, SqL.of l, rfl⟩, iteF ?_⟩
          refine ⟨_, rfl, ?_⟩
          have htl : ((tl z).drop k).length = z.length - k := by rw [List.length_drop, ← len_tl]
          have htw := tw_le (p := alnum) ((tl z).drop k)
          refine ⟨fun m σ' H4 => ∃ (j : Nat), σ' = [some (.str z), some (.ref pf), some (.int k), some (.ref D0), some (.int ((k + j : Nat) : Int)), none] ∧ m = z.length - j ∧ j ≤ (((tl z).drop k).takeWhile alnum).length ∧ H4 = H2, ⟨_, 0, rfl, rfl, Nat.zero_le _, rfl⟩, ?_⟩
          rintro m σ' H4 ⟨j, rfl, rfl, hj, rfl⟩
          refine ⟨_, rfl, _, rfl, z, rfl, line100 (by omega), _, _, rfl, rfl, _, rfl, ?_⟩
          by_cases hend : k + j < z.length
          · refine iteDT (by omega) ?_
            obtain ⟨d, hd1⟩ : ∃ d, ((tl z).drop k)[j]? = some d := ⟨_, List.getElem?_eq_getElem (by omega)⟩
            have hd2 : z.cps[k + j]? = some d := by
              rw [← Array.getElem?_toList]
              rw [List.getElem?_drop] at hd1
              exact hd1
            obtain ⟨g1, g2⟩ := tw_get (p := alnum) _ _ _ hd1
            refine ⟨_, rfl, _, rfl, z, ((k + j : Nat) : Int), d, rfl, rfl, by omega, by omega, by omega, hd2, _, _, rfl, rfl, (by decide +kernel), d, _, rfl, rfl, _, rfl, ?_⟩
            rw [alnum_mem]
            by_cases hj2 : j < (((tl z).drop k).takeWhile alnum).length
            · rw [g1 hj2]
              refine iteT ⟨_, fun _ _ h => h, ?_⟩
              exact ⟨_, rfl, _, _, rfl, rfl, z.length - (j + 1), by omega, j + 1, rfl, rfl, hj2, rfl⟩
            · have ej : j = (((tl z).drop k).takeWhile alnum).length := by omega
              rw [g2 ej]
              refine iteF ?_
              refine ⟨_, rfl, _, rfl, rfl, _, rfl, ?_⟩
              refine iteD (fun c0 => ?_) (fun c0 => ?_)
              · have j0 : j = 0 := by injection c0 with t; omega
                have e0 : ((tl z).drop k).takeWhile alnum = [] := List.eq_nil_of_length_eq_zero (by omega)
                refine qn ?_ _ x3
                rw [hs, hcr, sg_bad h32 (by rw [← hcr]; exact hsa) (by rw [← hcr]; exact e0)]
                rfl
              · have j0 : j ≠ 0 := fun e => c0 (by rw [e]; rfl)
                have e0 : ((tl z).drop k).takeWhile alnum ≠ [] := fun e => j0 (by rw [ej, e]; rfl)
                have ec : cutS z (some (k : Int)) (some ((k + j : Nat) : Int)) = S (((tl z).drop k).takeWhile alnum) := by rw [cutS_mid (by omega), ej, tw_take]
                have hlt0 : ss0.length < sizeLine := Nat.lt_of_lt_of_le (by omega : ss0.length < 1000000) (by decide)
                have sl : (S (((tl z).drop k).takeWhile alnum)).length = j := by rw [len_tl, tl_S, ej]
                refine ⟨_, rfl, .inl ⟨rfl, _, SqL.of hf2⟩, _, rfl, _, rfl, _, rfl, _, rfl, _, rfl, z, rfl, line100 (by omega), ?_⟩
                rw [ec]
                refine ⟨pf, _, _, rfl, rfl, hf2, (by rw [List.length_map]; exact hlt0), ?_⟩
                refine ⟨_, rfl, _, rfl, _, rfl, pf, _, _, _, rfl, rfl, SqL.of upd_same, atI_last _ _, _, rfl, line100 (by rw [sl]; omega), _, _, rfl, rfl, ?_⟩
                rw [sl]
                refine ⟨z.length - (k + j), by omega, ss0 ++ [S (((tl z).drop k).takeWhile alnum)], k + j, _, _, rfl, rfl, by omega, x3.mutN hpf, ?_, ?_, ?_⟩
                · rw [List.map_append]
                  exact upd_same
                · have e2 : (tl z).drop (k + j) = ((tl z).drop k).dropWhile alnum := by
                    rw [← List.drop_drop, ej, tw_drop]
                  rw [hs, e2]
                  have eg : signsF ((tl z).drop k) = (signsF (((tl z).drop k).dropWhile alnum)).map (S (((tl z).drop k).takeWhile alnum) :: ·) := by
                    rw [hcr] at hsa e0 ⊢
                    exact sg_word h32 hsa e0
                  rw [eg]
                  cases signsF (((tl z).drop k).dropWhile alnum) <;> simp
                · rw [List.length_append]
                  exact Nat.add_le_add hn (by show 1 ≤ j; omega)
          · refine iteDF (by omega) ?_
            have ej : j = (((tl z).drop k).takeWhile alnum).length := by omega
            refine id ?_
            refine ⟨_, rfl, _, rfl, rfl, _, rfl, ?_⟩
            refine iteD (fun c0 => ?_) (fun c0 => ?_)
            · have j0 : j = 0 := by injection c0 with t; omega
              have e0 : ((tl z).drop k).takeWhile alnum = [] := List.eq_nil_of_length_eq_zero (by omega)
              refine qn ?_ _ x3
              rw [hs, hcr, sg_bad h32 (by rw [← hcr]; exact hsa) (by rw [← hcr]; exact e0)]
              rfl
            · have j0 : j ≠ 0 := fun e => c0 (by rw [e]; rfl)
              have e0 : ((tl z).drop k).takeWhile alnum ≠ [] := fun e => j0 (by rw [ej, e]; rfl)
              have ec : cutS z (some (k : Int)) (some ((k + j : Nat) : Int)) = S (((tl z).drop k).takeWhile alnum) := by rw [cutS_mid (by omega), ej, tw_take]
              have hlt0 : ss0.length < sizeLine := Nat.lt_of_lt_of_le (by omega : ss0.length < 1000000) (by decide)
              have sl : (S (((tl z).drop k).takeWhile alnum)).length = j := by rw [len_tl, tl_S, ej]
              refine ⟨_, rfl, .inl ⟨rfl, _, SqL.of hf2⟩, _, rfl, _, rfl, _, rfl, _, rfl, _, rfl, z, rfl, line100 (by omega), ?_⟩
              rw [ec]
              refine ⟨pf, _, _, rfl, rfl, hf2, (by rw [List.length_map]; exact hlt0), ?_⟩
              refine ⟨_, rfl, _, rfl, _, rfl, pf, _, _, _, rfl, rfl, SqL.of upd_same, atI_last _ _, _, rfl, line100 (by rw [sl]; omega), _, _, rfl, rfl, ?_⟩
              rw [sl]
              refine ⟨z.length - (k + j), by omega, ss0 ++ [S (((tl z).drop k).takeWhile alnum)], k + j, _, _, rfl, rfl, by omega, x3.mutN hpf, ?_, ?_, ?_⟩
              · rw [List.map_append]
                exact upd_same
              · have e2 : (tl z).drop (k + j) = ((tl z).drop k).dropWhile alnum := by
                  rw [← List.drop_drop, ej, tw_drop]
                rw [hs, e2]
                have eg : signsF ((tl z).drop k) = (signsF (((tl z).drop k).dropWhile alnum)).map (S (((tl z).drop k).takeWhile alnum) :: ·) := by
                  rw [hcr] at hsa e0 ⊢
                  exact sg_word h32 hsa e0
                rw [eg]
                cases signsF (((tl z).drop k).dropWhile alnum) <;> simp
              · rw [List.length_append]
                exact Nat.add_le_add hn (by show 1 ≤ j; omega)
  · refine iteDF (by omega) ?_
    have e : (tl z).drop k = [] := List.drop_eq_nil_of_le (by rw [← len_tl]; omega)
    rw [e, sg_nil] at hs
    exact ⟨_, rfl, qs ss0 (by rw [hs]; simp) H' pf x1 hpf hf⟩
theorem ok_lsigns (F : FunC K "_law_signs" "_law_signs" sLSigns f fd c) (T : Bl mg) : FnOk P w K mg base CX0 1 f fd pLSigns spSigns := by
  refine F.ok scLSigns (fun vs H Q E h => ?_) (fun A outer s H vs Q E hr h => ?_)
  · obtain ⟨z, rfl, _⟩ := h
    rfl
  obtain ⟨z, rfl, hz, okz, qn, qs⟩ := h
  refine ⟨_, pss_cons (ps_par (i := 1) (j := 2) rfl scLSigns.nd rfl rfl (by decide) rfl rfl (pa_cons pe_str (pa_cons (pe_lst pa_nil) pa_nil)) rfl) (pss_cons (ps_while PassesOwn.never (pt_cmpR op_ne (pv 0) pe_str (nomark _)) (pss_one (ps_if (pt_cmpR op_eq (pe_item_str (pv 0) pe_int (fun _ _ => rfl)) pe_str (nomark _)) (pss_one (ps_set (i := 0) scLSigns.nd rfl (.inr rfl) (pe_slice sl_str (pv 0) (po_some pe_int) po_none))) (pss_cons (ps_setLc (i := 3) (own := [("_law_sign", 5)]) rfl scLSigns.nd rfl rfl (by rfl) (pi_list (pe_lst (pa_cons pe_str (pa_cons pe_str (pa_cons pe_str (pa_cons pe_str (pa_cons pe_str (pa_cons pe_str (pa_cons pe_str (pa_cons pe_str (pa_cons pe_str (pa_cons pe_str pa_nil)))))))))))) (blkOk_by (own := [("_law_sign", 5)]) (N := nLSigns) (sc := defScope sLSigns) (by decide +kernel)) (fun _ _ _ _ _ => pg_name (i := 5) scLSigns.nd rfl (.inl rfl)) (fun _ _ _ _ _ => pts_one (pt_cmpR op_eq (pe_slice sl_str (pv 0) po_none (po_some (pe_callB call_len_str (by rfl) T.len PySem.boot_len (pa_cons (pv 5) pa_nil)))) (pv 5) (nomark _))) (fun _ _ _ _ _ => (pv 5))) (pss_cons (ps_set (i := 4) scLSigns.nd rfl (.inl rfl) (pe_ifExp (pt_cmpR (op_neL hr.units) (pv 3) (pe_lst pa_nil) (nomark _)) (pe_callB call_len_str (by rfl) T.len PySem.boot_len (pa_cons (pe_ix ix_list (pv 3) pe_int (fun _ _ => rfl)) pa_nil)) pe_int)) (pss_cons (ps_while PassesOwn.never (PW.pt (pw_and (pt_cmpR (op_eqL hr.units) (pv 3) (pe_lst pa_nil) (nomark _)) (pw_and (pt_cmpR op_lt (pv 4) (pe_callB call_len_str (by rfl) T.len PySem.boot_len (pa_cons (pv 0) pa_nil)) (nomark _)) (pw_and1 (pt_cmpR op_in_sign (pe_item_str (pv 0) (pv 4) (fun _ _ => rfl)) (pv 1) (by rfl)))))) (pss_one (ps_set (i := 4) scLSigns.nd rfl (.inl rfl) (pe_op op_add (pv 4) pe_int)))) (pss_cons (ps_if (pt_cmpR op_eq (pv 4) pe_int (nomark _)) (pss_one (ps_ret pe_non)) pss_nil) (pss_cons (ps_expr (pe_bm PySem.F.plainAttrs_list PySem.F.slot_list_append PySem.F.type_list_append mt_append (pv 2) (pa_cons (pe_slice sl_str (pv 0) po_none (po_some (pv 4))) pa_nil))) (pss_one (ps_set (i := 0) scLSigns.nd rfl (.inr rfl) (pe_slice sl_str (pv 0) (po_some (pv 4)) po_none))))))))))) (pss_one (ps_ret (pv 2)))), ?_⟩
  refine ⟨(by show 0 ≤ sizeLine; decide), fun pf hpf => ⟨_, _, rfl, ?_⟩⟩
  refine ⟨fun m σ' H' => ∃ (ss0 : List Str) (y : Str) (a b : Option V), σ' = [some (.str y), some (.str "abcdefghijklmnopqrstuvwxyz0123456789"), some (.ref pf), a, b, none] ∧ m = y.length ∧ Ext [] [] H H' ∧ H' pf = some (.lst (ss0.map V.str)) ∧
    signsF (tl z) = (signsF (tl y)).map (ss0 ++ ·) ∧ ss0.length + y.length ≤ z.length, ⟨_, [], z, none, none, rfl, rfl, .new hpf, upd_same, ?_, by simp⟩, ?_⟩
  · cases signsF (tl z) <;> rfl
  rintro m σ' H' ⟨ss0, y, a, b, rfl, rfl, x1, hf, hs, hn⟩
  refine ⟨_, rfl, rfl, _, rfl, ?_⟩
  cases ey : tl y with
  | nil =>
    have y0 : y = "" := ext_tl (by rw [ey]; decide)
    refine iteNDT (by rw [y0]) ?_
    rw [ey, sg_nil] at hs
    exact ⟨_, rfl, qs ss0 (by rw [hs]; simp) H' pf x1 hpf hf⟩
  | cons c r =>
    have yl : y.length = r.length + 1 := by rw [len_tl, ey]; rfl
    refine iteNDF (fun h => by
      injection h with h
      rw [h] at ey
      have e0 : tl ("" : Str) = [] := by decide
      rw [e0] at ey
      cases ey) ?_
    refine ⟨_, fun _ _ h => h, ?_⟩
    have hc : y.cps[(0 : Int).toNat]? = some c := by
      rw [← Array.getElem?_toList]
      show (tl y)[0]? = some c
      rw [ey]
      rfl
    refine ⟨_, rfl, y, 0, c, rfl, rfl, by decide, by decide, by omega, hc, rfl, _, rfl, ?_⟩
    by_cases h32 : c = 32
    · subst h32
      refine iteDT rfl ?_
      refine ⟨_, rfl, _, rfl, y, rfl, line100 (by omega), ?_⟩
      have ec : cutS y (some 1) none = S r := by rw [show (some (1 : Int)) = some ((1 : Nat) : Int) from rfl, cutS_from, ey]; rfl
      have es : (S r).length = r.length := len_tl _
      show ∃ m', m' < y.length ∧ _
      rw [ec]
      refine ⟨r.length, by omega, ss0, S r, a, b, rfl, es.symm, x1, hf, ?_, by rw [es]; omega⟩
      rw [hs, ey, sg_sp]
    · refine iteDF (fun h => h32 (by rw [sp_eq] at h; injection h with h; injection h with h; simpa using h)) ?_
      refine ⟨(by show 10 ≤ sizeLine; decide), fun pl hpl => ⟨pl, rfl, ⟨_, SqL.of upd_same⟩, fun D0 hD => ?_⟩⟩
      have xA : Ext [] [] H' (upd H' pl (.lst [V.str "==", .str "@+", .str "@-", .str "=", .str "<", .str "+", .str "*", .str "(", .str ")", .str ","])) := .new hpl
      refine lc_list (Acc [] [] (upd H' pl (.lst [V.str "==", .str "@+", .str "@-", .str "=", .str "<", .str "+", .str "*", .str "(", .str ")", .str ","])) D0 (fun i ds => ds = ((sgB.take i).filter (pre (tl y))).map D.str)) (acc0 hD rfl) (fun i H2 hi ac => SqL.of (ac.ext.lst upd_same)) (fun i x H2 hx ac => ?_) (fun H2 ac => ?_)
      · have hx : (sgB.map V.str)[i]? = some x := hx
        rw [List.getElem?_map] at hx
        obtain ⟨sg, hsg, rfl⟩ := Option.map_eq_some_iff.mp hx
        have hi : i < 1000000 := by
          have := (List.getElem?_eq_some_iff.mp hsg).1
          simp only [List.length_cons, List.length_nil] at this
          omega
        have hl2 : sg.length ≤ 2 := by
          have hm := List.mem_of_getElem? hsg
          have : ∀ x ∈ sgB, x.length ≤ 2 := by decide
          exact this sg hm
        refine ⟨rfl, _, rfl, _, rfl, sg, rfl, line100 (by omega), sg.length, rfl, y, rfl, line100 (by omega), _, rfl, rfl, _, rfl, ?_⟩
        rw [cut_pre]
        cases hp : pre (tl y) sg with
        | true => exact iteT ⟨_, rfl, ac.step hD (by simp) hi .refl (.str sg) fun ds e => (filt_step hsg e).1 hp⟩
        | false => exact iteF (ac.skip (by simp) .refl fun ds e => (filt_step hsg e).2 hp)
      · obtain ⟨⟨ds, l, g, _⟩, x2⟩ := ac
        have g : ds = (sgB.filter (pre (tl y))).map D.str := g
        subst g
        have l := l.str
        have hd := head_of (l := tl y).2
        have x3 := (x1.trans xA).trans x2
        have hf2 := (xA.trans x2).lst hf
        have okB : ∀ z ∈ sgB.filter (pre (tl y)), okS z := fun z hz => by
          have := (List.mem_filter.mp hz).1
          have hb : ∀ x ∈ sgB, PyData.strOk x = true := by decide +kernel
          exact hb z this
        have hlt0 : ss0.length < sizeLine := Nat.lt_of_lt_of_le (by omega : ss0.length < 1000000) (by decide)
        cases hsa : signAt (tl y) with
        | some sr =>
          obtain ⟨s1, r'⟩ := sr
          rw [hsa] at hd
          obtain ⟨rest, hfs⟩ : ∃ rest, sgB.filter (pre (tl y)) = s1 :: rest := by
            cases e : sgB.filter (pre (tl y)) with
            | nil => rw [e] at hd; cases hd
            | cons a rest =>
              rw [e] at hd
              cases hd
              exact ⟨rest, rfl⟩
          rw [hfs] at l okB
          obtain ⟨eapp, l1, l2⟩ := signAt_app hsa
          have hlen : s1.length ≤ y.length := by
            have := congrArg List.length eapp
            rw [List.length_append, ← len_tl, ← len_tl] at this
            omega
          refine ⟨_, rfl, (by show 0 ≤ sizeLine; decide), fun p1 hp1 => ?_⟩
          have l1' := (Ext.new (GT := []) (M := []) (o := .lst []) hp1).lst l
          refine ⟨D0, p1, s1 :: rest, [], rfl, rfl, l1', upd_same, okB, by simp, _, rfl, iteNDF (by simp) ?_⟩
          refine ⟨_, rfl, D0, _, _, _, rfl, rfl, SqL.of l1', atI_nat (j := 0) rfl, s1, rfl, line100 (by omega), ?_⟩
          refine ⟨fun m σ' H4 => m = 0 ∧ σ' = [some (.str y), some (.str "abcdefghijklmnopqrstuvwxyz0123456789"), some (.ref pf), some (.ref D0), some (.int s1.length), none] ∧ H4 = upd H2 p1 (.lst []), ⟨0, rfl, rfl, rfl⟩, ?_⟩
          rintro m σ' H4 ⟨rfl, rfl, rfl⟩
          refine ⟨_, rfl, (by show 0 ≤ sizeLine; decide), fun p3 hp3 => ?_⟩
          have xC : Ext [] [] H2 (upd (upd H2 p1 (.lst [])) p3 (.lst [])) := (Ext.new hp1).trans (.new hp3)
          have hf3 := xC.lst hf2
          refine ⟨D0, p3, s1 :: rest, [], rfl, rfl, xC.lst l, upd_same, okB, by simp, _, rfl, iteDF (by simp) ?_⟩
          refine ⟨_, rfl, rfl, _, rfl, iteDF (fun h => by injection h with h; omega) ?_⟩
          have tk1 : (tl y).take s1.length = tl s1 := by rw [eapp, List.take_left' (len_tl s1).symm]
          have dr1 : (tl y).drop s1.length = r' := by rw [eapp, List.drop_left' (len_tl s1).symm]
          refine ⟨_, rfl, .inl ⟨rfl, _, SqL.of hf3⟩, _, rfl, _, rfl, _, rfl, y, rfl, line100 (by omega), ?_⟩
          rw [cutS_to, tk1, S_tl]
          refine ⟨pf, _, _, rfl, rfl, hf3, (by rw [List.length_map]; exact hlt0), ?_⟩
          refine ⟨_, rfl, _, rfl, _, rfl, y, rfl, line100 (by omega), ?_⟩
          show ∃ m', m' < y.length ∧ _
          rw [cutS_from, dr1]
          have es : (S r').length + s1.length = y.length := by
            have := congrArg List.length eapp
            rw [List.length_append, ← len_tl, ← len_tl] at this
            rw [len_tl]
            show r'.length + _ = _
            omega
          refine ⟨(S r').length, by omega, ss0 ++ [s1], S r', _, _, rfl, rfl, (x3.trans xC).mutN hpf, ?_, ?_, by rw [List.length_append, List.length_singleton]; omega⟩
          · rw [List.map_append]
            exact upd_same
          · rw [hs]
            have eg : signsF (tl y) = (signsF r').map (s1 :: ·) := by
              rw [ey] at hsa ⊢
              exact sg_at h32 hsa
            rw [eg]
            show _ = (signsF r').map _
            cases signsF r' <;> simp
        | none =>
          have hfs : sgB.filter (pre (tl y)) = [] := by
            cases e : sgB.filter (pre (tl y)) with
            | nil => rfl
            | cons a rest => rw [e, hsa] at hd; cases hd
          rw [hfs] at l okB
          refine ⟨_, rfl, (by show 0 ≤ sizeLine; decide), fun p1 hp1 => ?_⟩
          have l1' := (Ext.new (GT := []) (M := []) (o := .lst []) hp1).lst l
          refine ⟨D0, p1, [], [], rfl, rfl, l1', upd_same, okB, by simp, _, rfl, iteNDT rfl ?_⟩
          have htw := tw_le (p := alnum) (tl y)
          rw [← len_tl] at htw
          refine ⟨fun m σ' H4 => ∃ (j : Nat), σ' = [some (.str y), some (.str "abcdefghijklmnopqrstuvwxyz0123456789"), some (.ref pf), some (.ref D0), some (.int (j : Nat)), none] ∧ m = y.length - j ∧ j ≤ ((tl y).takeWhile alnum).length ∧ Ext [] [] H2 H4, ⟨_, 0, rfl, rfl, Nat.zero_le _, .new hp1⟩, ?_⟩
          rintro m σ' H4 ⟨j, rfl, rfl, hj, x4⟩
          refine ⟨_, rfl, (by show 0 ≤ sizeLine; decide), fun p3 hp3 => ?_⟩
          have xC : Ext [] [] H2 (upd H4 p3 (.lst [])) := x4.trans (.new hp3)
          have hf3 := xC.lst hf2
          refine ⟨D0, p3, [], [], rfl, rfl, xC.lst l, upd_same, okB, by simp, _, rfl, iteDT rfl ?_⟩
          refine ⟨_, rfl, _, rfl, y, rfl, line100 (by omega), _, _, rfl, rfl, _, rfl, ?_⟩
          have al2 : ∀ c : Nat, decide (c ∈ (Str.ofString "abcdefghijklmnopqrstuvwxyz0123456789").cps.toList) = alnum c := fun c => by
            rw [← alnum_mem]
            have e : (Str.ofString "abcdefghijklmnopqrstuvwxyz0123456789") = Str.ofString "abcdefghijklmnopqrstuvwxyz" ++ Str.ofString "0123456789" := by decide +kernel
            rw [e]
          by_cases hend : j < y.length
          · refine iteDT (by omega) ?_
            obtain ⟨d, hd1⟩ : ∃ d, (tl y)[j]? = some d := ⟨_, List.getElem?_eq_getElem (by rw [← len_tl]; exact hend)⟩
            have hd2 : y.cps[j]? = some d := by
              rw [← Array.getElem?_toList]
              exact hd1
            obtain ⟨g1, g2⟩ := tw_get (p := alnum) _ _ _ hd1
            refine ⟨_, rfl, _, rfl, y, (j : Int), d, rfl, rfl, by omega, by omega, by omega, hd2, _, rfl, d, _, rfl, rfl, _, rfl, ?_⟩
            rw [al2]
            by_cases hj2 : j < ((tl y).takeWhile alnum).length
            · rw [g1 hj2]
              refine iteT ⟨_, fun _ _ h => h, ?_⟩
              exact ⟨_, rfl, _, _, rfl, rfl, y.length - (j + 1), by omega, j + 1, rfl, rfl, hj2, xC⟩
            · have ej : j = ((tl y).takeWhile alnum).length := by omega
              rw [g2 ej]
              refine iteF ?_
              refine ⟨_, rfl, rfl, _, rfl, ?_⟩
              refine iteD (fun c0 => ?_) (fun c0 => ?_)
              · have j0 : j = 0 := by injection c0 with t; omega
                have e0 : (tl y).takeWhile alnum = [] := List.eq_nil_of_length_eq_zero (by omega)
                refine qn ?_ _ (x3.trans xC)
                rw [hs, ey, sg_bad h32 (by rw [← ey]; exact hsa) (by rw [← ey]; exact e0)]
                rfl
              · have j0 : j ≠ 0 := fun e => c0 (by rw [e]; rfl)
                have e0 : (tl y).takeWhile alnum ≠ [] := fun e => j0 (by rw [ej, e]; rfl)
                have tk1 : (tl y).take j = (tl y).takeWhile alnum := by rw [ej, tw_take]
                have dr1 : (tl y).drop j = (tl y).dropWhile alnum := by rw [ej, tw_drop]
                refine ⟨_, rfl, .inl ⟨rfl, _, SqL.of hf3⟩, _, rfl, _, rfl, _, rfl, y, rfl, line100 (by omega), ?_⟩
                rw [cutS_to, tk1]
                refine ⟨pf, _, _, rfl, rfl, hf3, (by rw [List.length_map]; exact hlt0), ?_⟩
                refine ⟨_, rfl, _, rfl, _, rfl, y, rfl, line100 (by omega), ?_⟩
                show ∃ m', m' < y.length ∧ _
                rw [cutS_from, dr1]
                have es : (S ((tl y).dropWhile alnum)).length + j = y.length := by
                  have := congrArg List.length (takeW_split (tl y))
                  rw [List.length_append, ← len_tl] at this
                  rw [len_tl]
                  show ((tl y).dropWhile alnum).length + _ = _
                  omega
                refine ⟨(S ((tl y).dropWhile alnum)).length, by omega, ss0 ++ [S ((tl y).takeWhile alnum)], S ((tl y).dropWhile alnum), _, _, rfl, rfl, (x3.trans xC).mutN hpf, ?_, ?_, by rw [List.length_append, List.length_singleton]; omega⟩
                · rw [List.map_append]
                  exact upd_same
                · rw [hs]
                  have eg : signsF (tl y) = (signsF ((tl y).dropWhile alnum)).map (S ((tl y).takeWhile alnum) :: ·) := by
                    rw [ey] at hsa e0 ⊢
                    exact sg_word h32 hsa e0
                  rw [eg]
                  show _ = (signsF ((tl y).dropWhile alnum)).map _
                  cases signsF ((tl y).dropWhile alnum) <;> simp
          · refine iteDF (by omega) ?_
            have ej : j = ((tl y).takeWhile alnum).length := by omega
            refine ⟨_, rfl, rfl, _, rfl, ?_⟩
            refine iteD (fun c0 => ?_) (fun c0 => ?_)
            · have j0 : j = 0 := by injection c0 with t; omega
              have e0 : (tl y).takeWhile alnum = [] := List.eq_nil_of_length_eq_zero (by omega)
              refine qn ?_ _ (x3.trans xC)
              rw [hs, ey, sg_bad h32 (by rw [← ey]; exact hsa) (by rw [← ey]; exact e0)]
              rfl
            · have j0 : j ≠ 0 := fun e => c0 (by rw [e]; rfl)
              have e0 : (tl y).takeWhile alnum ≠ [] := fun e => j0 (by rw [ej, e]; rfl)
              have tk1 : (tl y).take j = (tl y).takeWhile alnum := by rw [ej, tw_take]
              have dr1 : (tl y).drop j = (tl y).dropWhile alnum := by rw [ej, tw_drop]
              refine ⟨_, rfl, .inl ⟨rfl, _, SqL.of hf3⟩, _, rfl, _, rfl, _, rfl, y, rfl, line100 (by omega), ?_⟩
              rw [cutS_to, tk1]
              refine ⟨pf, _, _, rfl, rfl, hf3, (by rw [List.length_map]; exact hlt0), ?_⟩
              refine ⟨_, rfl, _, rfl, _, rfl, y, rfl, line100 (by omega), ?_⟩
              show ∃ m', m' < y.length ∧ _
              rw [cutS_from, dr1]
              have es : (S ((tl y).dropWhile alnum)).length + j = y.length := by
                have := congrArg List.length (takeW_split (tl y))
                rw [List.length_append, ← len_tl] at this
                rw [len_tl]
                show ((tl y).dropWhile alnum).length + _ = _
                omega
              refine ⟨(S ((tl y).dropWhile alnum)).length, by omega, ss0 ++ [S ((tl y).takeWhile alnum)], S ((tl y).dropWhile alnum), _, _, rfl, rfl, (x3.trans xC).mutN hpf, ?_, ?_, by rw [List.length_append, List.length_singleton]; omega⟩
              · rw [List.map_append]
                exact upd_same
              · rw [hs]
                have eg : signsF (tl y) = (signsF ((tl y).dropWhile alnum)).map (S ((tl y).takeWhile alnum) :: ·) := by
                  rw [ey] at hsa e0 ⊢
                  exact sg_word h32 hsa e0
                rw [eg]
                show _ = (signsF ((tl y).dropWhile alnum)).map _
                cases signsF ((tl y).dropWhile alnum) <;> simp
end
end ML
set_option maxHeartbeats 4000000
namespace ML
open PySem PySem.Spec PyProof.Rows L2 TL Gn
/-! ### the reader of signs, in plain -/
def Shr (p : List Str → PR) : Prop := ∀ l t r, p l = some (t, r) → r.length ≤ l.length
def Oks (n : Nat) (p : List Str → PR) : Prop := ∀ l t r, p l = some (t, r) → t.ok n
theorem loop_fuel {p : List Str → PR} {op : Str → Option Op} (hp : Shr p) : ∀ (n m : Nat) (t : Tm) (l : List Str), l.length ≤ n → l.length ≤ m → loopF p op n t l = loopF p op m t l
  | n, m, t, [], _, _ => by cases n <;> cases m <;> rfl
  | 0, _, t, _ :: _, h, _ => by simp at h
  | _, 0, t, _ :: _, _, h => by simp at h
  | n + 1, m + 1, t, s :: r, h1, h2 => by
    have h1 : r.length ≤ n := Nat.le_of_succ_le_succ h1
    have h2 : r.length ≤ m := Nat.le_of_succ_le_succ h2
    unfold loopF
    cases op s with
    | none => rfl
    | some o =>
      simp only
      cases e : p r with
      | none => rfl
      | some x =>
        obtain ⟨t', r'⟩ := x
        have := hp _ _ _ e
        simp only
        exact loop_fuel hp n m _ r' (by omega) (by omega)
def chL (p : List Str → PR) (op : Str → Option Op) (t : Tm) (l : List Str) : PR := loopF p op l.length t l
theorem chL_nil {p : List Str → PR} {op : Str → Option Op} {t : Tm} : chL p op t [] = some (t, []) := rfl
theorem chL_stop {p : List Str → PR} {op : Str → Option Op} {t : Tm} {s : Str} {r : List Str} (h : op s = none) : chL p op t (s :: r) = some (t, s :: r) := by
  unfold chL
  rw [List.length_cons]
  unfold loopF
  rw [h]
theorem chL_bad {p : List Str → PR} {op : Str → Option Op} {t : Tm} {s : Str} {r : List Str} {o : Op} (h : op s = some o) (e : p r = none) : chL p op t (s :: r) = none := by
  unfold chL
  rw [List.length_cons]
  unfold loopF
  rw [h]
  simp only
  rw [e]
theorem chL_go {p : List Str → PR} {op : Str → Option Op} (hp : Shr p) {t t' : Tm} {s : Str} {r r' : List Str} {o : Op} (h : op s = some o) (e : p r = some (t', r')) : chL p op t (s :: r) = chL p op (.bin o t t') r' := by
  unfold chL
  rw [List.length_cons]
  conv => lhs; unfold loopF
  rw [h]
  simp only
  rw [e]
  simp only
  have := hp _ _ _ e
  exact loop_fuel hp _ _ _ _ (by omega) (Nat.le_refl _)
theorem chain_eq {p : List Str → PR} {op : Str → Option Op} {l : List Str} : chainF p op l = (p l).bind fun x => chL p op x.1 x.2 := by
  unfold chainF
  cases p l with
  | none => rfl
  | some x => rfl
theorem shr_chL {p : List Str → PR} {op : Str → Option Op} (hp : Shr p) : ∀ (n : Nat) (t : Tm) (l : List Str) (t' : Tm) (r : List Str), l.length ≤ n → chL p op t l = some (t', r) → r.length ≤ l.length
  | _, t, [], t', r, _, h => by
    rw [chL_nil] at h
    cases h
    exact Nat.le_refl _
  | 0, t, _ :: _, t', r, h, _ => by simp at h
  | n + 1, t, s :: q, t', r, hl, h => by
    cases ho : op s with
    | none =>
      rw [chL_stop ho] at h
      cases h
      exact Nat.le_refl _
    | some o =>
      cases e : p q with
      | none =>
        rw [chL_bad ho e] at h
        cases h
      | some x =>
        obtain ⟨t1, q'⟩ := x
        rw [chL_go hp ho e] at h
        have h1 := hp _ _ _ e
        have hl : q.length ≤ n := Nat.le_of_succ_le_succ hl
        have := shr_chL hp n _ q' t' r (by omega) h
        rw [List.length_cons]
        omega
theorem shr_chain {p : List Str → PR} {op : Str → Option Op} (hp : Shr p) : Shr (chainF p op) := fun l t r h => by
  rw [chain_eq] at h
  obtain ⟨x, hx, h⟩ := Option.bind_eq_some_iff.mp h
  have h1 := hp _ _ _ hx
  have h2 := shr_chL hp _ _ _ _ _ (Nat.le_refl _) h
  omega
theorem ok_chL {n : Nat} {p : List Str → PR} {op : Str → Option Op} (hp : Shr p) (ho : Oks n p) : ∀ (m : Nat) (t : Tm) (l : List Str) (t' : Tm) (r : List Str), l.length ≤ m → t.ok n → chL p op t l = some (t', r) → t'.ok n
  | _, t, [], t', r, _, ht, h => by
    rw [chL_nil] at h
    cases h
    exact ht
  | 0, t, _ :: _, t', r, h, _, _ => by simp at h
  | m + 1, t, s :: q, t', r, hl, ht, h => by
    cases hop : op s with
    | none =>
      rw [chL_stop hop] at h
      cases h
      exact ht
    | some o =>
      cases e : p q with
      | none =>
        rw [chL_bad hop e] at h
        cases h
      | some x =>
        obtain ⟨t1, q'⟩ := x
        rw [chL_go hp hop e] at h
        have h1 := hp _ _ _ e
        have hl : q.length ≤ m := Nat.le_of_succ_le_succ hl
        exact ok_chL hp ho m (.bin o t t1) q' t' r (by omega) ⟨ht, ho _ _ _ e⟩ h
theorem ok_chain {n : Nat} {p : List Str → PR} {op : Str → Option Op} (hp : Shr p) (ho : Oks n p) : Oks n (chainF p op) := fun l t r h => by
  rw [chain_eq] at h
  obtain ⟨x, hx, h⟩ := Option.bind_eq_some_iff.mp h
  exact ok_chL hp ho _ _ _ _ _ (Nat.le_refl _) (ho _ _ _ hx) h
theorem shr_comp {p : List Str → PR} (hp : Shr p) : Shr (compF p) := fun l t r h => by
  unfold compF at h
  cases e : p l with
  | none => rw [e] at h; cases h
  | some x =>
    obtain ⟨t1, q⟩ := x
    have h1 := hp _ _ _ e
    rw [e] at h
    cases q with
    | nil => cases h; exact h1
    | cons s q =>
      simp only at h
      cases ho : opC s with
      | none => rw [ho] at h; cases h; exact h1
      | some o =>
        rw [ho] at h
        simp only at h
        cases e2 : p q with
        | none => rw [e2] at h; cases h
        | some y =>
          rw [e2] at h
          cases h
          have h2 := hp _ _ _ e2
          rw [List.length_cons] at h1
          omega
theorem ok_comp {n : Nat} {p : List Str → PR} (ho : Oks n p) : Oks n (compF p) := fun l t r h => by
  unfold compF at h
  cases e : p l with
  | none => rw [e] at h; cases h
  | some x =>
    obtain ⟨t1, q⟩ := x
    rw [e] at h
    cases q with
    | nil => cases h; exact ho _ _ _ e
    | cons s q =>
      simp only at h
      cases hop : opC s with
      | none => rw [hop] at h; cases h; exact ho _ _ _ e
      | some o =>
        rw [hop] at h
        simp only at h
        cases e2 : p q with
        | none => rw [e2] at h; cases h
        | some y =>
          rw [e2] at h
          cases h
          exact ⟨ho _ _ _ e, ho _ _ _ e2⟩
def compR (p : List Str → PR) (t : Tm) : List Str → PR
  | [] => some (t, [])
  | s :: r => match opC s with
    | none => some (t, s :: r)
    | some o => (p r).map fun z => (.bin o t z.1, z.2)
theorem comp_eq {p : List Str → PR} {l : List Str} : compF p l = (p l).bind fun x => compR p x.1 x.2 := by
  unfold compF
  cases p l with
  | none => rfl
  | some x =>
    obtain ⟨t, r⟩ := x
    cases r with
    | nil => rfl
    | cons s r =>
      show (match opC s with | none => some (t, s :: r) | some o => _) = (match opC s with | none => some (t, s :: r) | some o => (p r).map fun z => (.bin o t z.1, z.2))
      cases opC s with
      | none => rfl
      | some o =>
        simp only
        cases p r <;> rfl
theorem compR_nil {p : List Str → PR} {t : Tm} : compR p t [] = some (t, []) := rfl
theorem compR_stop {p : List Str → PR} {t : Tm} {s : Str} {r : List Str} (h : opC s = none) : compR p t (s :: r) = some (t, s :: r) := by
  show ((match opC s with | none => some (t, s :: r) | some o => (p r).map fun z => (Tm.bin o t z.1, z.2)) : PR) = _
  rw [h]
theorem compR_go {p : List Str → PR} {t : Tm} {s : Str} {r : List Str} {o : Op} (h : opC s = some o) : compR p t (s :: r) = (p r).map fun z => (.bin o t z.1, z.2) := by
  show ((match opC s with | none => some (t, s :: r) | some o => (p r).map fun z => (Tm.bin o t z.1, z.2)) : PR) = _
  rw [h]
theorem exp_some {s : Str} {l r : List Str} (h : expect s l = some r) : l = s :: r := by
  cases l with
  | nil => cases h
  | cons x q =>
    have h : (if x = s then some q else none) = some r := h
    by_cases e : x = s
    · rw [if_pos e] at h
      cases h
      rw [e]
    · rw [if_neg e] at h
      cases h
theorem digit_rng {z : Str} {lo hi n : Int} (h : digitF z lo hi = some n) : lo ≤ n ∧ n ≤ hi ∧ 0 ≤ n ∧ n ≤ 9 := by
  unfold digitF at h
  split at h
  · rename_i c _
    by_cases e : fig c = true ∧ lo ≤ (c : Int) - 48 ∧ (c : Int) - 48 ≤ hi
    · rw [if_pos e] at h
      cases h
      obtain ⟨e1, e2, e3⟩ := e
      simp only [fig, Bool.and_eq_true, decide_eq_true_eq] at e1
      exact ⟨e2, e3, by omega, by omega⟩
    · rw [if_neg e] at h
      cases h
  · cases h
theorem off_some {l r : List Str} {o : Int} (h : offsetF l = some (o, r)) : r.length ≤ l.length ∧ -2 ≤ o ∧ o ≤ 2 := by
  unfold offsetF at h
  cases l with
  | nil => cases h; exact ⟨Nat.le_refl _, by decide, by decide⟩
  | cons s q =>
    simp only at h
    by_cases e1 : s = "@+"
    · rw [if_pos e1] at h
      cases q with
      | nil => cases h
      | cons w q =>
        obtain ⟨n, hn, h⟩ := Option.map_eq_some_iff.mp h
        cases h
        obtain ⟨a, b, _⟩ := digit_rng hn
        exact ⟨by simp only [List.length_cons]; omega, by omega, b⟩
    · rw [if_neg e1] at h
      by_cases e2 : s = "@-"
      · rw [if_pos e2] at h
        cases q with
        | nil => cases h
        | cons w q =>
          obtain ⟨n, hn, h⟩ := Option.map_eq_some_iff.mp h
          cases h
          obtain ⟨a, b, _⟩ := digit_rng hn
          exact ⟨by simp only [List.length_cons]; omega, by omega, by omega⟩
      · rw [if_neg e2] at h
        cases h
        exact ⟨Nat.le_refl _, by decide, by decide⟩
theorem shr_pick {p : List Str → PR} (hp : Shr p) {l r : List Str} {t : Tm} (h : pickF p l = some (t, r)) : r.length ≤ l.length := by
  unfold pickF at h
  obtain ⟨r1, e1, h⟩ := Option.bind_eq_some_iff.mp h
  obtain ⟨x1, f1, h⟩ := Option.bind_eq_some_iff.mp h
  obtain ⟨r2, e2, h⟩ := Option.bind_eq_some_iff.mp h
  obtain ⟨x2, f2, h⟩ := Option.bind_eq_some_iff.mp h
  obtain ⟨r3, e3, h⟩ := Option.bind_eq_some_iff.mp h
  obtain ⟨x3, f3, h⟩ := Option.bind_eq_some_iff.mp h
  obtain ⟨r4, e4, h⟩ := Option.bind_eq_some_iff.mp h
  cases h
  have a1 := congrArg List.length (exp_some e1)
  have a2 := congrArg List.length (exp_some e2)
  have a3 := congrArg List.length (exp_some e3)
  have a4 := congrArg List.length (exp_some e4)
  have b1 := hp _ _ _ f1
  have b2 := hp _ _ _ f2
  have b3 := hp _ _ _ f3
  simp only [List.length_cons] at a1 a2 a3 a4
  omega
theorem ok_pick {n : Nat} {p : List Str → PR} (ho : Oks n p) {l r : List Str} {t : Tm} (h : pickF p l = some (t, r)) : t.ok n := by
  unfold pickF at h
  obtain ⟨r1, e1, h⟩ := Option.bind_eq_some_iff.mp h
  obtain ⟨x1, f1, h⟩ := Option.bind_eq_some_iff.mp h
  obtain ⟨r2, e2, h⟩ := Option.bind_eq_some_iff.mp h
  obtain ⟨x2, f2, h⟩ := Option.bind_eq_some_iff.mp h
  obtain ⟨r3, e3, h⟩ := Option.bind_eq_some_iff.mp h
  obtain ⟨x3, f3, h⟩ := Option.bind_eq_some_iff.mp h
  obtain ⟨r4, e4, h⟩ := Option.bind_eq_some_iff.mp h
  cases h
  exact ⟨ho _ _ _ f1, ho _ _ _ f2, ho _ _ _ f3⟩
theorem num_some {lo hi : Int} {l r : List Str} {n : Nat} (h : numF lo hi l = some (n, r)) : ∃ w m, l = w :: r ∧ digitF w lo hi = some m ∧ n = m.toNat := by
  cases l with
  | nil => cases h
  | cons w q =>
    unfold numF at h
    obtain ⟨m, hm, h⟩ := Option.map_eq_some_iff.mp h
    cases h
    exact ⟨w, m, rfl, hm, rfl⟩
theorem shr_rest {p : List Str → PR} (hp : Shr p) {l r : List Str} {t : Tm} (h : restF p l = some (t, r)) : r.length ≤ l.length := by
  unfold restF at h
  obtain ⟨r1, e1, h⟩ := Option.bind_eq_some_iff.mp h
  obtain ⟨x1, f1, h⟩ := Option.bind_eq_some_iff.mp h
  obtain ⟨r2, e2, h⟩ := Option.bind_eq_some_iff.mp h
  obtain ⟨x2, f2, h⟩ := Option.bind_eq_some_iff.mp h
  obtain ⟨r3, e3, h⟩ := Option.bind_eq_some_iff.mp h
  cases h
  have a1 := congrArg List.length (exp_some e1)
  have a2 := congrArg List.length (exp_some e2)
  have a3 := congrArg List.length (exp_some e3)
  have b1 := hp _ _ _ f1
  obtain ⟨w, m, ew, _⟩ := num_some (n := x2.1) (r := x2.2) f2
  have a4 := congrArg List.length ew
  simp only [List.length_cons] at a1 a2 a3 a4
  omega
theorem ok_rest {n : Nat} {p : List Str → PR} (ho : Oks n p) {l r : List Str} {t : Tm} (h : restF p l = some (t, r)) : t.ok n := by
  unfold restF at h
  obtain ⟨r1, e1, h⟩ := Option.bind_eq_some_iff.mp h
  obtain ⟨x1, f1, h⟩ := Option.bind_eq_some_iff.mp h
  obtain ⟨r2, e2, h⟩ := Option.bind_eq_some_iff.mp h
  obtain ⟨x2, f2, h⟩ := Option.bind_eq_some_iff.mp h
  obtain ⟨r3, e3, h⟩ := Option.bind_eq_some_iff.mp h
  cases h
  obtain ⟨w, m, ew, hm, e⟩ := num_some (n := x2.1) (r := x2.2) f2
  obtain ⟨a, b, _⟩ := digit_rng hm
  exact ⟨ho _ _ _ f1, by omega, by omega⟩
theorem alone_both (ws : List Str) : ∀ f : Nat, Shr (aloneF ws f) ∧ Oks ws.length (aloneF ws f)
  | 0 => ⟨fun l t r h => (by cases h), fun l t r h => (by cases h)⟩
  | f + 1 => by
    obtain ⟨ih1, ih2⟩ := alone_both ws f
    have s1 : Shr (compF (chainF (chainF (aloneF ws f) opM) opA)) := shr_comp (shr_chain (shr_chain ih1))
    have s2 : Oks ws.length (compF (chainF (chainF (aloneF ws f) opM) opA)) := ok_comp (ok_chain (shr_chain ih1) (ok_chain ih1 ih2))
    have key : ∀ l t r, aloneF ws (f + 1) l = some (t, r) → r.length ≤ l.length ∧ t.ok ws.length := fun l t r h => by
      cases l with
      | nil => cases h
      | cons s q =>
        rw [List.length_cons]
        unfold aloneF at h
        by_cases e1 : s = "("
        · rw [if_pos e1] at h
          obtain ⟨x, hx, h⟩ := Option.bind_eq_some_iff.mp h
          obtain ⟨r', he, h⟩ := Option.bind_eq_some_iff.mp h
          cases h
          have a := congrArg List.length (exp_some he)
          have b := s1 _ _ _ hx
          simp only [List.length_cons] at a
          exact ⟨by omega, s2 _ _ _ hx⟩
        rw [if_neg e1] at h
        by_cases e2 : s = "pick"
        · rw [if_pos e2] at h
          exact ⟨Nat.le_succ_of_le (shr_pick s1 h), ok_pick s2 h⟩
        rw [if_neg e2] at h
        by_cases e3 : s = "rest"
        · rw [if_pos e3] at h
          exact ⟨Nat.le_succ_of_le (shr_rest s1 h), ok_rest s2 h⟩
        rw [if_neg e3] at h
        by_cases e4 : s = "in"
        · rw [if_pos e4] at h
          obtain ⟨x, hx, h⟩ := Option.map_eq_some_iff.mp h
          cases h
          obtain ⟨a, b, d⟩ := off_some (o := x.1) (r := x.2) hx
          exact ⟨by omega, b, d⟩
        rw [if_neg e4] at h
        by_cases e5 : s ∈ ws
        · rw [if_pos e5] at h
          obtain ⟨x, hx, h⟩ := Option.map_eq_some_iff.mp h
          cases h
          obtain ⟨a, b, d⟩ := off_some (o := x.1) (r := x.2) hx
          exact ⟨by omega, List.idxOf_lt_length_of_mem e5, b, d⟩
        rw [if_neg e5] at h
        obtain ⟨n, hn, h⟩ := Option.map_eq_some_iff.mp h
        cases h
        obtain ⟨a, b, d, e⟩ := digit_rng hn
        exact ⟨Nat.le_succ _, by show n.toNat ≤ 9; omega⟩
    exact ⟨fun l t r h => (key l t r h).1, fun l t r h => (key l t r h).2⟩
theorem shr_side {ws : List Str} {f : Nat} : Shr (sideF ws f) := shr_comp (shr_chain (shr_chain (alone_both ws f).1))
theorem ok_side {ws : List Str} {f : Nat} : Oks ws.length (sideF ws f) := ok_comp (ok_chain (shr_chain (alone_both ws f).1) (ok_chain (alone_both ws f).1 (alone_both ws f).2))
end ML
set_option maxHeartbeats 4000000
namespace ML
open PySem PySem.Spec PyProof.Rows L2 TL Gn
def CalM (P : Program) (w : World) (K : PySem.W.Frag) (mg : Str → Option Value) (base : Heap) (k : Nat) (C : Addr) (m : Str) (ps : List Str) (sp : Sp) : Prop :=
  ∃ f fd, FnOk P w K mg base CX0 k f fd ps sp ∧ Meth K C m f ∧ Binds K fd ps []
section
variable {X : Cx} {k : Nat} {ps : List Str} {sp : Sp} {m : Str} {C : Addr} {apos pos : Pos} {o e : Expr} {es : List Expr} {t : TA} {ta : TE}
theorem pe_calM {pl : Sem Bool} (c : Cls X.K C) (G : CalM X.prog X.w X.K X.mg X.base k C m ps sp) (hr : Room k X.A) (he : PE X o ta) (ha : PA X (e :: es) t)
    (hst : starEach (e :: es) X.env = (false, eval e X.env) :: starEach es X.env := by rfl) (hpl : (backTo pos (starEach es X.env)).any (·.1) = false := by rfl)
    (ht : eval (.Call (.Attribute o m apos) (e :: es) [] pos) X.env = (do
      let ov ← eval o X.env
      standAt apos.atName
      let (f, first) ← holding [ov] (getMethod ov m pl)
      callWith pos f first (backTo pos (starEach (e :: es) X.env)) (backToKw pos (keywordEach [] X.env))) := by rfl) :
    PE X (.Call (.Attribute o m apos) (e :: es) [] pos) (tMeth C m sp [] E0 ta t) := by
  obtain ⟨f, fd, F, hm, b⟩ := G
  exact pe_meth (pl := pl) he c hm F hr b .nil pass0 ha hst hpl ht
theorem pe_calM0 {pl : Sem Bool} (c : Cls X.K C) (G : CalM X.prog X.w X.K X.mg X.base k C m ps sp) (hr : Room k X.A) (he : PE X o ta)
    (ht : eval (.Call (.Attribute o m apos) [] [] pos) X.env = (do
      let ov ← eval o X.env
      standAt apos.atName
      let (f, first) ← holding [ov] (getMethod ov m pl)
      callWith pos f first (backTo pos (starEach [] X.env)) (backToKw pos (keywordEach [] X.env))) := by rfl) :
    PE X (.Call (.Attribute o m apos) [] [] pos) (tMeth C m sp [] E0 ta tNil) := by
  obtain ⟨f, fd, F, hm, b⟩ := G
  exact pe_meth0 (pl := pl) he c hm F hr b .nil pass0 ht
end
/-! ### the reader's state -/
def rfs (sa wa : Addr) (k : Nat) (b : Bool) : List (Str × V) := [(("signs" : Str), .ref sa), (("words" : Str), .ref wa), (("place" : Str), .int k), (("broken" : Str), .bl b)]
section
variable {sa wa : Addr} {k k' : Nat} {b b' : Bool}
theorem rf_signs : (rfs sa wa k b).lookup ("signs" : Str) = some (.ref sa) := rfl
theorem rf_words : (rfs sa wa k b).lookup ("words" : Str) = some (.ref wa) := rfl
theorem rf_place : (rfs sa wa k b).lookup ("place" : Str) = some (.int k) := rfl
theorem rf_broken : (rfs sa wa k b).lookup ("broken" : Str) = some (.bl b) := rfl
theorem rp_place : putF "place" (.int (k' : Nat)) (rfs sa wa k b) = rfs sa wa k' b := rfl
theorem rp_broken : putF "broken" (.bl b') (rfs sa wa k b) = rfs sa wa k b' := rfl
end
structure RdC (K : PySem.W.Frag) (C : Addr) : Prop where
  cls : Cls K C
  signs : NoAttr K C "signs"
  words : NoAttr K C "words"
  place : NoAttr K C "place"
  broken : NoAttr K C "broken"
/-- the reader at p: its place and whether it is broken -/
structure RSt (C : Addr) (H : Hp) (p sa wa : Addr) (ss ws : List Str) (k : Nat) (b : Bool) : Prop where
  at_ : ∃ dx, H p = some (.ins C dx (rfs sa wa k b))
  sg : H sa = some (.lst (ss.map V.str))
  wd : H wa = some (.lst (ws.map V.str))
  few : ss.length ≤ 200
  sml : ∀ z ∈ ss, z.length ≤ 100000
section
variable {C p sa wa : Addr} {ss ws : List Str} {k k' : Nat} {b b' : Bool} {H H' : Hp} {GT : List Addr}
theorem RSt.ext (r : RSt C H p sa wa ss ws k b) (x : Ext GT [] H H') : RSt C H' p sa wa ss ws k b := by
  obtain ⟨dx, e⟩ := r.at_
  exact ⟨⟨dx, x.ins e⟩, x.lst r.sg, x.lst r.wd, r.few, r.sml⟩
theorem RSt.put (r : RSt C H p sa wa ss ws k b) {dx : Addr} : RSt C (upd H p (.ins C dx (rfs sa wa k' b'))) p sa wa ss ws k' b' := by
  obtain ⟨dx0, e⟩ := r.at_
  have n1 : sa ≠ p := fun z => by have := r.sg; rw [z, e] at this; cases this
  have n2 : wa ≠ p := fun z => by have := r.wd; rw [z, e] at this; cases this
  exact ⟨⟨dx, upd_same⟩, by rw [upd_ne n1]; exact r.sg, by rw [upd_ne n2]; exact r.wd, r.few, r.sml⟩
theorem Ext.ins_put {dx dy : Addr} {fs gs : List (Str × V)} (e : H p = some (.ins C dx fs)) : Ext GT [p] H (upd H p (.ins C dy gs)) := .mut e (fun _ z => by cases z) (fun _ z => by cases z) (by simp)
end
def spRInit (C : Addr) : Sp := fun vs H Q _ => ∃ p dx sa wa ss ws, vs = [.ref p, .ref sa, .ref wa] ∧ H p = some (.ins C dx []) ∧ H sa = some (.lst (List.map V.str ss)) ∧ H wa = some (.lst (List.map V.str ws)) ∧ ss.length ≤ 200 ∧ (∀ z ∈ ss, z.length ≤ 100000) ∧
  ∀ H', RSt C H' p sa wa ss ws 0 false → Ext [] [p] H H' → Q .non H'
def spNext (C : Addr) : Sp := fun vs H Q _ => ∃ p sa wa ss ws k b, vs = [.ref p] ∧ RSt C H p sa wa ss ws k b ∧ Q (.str (ss.getD k (Str.ofString ""))) H
def spTake (C : Addr) : Sp := fun vs H Q _ => ∃ p sa wa ss ws k b s, vs = [.ref p, .str s] ∧ RSt C H p sa wa ss ws k b ∧ s ≠ "" ∧ (ss[k]? = some s → ∀ H', RSt C H' p sa wa ss ws (k + 1) b → Ext [] [p] H H' → Q (.bl true) H') ∧ (ss[k]? ≠ some s → Q (.bl false) H)
def spNeed (C : Addr) : Sp := fun vs H Q _ => ∃ p sa wa ss ws k b s, vs = [.ref p, .str s] ∧ RSt C H p sa wa ss ws k b ∧ s ≠ "" ∧ (ss[k]? = some s → ∀ H', RSt C H' p sa wa ss ws (k + 1) b → Ext [] [p] H H' → Q .non H') ∧ (ss[k]? ≠ some s → ∀ H', RSt C H' p sa wa ss ws k true → Ext [] [p] H H' → Q .non H')
def spNum (C : Addr) : Sp := fun vs H Q _ => ∃ p sa wa ss ws k b, ∃ lo hi : Int, vs = [.ref p, .int lo, .int hi] ∧ RSt C H p sa wa ss ws k b ∧ (∀ n, digitF (ss.getD k (Str.ofString "")) lo hi = some n → ∀ H', RSt C H' p sa wa ss ws (k + 1) b → Ext [] [p] H H' → Q (.int n) H') ∧
  (digitF (ss.getD k (Str.ofString "")) lo hi = none → ∀ H', RSt C H' p sa wa ss ws (k + 1) true → Ext [] [p] H H' → Q (.int lo) H')
def nameOk (s : Str) : Bool := (rfs 0 0 0 true).all fun x => !decide (x.1 = s)
section
variable {P : Program} {w : World} {K : PySem.W.Frag} {mg : Str → Option Value} {base : Heap} {f c C : Addr} {fd : FuncData}
theorem ok_rinit (F : FunC K "__init__" "Reader.__init__" sReaderInit f fd c) (R : RdC K C) : FnOk P w K mg base CX0 1 f fd pReaderInit (spRInit C) := by
  refine F.ok scReaderInit (fun vs H Q E h => ?_) (fun A outer s H vs Q E hr h => ?_)
  · obtain ⟨p, dx, sa, wa, ss, ws, rfl, _⟩ := h
    rfl
  obtain ⟨p, dx, sa, wa, ss, ws, rfl, hp, hsa, hwa, hl, hs, q⟩ := h
  refine ⟨_, pss_cons (ps_fld (pv 0) (pv 1) rfl) (pss_cons (ps_fld (pv 0) (pv 2) rfl) (pss_cons (ps_fld (pv 0) pe_int rfl) (pss_one (ps_fld (pv 0) pe_bl rfl)))), ?_⟩
  refine ⟨_, rfl, _, rfl, p, C, dx, _, rfl, hp, R.cls, R.signs, (by show 0 < 1000; decide), ?_⟩
  refine ⟨_, rfl, _, rfl, p, C, dx, _, rfl, upd_same, R.cls, R.words, (by show 1 < 1000; decide), ?_⟩
  refine ⟨_, rfl, p, C, dx, _, rfl, upd_same, R.cls, R.place, (by show 2 < 1000; decide), ?_⟩
  refine ⟨_, rfl, p, C, dx, _, rfl, upd_same, R.cls, R.broken, (by show 3 < 1000; decide), ?_⟩
  rw [upd_upd, upd_upd, upd_upd]
  have n1 : sa ≠ p := fun z => by rw [z, hp] at hsa; cases hsa
  have n2 : wa ≠ p := fun z => by rw [z, hp] at hwa; cases hwa
  exact q _ ⟨⟨dx, upd_same⟩, by rw [upd_ne n1]; exact hsa, by rw [upd_ne n2]; exact hwa, hl, hs⟩ (Ext.ins_put hp)
theorem ok_rnext (F : FunC K "next_sign" "Reader.next_sign" sReaderNextSign f fd c) (T : Bl mg) (R : RdC K C) : FnOk P w K mg base CX0 1 f fd pReaderNextSign (spNext C) := by
  refine F.ok scReaderNextSign (fun vs H Q E h => ?_) (fun A outer s H vs Q E hr h => ?_)
  · obtain ⟨p, sa, wa, ss, ws, k, b, rfl, _⟩ := h
    rfl
  obtain ⟨p, sa, wa, ss, ws, k, b, rfl, r, q⟩ := h
  refine ⟨_, pss_one (ps_ret (pe_ifExp (pt_cmpR op_lt (pe_fld (pv 0) rfl) (pe_callB call_len_seq (by rfl) T.len PySem.boot_len (pa_cons (pe_fld (pv 0) rfl) pa_nil)) (nomark _)) (pe_ix ix_list (pe_fld (pv 0) rfl) (pe_fld (pv 0) rfl) (fun _ _ => rfl)) pe_str)), ?_⟩
  obtain ⟨dx, e⟩ := r.at_
  refine ⟨_, rfl, p, C, dx, _, _, rfl, e, R.cls, R.place, rf_place, _, rfl, p, C, dx, _, _, rfl, e, R.cls, R.signs, rf_signs, sa, _, rfl, .inl (SqL.of r.sg), _, _, rfl, rfl, _, rfl, ?_⟩
  rw [List.length_map]
  refine iteD (fun h => ?_) (fun h => ?_)
  · have h : k < ss.length := by omega
    refine ⟨_, rfl, p, C, dx, _, _, rfl, e, R.cls, R.signs, rf_signs, _, rfl, p, C, dx, _, _, rfl, e, R.cls, R.place, rf_place, sa, _, _, _, rfl, rfl, SqL.of r.sg, atI_nat (j := k) (w_getD h), q⟩
  · have h : ¬ k < ss.length := by omega
    rw [List.getD_eq_getElem?_getD, List.getElem?_eq_none (by omega)] at q
    exact q
theorem ok_rtake (F : FunC K "take" "Reader.take" sReaderTake f fd c) (R : RdC K C) (Gnextsign : CalM P w K mg base 1 C "next_sign" pReaderNextSign (spNext C)) : FnOk P w K mg base CX0 2 f fd pReaderTake (spTake C) := by
  refine F.ok scReaderTake (fun vs H Q E h => ?_) (fun A outer s H vs Q E hr h => ?_)
  · obtain ⟨p, sa, wa, ss, ws, k, b, s, rfl, _⟩ := h
    rfl
  obtain ⟨p, sa, wa, ss, ws, k, b, s, rfl, r, hs, qt, qf⟩ := h
  refine ⟨_, pss_cons (ps_if (pt_cmpR op_ne (pe_calM0 R.cls Gnextsign (hr.mono (by omega)) (pv 0)) (pv 1) (nomark _)) (pss_one (ps_ret pe_bl)) pss_nil) (pss_cons (ps_fldaug (pv 0) pe_int in_add) (pss_one (ps_ret pe_bl))), ?_⟩
  obtain ⟨dx, e⟩ := r.at_
  have key : ss.getD k (Str.ofString "") = s ↔ ss[k]? = some s := by
    rw [List.getD_eq_getElem?_getD]
    cases h : ss[k]? with
    | none => simp; exact fun z => hs z.symm
    | some x => simp
  refine ⟨_, rfl, p, dx, _, rfl, e, rfl, p, sa, wa, ss, ws, k, b, rfl, r, _, rfl, rfl, _, rfl, ?_⟩
  refine iteND (fun h => ?_) (fun h => ?_)
  · have h : ss[k]? = some s := key.mp (by injection h)
    have hlt : k < ss.length := (List.getElem?_eq_some_iff.mp h).1
    refine ⟨_, rfl, p, C, dx, _, _, rfl, e, R.cls, R.place, rf_place, _, _, rfl, rfl, dx, _, e, (by show 4 < 1000; decide), ?_⟩
    exact qt h _ (r.put (k' := k + 1)) (Ext.ins_put e)
  · exact qf fun z => h (by rw [key.mpr z])
theorem ok_rneed (F : FunC K "need" "Reader.need" sReaderNeed f fd c) (R : RdC K C) (Gtake : CalM P w K mg base 2 C "take" pReaderTake (spTake C)) : FnOk P w K mg base CX0 3 f fd pReaderNeed (spNeed C) := by
  refine F.ok scReaderNeed (fun vs H Q E h => ?_) (fun A outer s H vs Q E hr h => ?_)
  · obtain ⟨p, sa, wa, ss, ws, k, b, s, rfl, _⟩ := h
    rfl
  obtain ⟨p, sa, wa, ss, ws, k, b, s, rfl, r, hs, qt, qf⟩ := h
  refine ⟨_, pss_one (ps_if (pt_not (pt_val (pe_calM R.cls Gtake (hr.mono (by omega)) (pv 0) (pa_cons (pv 1) pa_nil)))) (pss_one (ps_fld (pv 0) pe_bl rfl)) pss_nil), ?_⟩
  obtain ⟨dx, e⟩ := r.at_
  refine ⟨_, rfl, p, dx, _, rfl, e, rfl, _, rfl, p, sa, wa, ss, ws, k, b, s, rfl, r, hs, fun h H' r' x' => ?_, fun h => ?_⟩
  · exact ⟨_, rfl, iteF (qt h H' r' x')⟩
  · refine ⟨_, rfl, iteT ?_⟩
    refine ⟨_, rfl, p, C, dx, _, rfl, e, R.cls, R.broken, (by show 4 < 1000; decide), ?_⟩
    exact qf h _ r.put (Ext.ins_put e)
theorem ok_rnumber (F : FunC K "number" "Reader.number" sReaderNumber f fd c) (R : RdC K C) (Gnextsign : CalM P w K mg base 1 C "next_sign" pReaderNextSign (spNext C)) (Gd : Cal P w K mg base 1 "digit" pDigit spDigit) : FnOk P w K mg base CX0 2 f fd pReaderNumber (spNum C) := by
  refine F.ok scReaderNumber (fun vs H Q E h => ?_) (fun A outer s H vs Q E hr h => ?_)
  · obtain ⟨p, sa, wa, ss, ws, k, b, lo, hi, rfl, _⟩ := h
    rfl
  obtain ⟨p, sa, wa, ss, ws, k, b, lo, hi, rfl, r, qt, qf⟩ := h
  refine ⟨_, pss_cons (ps_set (i := 3) scReaderNumber.nd rfl (.inl rfl) (pe_calM0 R.cls Gnextsign (hr.mono (by omega)) (pv 0))) (pss_cons (ps_fldaug (pv 0) pe_int in_add) (pss_cons (ps_set (i := 4) scReaderNumber.nd rfl (.inl rfl) (pe_cal Gd (hr.mono (by omega)) rfl (pa_cons (pv 3) (pa_cons (pv 1) (pa_cons (pv 2) pa_nil))))) (pss_cons (ps_if (pt_cmpR op_isN (pv 4) pe_non (nomark _)) (pss_cons (ps_fld (pv 0) pe_bl rfl) (pss_one (ps_ret (pv 1)))) pss_nil) (pss_one (ps_ret (pv 4)))))), ?_⟩
  obtain ⟨dx, e⟩ := r.at_
  have hz : (ss.getD k (Str.ofString "")).length ≤ 1000000 := by
    rw [List.getD_eq_getElem?_getD]
    cases h : ss[k]? with
    | none => decide
    | some x => exact Nat.le_trans (r.sml x (List.mem_of_getElem? h)) (by decide)
  refine ⟨_, rfl, p, dx, _, rfl, e, rfl, p, sa, wa, ss, ws, k, b, rfl, r, ?_⟩
  refine ⟨_, rfl, p, C, dx, _, _, rfl, e, R.cls, R.place, rf_place, _, _, rfl, rfl, dx, _, e, (by show 4 < 1000; decide), ?_⟩
  have r1 : RSt C (upd H p (.ins C dx (rfs sa wa (k + 1) b))) p sa wa ss ws (k + 1) b := r.put
  have x1 : Ext [] [p] H (upd H p (.ins C dx (rfs sa wa (k + 1) b))) := Ext.ins_put e
  refine ⟨_, rfl, _, rfl, _, rfl, _, lo, hi, rfl, hz, ?_⟩
  cases hd : digitF (ss.getD k (Str.ofString "")) lo hi with
  | none =>
    refine ⟨_, rfl, rfl, _, rfl, iteDT rfl ?_⟩
    refine ⟨_, rfl, p, C, dx, _, rfl, upd_same, R.cls, R.broken, (by show 4 < 1000; decide), ?_⟩
    exact ⟨_, rfl, qf hd _ r1.put (x1.trans (Ext.ins_put upd_same))⟩
  | some n =>
    refine ⟨_, rfl, rfl, _, rfl, iteDF (fun z => by cases z) ?_⟩
    exact ⟨_, rfl, qt n hd _ r1 x1⟩
end
end ML
set_option maxHeartbeats 4000000
namespace ML
open PySem PySem.Spec PyProof.Rows L2 TL Gn
def numI (lo hi : Int) : List Str → Option (Int × List Str)
  | [] => none
  | w :: r => (digitF w lo hi).map fun n => (n, r)
/-- the reader at p: what is still to be read, none when it is broken -/
def RP (C : Addr) (H : Hp) (p sa wa : Addr) (ss ws : List Str) (k : Nat) (cur : Option (List Str)) : Prop :=
  ∃ b, RSt C H p sa wa ss ws k b ∧ ((b = true ∧ cur = none) ∨ (b = false ∧ cur = some (ss.drop k) ∧ k ≤ ss.length))
section
variable {C p sa wa : Addr} {ss ws : List Str} {k : Nat} {H H' : Hp} {cur : Option (List Str)} {s : Str} {Q : VK} {GT : List Addr}
theorem RP.ext (r : RP C H p sa wa ss ws k cur) (x : Ext GT [] H H') : RP C H' p sa wa ss ws k cur := by
  obtain ⟨b, r, h⟩ := r
  exact ⟨b, r.ext x, h⟩
theorem RP.at_ (r : RP C H p sa wa ss ws k cur) : ∃ dx b, H p = some (.ins C dx (rfs sa wa k b)) := by
  obtain ⟨b, r, h⟩ := r
  obtain ⟨dx, e⟩ := r.at_
  exact ⟨dx, b, e⟩
theorem drop_at {l : List Str} {k : Nat} (h : l[k]? = some s) : l.drop k = s :: l.drop (k + 1) := by
  obtain ⟨hlt, e⟩ := List.getElem?_eq_some_iff.mp h
  rw [List.drop_eq_getElem_cons hlt, e]
theorem take_of (r : RP C H p sa wa ss ws k cur) (hs : s ≠ "") (T : ∀ H', Ext [] [p] H H' → k < ss.length → RP C H' p sa wa ss ws (k + 1) (cur.map List.tail) → (∀ l, cur = some l → ∃ r, l = s :: r) → Q (.bl true) H')
    (N : (∀ l, cur = some l → l = [] ∨ ∃ x r, l = x :: r ∧ x ≠ s) → Q (.bl false) H) : spTake C [.ref p, .str s] H Q E0 := by
  obtain ⟨b, r, h⟩ := r
  refine ⟨p, sa, wa, ss, ws, k, b, s, rfl, r, hs, fun e H' r' x' => ?_, fun e => ?_⟩
  · have hlt := (List.getElem?_eq_some_iff.mp e).1
    refine T H' x' hlt ⟨b, r', ?_⟩ fun l hl => ?_
    · rcases h with ⟨hb, rfl⟩ | ⟨hb, rfl, hk⟩
      · exact .inl ⟨hb, rfl⟩
      · refine .inr ⟨hb, ?_, hlt⟩
        rw [drop_at e]
        rfl
    · rcases h with ⟨hb, rfl⟩ | ⟨hb, rfl, hk⟩
      · cases hl
      · cases hl
        exact ⟨_, drop_at e⟩
  · refine N fun l hl => ?_
    rcases h with ⟨hb, rfl⟩ | ⟨hb, rfl, hk⟩
    · cases hl
    · cases hl
      cases hd : ss[k]? with
      | none => exact .inl (List.drop_eq_nil_of_le (List.getElem?_eq_none_iff.mp hd))
      | some x => exact .inr ⟨x, _, drop_at hd, fun z => e (by rw [hd, z])⟩
theorem need_of (r : RP C H p sa wa ss ws k cur) (hs : s ≠ "") (h : ∀ H' k', Ext [] [p] H H' → k ≤ k' → RP C H' p sa wa ss ws k' (cur.bind (expect s)) → Q .non H') : spNeed C [.ref p, .str s] H Q E0 := by
  obtain ⟨b, r, hb⟩ := r
  refine ⟨p, sa, wa, ss, ws, k, b, s, rfl, r, hs, fun e H' r' x' => ?_, fun e H' r' x' => ?_⟩
  · refine h H' (k + 1) x' (Nat.le_succ _) ⟨b, r', ?_⟩
    rcases hb with ⟨hb, rfl⟩ | ⟨hb, rfl, hk⟩
    · exact .inl ⟨hb, rfl⟩
    · refine .inr ⟨hb, ?_, (List.getElem?_eq_some_iff.mp e).1⟩
      rw [drop_at e]
      exact if_pos rfl
  · refine h H' k x' (Nat.le_refl _) ⟨true, r', .inl ⟨rfl, ?_⟩⟩
    rcases hb with ⟨hb, rfl⟩ | ⟨hb, rfl, hk⟩
    · rfl
    · cases hd : ss[k]? with
      | none =>
        rw [List.drop_eq_nil_of_le (List.getElem?_eq_none_iff.mp hd)]
        rfl
      | some x =>
        rw [drop_at hd]
        exact if_neg fun z => e (by rw [hd, z])
theorem getD_at {l : List Str} {k : Nat} {x : Str} (h : l[k]? = some x) : l.getD k (Str.ofString "") = x := by
  rw [List.getD_eq_getElem?_getD, h]
  rfl
theorem digit_nil {lo hi : Int} : digitF (Str.ofString "") lo hi = none := by
  unfold digitF
  rw [show tl (Str.ofString "") = [] by decide]
theorem num_of {lo hi : Int} (r : RP C H p sa wa ss ws k cur) (h : ∀ n H' k', Ext [] [p] H H' → k ≤ k' → RP C H' p sa wa ss ws k' ((cur.bind (numI lo hi)).map (·.2)) → (∀ x, cur.bind (numI lo hi) = some x → n = x.1) → Q (.int n) H') : spNum C [.ref p, .int lo, .int hi] H Q E0 := by
  obtain ⟨b, r, hb⟩ := r
  refine ⟨p, sa, wa, ss, ws, k, b, lo, hi, rfl, r, fun n e H' r' x' => ?_, fun e H' r' x' => ?_⟩
  · have hk : ∃ x, ss[k]? = some x := by
      cases hd : ss[k]? with
      | none =>
        rw [List.getD_eq_getElem?_getD, hd] at e
        rw [show (none : Option Str).getD (Str.ofString "") = Str.ofString "" from rfl, digit_nil] at e
        cases e
      | some x => exact ⟨x, rfl⟩
    obtain ⟨x, hx⟩ := hk
    rw [getD_at hx] at e
    refine h n H' (k + 1) x' (Nat.le_succ _) ⟨b, r', ?_⟩ fun y hy => ?_
    · rcases hb with ⟨hb, rfl⟩ | ⟨hb, rfl, hk⟩
      · exact .inl ⟨hb, rfl⟩
      · refine .inr ⟨hb, ?_, (List.getElem?_eq_some_iff.mp hx).1⟩
        rw [drop_at hx]
        show ((digitF x lo hi).map fun n => (n, ss.drop (k + 1))).map (·.2) = _
        rw [e]
        rfl
    · rcases hb with ⟨hb, rfl⟩ | ⟨hb, rfl, hk⟩
      · cases hy
      · rw [drop_at hx] at hy
        have hy : ((digitF x lo hi).map fun n => (n, ss.drop (k + 1))) = some y := hy
        rw [e] at hy
        cases hy
        rfl
  · have hn : cur.bind (numI lo hi) = none := by
      rcases hb with ⟨hb, rfl⟩ | ⟨hb, rfl, hk⟩
      · rfl
      · cases hd : ss[k]? with
        | none =>
          rw [List.drop_eq_nil_of_le (List.getElem?_eq_none_iff.mp hd)]
          rfl
        | some x =>
          rw [getD_at hd] at e
          rw [drop_at hd]
          show ((digitF x lo hi).map fun n => (n, ss.drop (k + 1))) = none
          rw [e]
          rfl
    refine h lo H' (k + 1) x' (Nat.le_succ _) ⟨true, r', .inl ⟨rfl, by rw [hn]; rfl⟩⟩ fun y hy => ?_
    rw [hn] at hy
    cases hy
end
def spOffs (C : Addr) : Sp := fun vs H Q _ => ∃ p sa wa ss ws k cur, vs = [.ref p] ∧ RP C H p sa wa ss ws k cur ∧
  ∀ n H' k', Ext [] [p] H H' → k ≤ k' → RP C H' p sa wa ss ws k' ((cur.bind offsetF).map (·.2)) → (∀ x, cur.bind offsetF = some x → n = x.1) → Q (.int n) H'
/-- a method that reads a term: d the depth told, pf the reader -/
def spPar (C : Addr) (d : Int) (pf : List Str → List Str → PR) : Sp := fun vs H Q _ => ∃ p sa wa ss ws k cur, vs = [.ref p, .int d] ∧ RP C H p sa wa ss ws k cur ∧ (∀ z ∈ ws, z ≠ "") ∧
  ∀ v H' k', Ext [] [p] H H' → k ≤ k' → RP C H' p sa wa ss ws k' ((cur.bind (pf ws)).map (·.2)) → (∀ x, cur.bind (pf ws) = some x → DAt H' v x.1.d) → Q v H'
section
variable {P : Program} {w : World} {K : PySem.W.Frag} {mg : Str → Option Value} {base : Heap} {f c C : Addr} {fd : FuncData}
theorem ok_roffset (F : FunC K "offset" "Reader.offset" sReaderOffset f fd c) (Gv : Gc K mg) (R : RdC K C) (Gtake : CalM P w K mg base 2 C "take" pReaderTake (spTake C)) (Gnumber : CalM P w K mg base 2 C "number" pReaderNumber (spNum C)) : FnOk P w K mg base CX0 3 f fd pReaderOffset (spOffs C) := by
  refine F.ok scReaderOffset (fun vs H Q E h => ?_) (fun A outer s H vs Q E hr h => ?_)
  · obtain ⟨p, sa, wa, ss, ws, k, cur, rfl, _⟩ := h
    rfl
  obtain ⟨p, sa, wa, ss, ws, k, cur, rfl, r, q⟩ := h
  have hMOSTREACH := Gv.mostReach.choose_spec
  refine ⟨_, pss_cons (ps_if (pt_val (pe_calM R.cls Gtake (hr.mono (by omega)) (pv 0) (pa_cons pe_str pa_nil))) (pss_one (ps_ret (pe_calM R.cls Gnumber (hr.mono (by omega)) (pv 0) (pa_cons pe_int (pa_cons (pe_glob (v := .int 2) (by rfl) hMOSTREACH ⟨_, rfl⟩) pa_nil))))) pss_nil) (pss_cons (ps_if (pt_val (pe_calM R.cls Gtake (hr.mono (by omega)) (pv 0) (pa_cons pe_str pa_nil))) (pss_one (ps_ret (pe_op op_sub pe_int (pe_calM R.cls Gnumber (hr.mono (by omega)) (pv 0) (pa_cons pe_int (pa_cons (pe_glob (v := .int 2) (by rfl) hMOSTREACH ⟨_, rfl⟩) pa_nil)))))) pss_nil) (pss_one (ps_ret pe_int))), ?_⟩
  obtain ⟨dx, b, e⟩ := r.at_
  refine ⟨_, rfl, p, dx, _, rfl, e, rfl, ?_⟩
  dsimp only [tCons, tC, tNil, List.cons_append, List.nil_append]
  refine take_of (s := "@+") r (by decide) (fun H1 x1 _ r1 l1 => ⟨_, rfl, iteT ?_⟩) (fun l0 => ⟨_, rfl, iteF ?_⟩)
  · obtain ⟨dx, b, e⟩ := r1.at_
    refine ⟨_, rfl, p, dx, _, rfl, e, rfl, ?_⟩
    dsimp only [tCons, tC, tNil, List.cons_append, List.nil_append]
    refine num_of r1 (fun n H2 k2 x2 hk r2 hn => ?_)
    have eo : (cur.map List.tail).bind (numI 1 2) = cur.bind offsetF := by
      cases cur with
      | none => rfl
      | some l =>
        obtain ⟨tq, rfl⟩ := l1 l rfl
        cases tq <;> rfl
    rw [eo] at r2 hn
    exact q n H2 k2 (x1.trans x2) (by omega) r2 hn
  · refine ⟨_, rfl, p, dx, _, rfl, e, rfl, ?_⟩
    dsimp only [tCons, tC, tNil, List.cons_append, List.nil_append]
    refine take_of (s := "@-") r (by decide) (fun H1 x1 _ r1 l1 => ⟨_, rfl, iteT ?_⟩) (fun l2 => ⟨_, rfl, iteF ?_⟩)
    · obtain ⟨dx, b, e⟩ := r1.at_
      refine ⟨_, rfl, p, dx, _, rfl, e, rfl, ?_⟩
      dsimp only [tCons, tC, tNil, List.cons_append, List.nil_append]
      refine num_of r1 (fun n H2 k2 x2 hk r2 hn => ?_)
      have eo : ((cur.map List.tail).bind (numI 1 2)).map (fun x => (0 - x.1, x.2)) = cur.bind offsetF := by
        cases cur with
        | none => rfl
        | some l =>
          obtain ⟨tq, rfl⟩ := l1 l rfl
          cases tq with
          | nil => rfl
          | cons w tr =>
            show ((digitF w 1 2).map fun n => (n, tr)).map (fun x => ((0 : Int) - x.1, x.2)) = (digitF w 1 2).map fun n => ((0 : Int) - n, tr)
            cases digitF w 1 2 <;> rfl
      have e2 : ((cur.map List.tail).bind (numI 1 2)).map (·.2) = (cur.bind offsetF).map (·.2) := by
        rw [← eo, Option.map_map]
        rfl
      rw [e2] at r2
      refine ⟨_, _, rfl, rfl, q (0 - n) H2 k2 (x1.trans x2) (by omega) r2 fun x hx => ?_⟩
      rw [← eo] at hx
      obtain ⟨y, hy, rfl⟩ := Option.map_eq_some_iff.mp hx
      rw [hn y hy]
    · have eo : cur.bind offsetF = cur.map fun l => ((0 : Int), l) := by
        cases cur with
        | none => rfl
        | some l =>
          rcases l0 l rfl with rfl | ⟨x, r0, rfl, hx⟩
          · rfl
          · rcases l2 _ rfl with z | ⟨x2, r2, z, hx2⟩
            · cases z
            · cases z
              show (if _ then _ else if _ then _ else _) = _
              rw [if_neg hx, if_neg hx2]
              rfl
      refine q 0 H k .refl (Nat.le_refl _) ?_ fun x hx => ?_
      · rw [eo, Option.map_map]
        have : (fun l => ((0 : Int), l)) = (fun l : List Str => ((0 : Int), l)) := rfl
        show RP C H p sa wa ss ws k (cur.map fun l => l)
        rw [Option.map_id']
        exact r
      · rw [eo] at hx
        obtain ⟨l, _, rfl⟩ := Option.map_eq_some_iff.mp hx
        rfl
theorem ok_rproduct {d : Int} {n : Nat} {pf : List Str → List Str → PR} (hpf : ∀ ws, Shr (pf ws)) (F : FunC K "product" "Reader.product" sReaderProduct f fd c) (R : RdC K C) (Gtake : CalM P w K mg base 2 C "take" pReaderTake (spTake C)) (hn : 2 ≤ n) (Galone : CalM P w K mg base n C "alone" pReaderAlone (spPar C d pf)) :
    FnOk P w K mg base CX0 (n + 1) f fd pReaderProduct (spPar C d fun ws => chainF (pf ws) opM) := by
  refine F.ok scReaderProduct (fun vs H Q E h => ?_) (fun A outer s H vs Q E hr h => ?_)
  · obtain ⟨p, sa, wa, ss, ws, k, cur, rfl, _⟩ := h
    rfl
  obtain ⟨p, sa, wa, ss, ws, k, cur, rfl, r, hws, q⟩ := h
  refine ⟨_, pss_cons (ps_set (i := 2) scReaderProduct.nd rfl (.inl rfl) (pe_calM R.cls Galone (hr.mono (by omega)) (pv 0) (pa_cons (pv 1) pa_nil))) (pss_cons (ps_while PassesOwn.never (pt_val (pe_calM R.cls Gtake (hr.mono (by omega)) (pv 0) (pa_cons pe_str pa_nil))) (pss_one (ps_set (i := 2) scReaderProduct.nd rfl (.inl rfl) (pe_tup (pa_cons pe_str (pa_cons (pv 2) (pa_cons (pe_calM R.cls Galone (hr.mono (by omega)) (pv 0) (pa_cons (pv 1) pa_nil)) pa_nil))))))) (pss_one (ps_ret (pv 2)))), ?_⟩
  obtain ⟨dx, b, e⟩ := r.at_
  refine ⟨_, rfl, p, dx, _, rfl, e, rfl, _, rfl, ?_⟩
  refine ⟨p, sa, wa, ss, ws, k, cur, rfl, r, hws, fun v1 H1 k1 x1 hk1 r1 d1 => ?_⟩
  have L : ∀ x, (cur.bind fun l => chainF (pf ws) opM l) = x → x = ((cur.bind (pf ws)).bind fun x => chL (pf ws) opM x.1 x.2) := fun x hx => by
    rw [← hx]
    cases cur with
    | none => rfl
    | some l => exact chain_eq
  refine ⟨fun m σ' H' => ∃ (v : V) (k' : Nat) (tj : Tm) (cj : Option (List Str)), σ' = [some (.ref p), some (.int d), some v] ∧ m = ss.length - k' ∧ Ext [] [p] H H' ∧ k ≤ k' ∧ RP C H' p sa wa ss ws k' cj ∧
    (cj = none → (cur.bind fun l => chainF (pf ws) opM l) = none) ∧ (∀ l, cj = some l → DAt H' v tj.d ∧ (cur.bind fun l => chainF (pf ws) opM l) = chL (pf ws) opM tj l), ?_, ?_⟩
  · cases e1 : cur.bind (pf ws) with
    | none =>
      rw [e1] at r1
      exact ⟨_, v1, k1, .isc 0, none, rfl, rfl, x1, hk1, r1, (fun _ => by rw [L _ rfl, e1]; rfl), (fun l hl => by cases hl)⟩
    | some y =>
      rw [e1] at r1
      exact ⟨_, v1, k1, y.1, some y.2, rfl, rfl, x1, hk1, r1, (fun z => by cases z), (fun l hl => by cases hl; exact ⟨d1 y e1, by rw [L _ rfl, e1]; rfl⟩)⟩
  rintro m σ' H2 ⟨v, k2, tj, cj, rfl, rfl, x2, hk2, r2, ln, ls⟩
  obtain ⟨dx, b, e⟩ := r2.at_
  refine ⟨_, rfl, p, dx, _, rfl, e, rfl, ?_⟩
  dsimp only [tCons, tC, tNil, List.cons_append, List.nil_append]
  refine take_of (s := "*") r2 (by decide) (fun H3 x3 hlt r3 l3 => ⟨_, rfl, iteT ?_⟩) (fun l3 => ⟨_, rfl, iteF ?_⟩)
  · refine ⟨_, fun _ _ h => h, ?_⟩
    obtain ⟨dx, b, e⟩ := r3.at_
    refine ⟨_, rfl, _, rfl, p, dx, _, rfl, e, rfl, _, rfl, ?_⟩
    refine ⟨p, sa, wa, ss, ws, k2 + 1, cj.map List.tail, rfl, r3, hws, fun v4 H4 k4 x4 hk4 r4 d4 => ?_⟩
    refine ⟨(by show 3 ≤ sizeLine; decide), fun pt hpt => ?_⟩
    have xt : Ext [] [] H4 (upd H4 pt (.tup [.str "times", v, v4])) := .new hpt
    have x5 : Ext [] [p] H (upd H4 pt (.tup [.str "times", v, v4])) := ((x2.trans x3).trans x4).trans xt.wide
    cases cj with
    | none => exact ⟨_, by omega, .ref pt, k4, .isc 0, none, rfl, rfl, x5, by omega, r4.ext xt, (fun _ => ln rfl), (fun l hl => by cases hl)⟩
    | some l =>
      obtain ⟨dv, el⟩ := ls l rfl
      obtain ⟨tr, rfl⟩ := l3 l rfl
      have ho : opM "*" = some .times := rfl
      cases e4 : pf ws tr with
      | none =>
        have eb : ((some (Str.ofString "*" :: tr)).map List.tail).bind (pf ws) = none := e4
        rw [eb] at r4
        exact ⟨_, by omega, .ref pt, k4, .isc 0, none, rfl, rfl, x5, by omega, r4.ext xt, (fun _ => by rw [el, chL_bad ho e4]), (fun l hl => by cases hl)⟩
      | some y =>
        have eb : ((some (Str.ofString "*" :: tr)).map List.tail).bind (pf ws) = some y := e4
        rw [eb] at r4
        refine ⟨_, by omega, .ref pt, k4, .bin .times tj y.1, some y.2, rfl, rfl, x5, by omega, r4.ext xt, (fun z => by cases z), fun l hl => ?_⟩
        cases hl
        refine ⟨.mk3 upd_same (.str _) (((dv.ext x3).ext x4).ext xt) ((d4 y eb).ext xt), ?_⟩
        rw [el, chL_go (hpf ws) ho e4]
  · refine ⟨_, rfl, q v H2 k2 x2 hk2 ?_ fun x hx => ?_⟩
    · cases cj with
      | none =>
        rw [ln rfl]
        exact r2
      | some l =>
        obtain ⟨dv, el⟩ := ls l rfl
        rw [el]
        rcases l3 l rfl with rfl | ⟨x, tr, rfl, hx⟩
        · rw [chL_nil]
          exact r2
        · rw [chL_stop (if_neg hx)]
          exact r2
    · cases cj with
      | none =>
        rw [ln rfl] at hx
        cases hx
      | some l =>
        obtain ⟨dv, el⟩ := ls l rfl
        rw [el] at hx
        rcases l3 l rfl with rfl | ⟨y, tr, rfl, hy⟩
        · rw [chL_nil] at hx
          cases hx
          exact dv
        · rw [chL_stop (if_neg hy)] at hx
          cases hx
          exact dv
theorem ok_radded {d : Int} {n : Nat} {pf : List Str → List Str → PR} (hpf : ∀ ws, Shr (pf ws)) (F : FunC K "added" "Reader.added" sReaderAdded f fd c) (R : RdC K C) (Gtake : CalM P w K mg base 2 C "take" pReaderTake (spTake C)) (hn : 2 ≤ n) (Gproduct : CalM P w K mg base n C "product" pReaderProduct (spPar C d pf)) :
    FnOk P w K mg base CX0 (n + 1) f fd pReaderAdded (spPar C d fun ws => chainF (pf ws) opA) := by
  refine F.ok scReaderAdded (fun vs H Q E h => ?_) (fun A outer s H vs Q E hr h => ?_)
  · obtain ⟨p, sa, wa, ss, ws, k, cur, rfl, _⟩ := h
    rfl
  obtain ⟨p, sa, wa, ss, ws, k, cur, rfl, r, hws, q⟩ := h
  refine ⟨_, pss_cons (ps_set (i := 2) scReaderAdded.nd rfl (.inl rfl) (pe_calM R.cls Gproduct (hr.mono (by omega)) (pv 0) (pa_cons (pv 1) pa_nil))) (pss_cons (ps_while PassesOwn.never (pt_val (pe_calM R.cls Gtake (hr.mono (by omega)) (pv 0) (pa_cons pe_str pa_nil))) (pss_one (ps_set (i := 2) scReaderAdded.nd rfl (.inl rfl) (pe_tup (pa_cons pe_str (pa_cons (pv 2) (pa_cons (pe_calM R.cls Gproduct (hr.mono (by omega)) (pv 0) (pa_cons (pv 1) pa_nil)) pa_nil))))))) (pss_one (ps_ret (pv 2)))), ?_⟩
  obtain ⟨dx, b, e⟩ := r.at_
  refine ⟨_, rfl, p, dx, _, rfl, e, rfl, _, rfl, ?_⟩
  refine ⟨p, sa, wa, ss, ws, k, cur, rfl, r, hws, fun v1 H1 k1 x1 hk1 r1 d1 => ?_⟩
  have L : ∀ x, (cur.bind fun l => chainF (pf ws) opA l) = x → x = ((cur.bind (pf ws)).bind fun x => chL (pf ws) opA x.1 x.2) := fun x hx => by
    rw [← hx]
    cases cur with
    | none => rfl
    | some l => exact chain_eq
  refine ⟨fun m σ' H' => ∃ (v : V) (k' : Nat) (tj : Tm) (cj : Option (List Str)), σ' = [some (.ref p), some (.int d), some v] ∧ m = ss.length - k' ∧ Ext [] [p] H H' ∧ k ≤ k' ∧ RP C H' p sa wa ss ws k' cj ∧
    (cj = none → (cur.bind fun l => chainF (pf ws) opA l) = none) ∧ (∀ l, cj = some l → DAt H' v tj.d ∧ (cur.bind fun l => chainF (pf ws) opA l) = chL (pf ws) opA tj l), ?_, ?_⟩
  · cases e1 : cur.bind (pf ws) with
    | none =>
      rw [e1] at r1
      exact ⟨_, v1, k1, .isc 0, none, rfl, rfl, x1, hk1, r1, (fun _ => by rw [L _ rfl, e1]; rfl), (fun l hl => by cases hl)⟩
    | some y =>
      rw [e1] at r1
      exact ⟨_, v1, k1, y.1, some y.2, rfl, rfl, x1, hk1, r1, (fun z => by cases z), (fun l hl => by cases hl; exact ⟨d1 y e1, by rw [L _ rfl, e1]; rfl⟩)⟩
  rintro m σ' H2 ⟨v, k2, tj, cj, rfl, rfl, x2, hk2, r2, ln, ls⟩
  obtain ⟨dx, b, e⟩ := r2.at_
  refine ⟨_, rfl, p, dx, _, rfl, e, rfl, ?_⟩
  dsimp only [tCons, tC, tNil, List.cons_append, List.nil_append]
  refine take_of (s := "+") r2 (by decide) (fun H3 x3 hlt r3 l3 => ⟨_, rfl, iteT ?_⟩) (fun l3 => ⟨_, rfl, iteF ?_⟩)
  · refine ⟨_, fun _ _ h => h, ?_⟩
    obtain ⟨dx, b, e⟩ := r3.at_
    refine ⟨_, rfl, _, rfl, p, dx, _, rfl, e, rfl, _, rfl, ?_⟩
    refine ⟨p, sa, wa, ss, ws, k2 + 1, cj.map List.tail, rfl, r3, hws, fun v4 H4 k4 x4 hk4 r4 d4 => ?_⟩
    refine ⟨(by show 3 ≤ sizeLine; decide), fun pt hpt => ?_⟩
    have xt : Ext [] [] H4 (upd H4 pt (.tup [.str "plus", v, v4])) := .new hpt
    have x5 : Ext [] [p] H (upd H4 pt (.tup [.str "plus", v, v4])) := ((x2.trans x3).trans x4).trans xt.wide
    cases cj with
    | none => exact ⟨_, by omega, .ref pt, k4, .isc 0, none, rfl, rfl, x5, by omega, r4.ext xt, (fun _ => ln rfl), (fun l hl => by cases hl)⟩
    | some l =>
      obtain ⟨dv, el⟩ := ls l rfl
      obtain ⟨tr, rfl⟩ := l3 l rfl
      have ho : opA "+" = some .plus := rfl
      cases e4 : pf ws tr with
      | none =>
        have eb : ((some (Str.ofString "+" :: tr)).map List.tail).bind (pf ws) = none := e4
        rw [eb] at r4
        exact ⟨_, by omega, .ref pt, k4, .isc 0, none, rfl, rfl, x5, by omega, r4.ext xt, (fun _ => by rw [el, chL_bad ho e4]), (fun l hl => by cases hl)⟩
      | some y =>
        have eb : ((some (Str.ofString "+" :: tr)).map List.tail).bind (pf ws) = some y := e4
        rw [eb] at r4
        refine ⟨_, by omega, .ref pt, k4, .bin .plus tj y.1, some y.2, rfl, rfl, x5, by omega, r4.ext xt, (fun z => by cases z), fun l hl => ?_⟩
        cases hl
        refine ⟨.mk3 upd_same (.str _) (((dv.ext x3).ext x4).ext xt) ((d4 y eb).ext xt), ?_⟩
        rw [el, chL_go (hpf ws) ho e4]
  · refine ⟨_, rfl, q v H2 k2 x2 hk2 ?_ fun x hx => ?_⟩
    · cases cj with
      | none =>
        rw [ln rfl]
        exact r2
      | some l =>
        obtain ⟨dv, el⟩ := ls l rfl
        rw [el]
        rcases l3 l rfl with rfl | ⟨x, tr, rfl, hx⟩
        · rw [chL_nil]
          exact r2
        · rw [chL_stop (if_neg hx)]
          exact r2
    · cases cj with
      | none =>
        rw [ln rfl] at hx
        cases hx
      | some l =>
        obtain ⟨dv, el⟩ := ls l rfl
        rw [el] at hx
        rcases l3 l rfl with rfl | ⟨y, tr, rfl, hy⟩
        · rw [chL_nil] at hx
          cases hx
          exact dv
        · rw [chL_stop (if_neg hy)] at hx
          cases hx
          exact dv
theorem ok_rcompare {d : Int} {n : Nat} {pf : List Str → List Str → PR} (F : FunC K "compare" "Reader.compare" sReaderCompare f fd c) (R : RdC K C) (Gtake : CalM P w K mg base 2 C "take" pReaderTake (spTake C)) (hn : 2 ≤ n) (Gadded : CalM P w K mg base n C "added" pReaderAdded (spPar C d pf)) :
    FnOk P w K mg base CX0 (n + 1) f fd pReaderCompare (spPar C d fun ws => compF (pf ws)) := by
  refine F.ok scReaderCompare (fun vs H Q E h => ?_) (fun A outer s H vs Q E hr h => ?_)
  · obtain ⟨p, sa, wa, ss, ws, k, cur, rfl, _⟩ := h
    rfl
  obtain ⟨p, sa, wa, ss, ws, k, cur, rfl, r, hws, q⟩ := h
  refine ⟨_, pss_cons (ps_set (i := 2) scReaderCompare.nd rfl (.inl rfl) (pe_calM R.cls Gadded (hr.mono (by omega)) (pv 0) (pa_cons (pv 1) pa_nil))) (pss_cons (ps_if (pt_val (pe_calM R.cls Gtake (hr.mono (by omega)) (pv 0) (pa_cons pe_str pa_nil))) (pss_one (ps_ret (pe_tup (pa_cons pe_str (pa_cons (pv 2) (pa_cons (pe_calM R.cls Gadded (hr.mono (by omega)) (pv 0) (pa_cons (pv 1) pa_nil)) pa_nil)))))) pss_nil) (pss_cons (ps_if (pt_val (pe_calM R.cls Gtake (hr.mono (by omega)) (pv 0) (pa_cons pe_str pa_nil))) (pss_one (ps_ret (pe_tup (pa_cons pe_str (pa_cons (pv 2) (pa_cons (pe_calM R.cls Gadded (hr.mono (by omega)) (pv 0) (pa_cons (pv 1) pa_nil)) pa_nil)))))) pss_nil) (pss_one (ps_ret (pv 2))))), ?_⟩
  obtain ⟨dx, b, e⟩ := r.at_
  refine ⟨_, rfl, p, dx, _, rfl, e, rfl, _, rfl, ?_⟩
  refine ⟨p, sa, wa, ss, ws, k, cur, rfl, r, hws, fun v1 H1 k1 x1 hk1 r1 d1 => ?_⟩
  have L : (cur.bind fun l => compF (pf ws) l) = (cur.bind (pf ws)).bind fun x => compR (pf ws) x.1 x.2 := by
    cases cur with
    | none => rfl
    | some l => exact comp_eq
  obtain ⟨dx, b, e⟩ := r1.at_
  refine ⟨_, rfl, p, dx, _, rfl, e, rfl, ?_⟩
  dsimp only [tCons, tC, tNil, List.cons_append, List.nil_append]
  refine take_of (s := "==") r1 (by decide) (fun H3 x3 hlt r3 l3 => ⟨_, rfl, iteT ?_⟩) (fun l3 => ⟨_, rfl, iteF ?_⟩)
  · obtain ⟨dx, b, e⟩ := r3.at_
    refine ⟨_, rfl, _, rfl, p, dx, _, rfl, e, rfl, _, rfl, ?_⟩
    refine ⟨p, sa, wa, ss, ws, k1 + 1, _, rfl, r3, hws, fun v4 H4 k4 x4 hk4 r4 d4 => ?_⟩
    refine ⟨(by show 3 ≤ sizeLine; decide), fun pt hpt => ?_⟩
    have xt : Ext [] [] H4 (upd H4 pt (.tup [.str "same", v1, v4])) := .new hpt
    have x5 : Ext [] [p] H (upd H4 pt (.tup [.str "same", v1, v4])) := ((x1.trans x3).trans x4).trans xt.wide
    cases e1 : cur.bind (pf ws) with
    | none =>
      rw [e1] at r4 L
      have L : (cur.bind fun l => compF (pf ws) l) = none := L
      refine q _ _ k4 x5 (by omega) ?_ fun x hx => by rw [L] at hx; cases hx
      rw [L]
      exact r4.ext xt
    | some y =>
      obtain ⟨t1, q1⟩ := y
      rw [e1] at l3 r4 L d4
      obtain ⟨tr, er⟩ := l3 q1 rfl
      subst er
      have L : (cur.bind fun l => compF (pf ws) l) = (pf ws tr).map fun z => (.bin .same t1 z.1, z.2) := by
        rw [L]
        exact compR_go (p := pf ws) (t := t1) (r := tr) (show opC "==" = some .same from rfl)
      have eb : (((some (t1, Str.ofString "==" :: tr)).map (·.2)).map List.tail).bind (pf ws) = pf ws tr := rfl
      rw [eb] at r4 d4
      refine q _ _ k4 x5 (by omega) ?_ fun x hx => ?_
      · rw [L, Option.map_map]
        exact r4.ext xt
      · rw [L] at hx
        obtain ⟨z, hz, rfl⟩ := Option.map_eq_some_iff.mp hx
        exact .mk3 upd_same (.str _) ((((d1 _ e1).ext x3).ext x4).ext xt) ((d4 z hz).ext xt)
  · refine ⟨_, rfl, p, dx, _, rfl, e, rfl, ?_⟩
    dsimp only [tCons, tC, tNil, List.cons_append, List.nil_append]
    have l0 := l3
    clear l3
    refine take_of (s := "<") r1 (by decide) (fun H3 x3 hlt r3 l3 => ⟨_, rfl, iteT ?_⟩) (fun l3 => ⟨_, rfl, iteF ?_⟩)
    · obtain ⟨dx, b, e⟩ := r3.at_
      refine ⟨_, rfl, _, rfl, p, dx, _, rfl, e, rfl, _, rfl, ?_⟩
      refine ⟨p, sa, wa, ss, ws, k1 + 1, _, rfl, r3, hws, fun v4 H4 k4 x4 hk4 r4 d4 => ?_⟩
      refine ⟨(by show 3 ≤ sizeLine; decide), fun pt hpt => ?_⟩
      have xt : Ext [] [] H4 (upd H4 pt (.tup [.str "less", v1, v4])) := .new hpt
      have x5 : Ext [] [p] H (upd H4 pt (.tup [.str "less", v1, v4])) := ((x1.trans x3).trans x4).trans xt.wide
      cases e1 : cur.bind (pf ws) with
      | none =>
        rw [e1] at r4 L
        have L : (cur.bind fun l => compF (pf ws) l) = none := L
        refine q _ _ k4 x5 (by omega) ?_ fun x hx => by rw [L] at hx; cases hx
        rw [L]
        exact r4.ext xt
      | some y =>
        obtain ⟨t1, q1⟩ := y
        rw [e1] at l3 r4 L d4
        obtain ⟨tr, er⟩ := l3 q1 rfl
        subst er
        have L : (cur.bind fun l => compF (pf ws) l) = (pf ws tr).map fun z => (.bin .less t1 z.1, z.2) := by
          rw [L]
          exact compR_go (p := pf ws) (t := t1) (r := tr) (show opC "<" = some .less from rfl)
        have eb : (((some (t1, Str.ofString "<" :: tr)).map (·.2)).map List.tail).bind (pf ws) = pf ws tr := rfl
        rw [eb] at r4 d4
        refine q _ _ k4 x5 (by omega) ?_ fun x hx => ?_
        · rw [L, Option.map_map]
          exact r4.ext xt
        · rw [L] at hx
          obtain ⟨z, hz, rfl⟩ := Option.map_eq_some_iff.mp hx
          exact .mk3 upd_same (.str _) ((((d1 _ e1).ext x3).ext x4).ext xt) ((d4 z hz).ext xt)
    · refine ⟨_, rfl, ?_⟩
      have L2 : (cur.bind fun l => compF (pf ws) l) = cur.bind (pf ws) := by
        rw [L]
        cases e1 : cur.bind (pf ws) with
        | none => rfl
        | some y =>
          obtain ⟨t1, q1⟩ := y
          rw [e1] at l0 l3
          show compR (pf ws) t1 q1 = _
          rcases l0 q1 rfl with er | ⟨s1, tr, er, h1⟩
          · rw [er]
            rfl
          · rcases l3 q1 rfl with z | ⟨s2, tr2, er2, h2⟩
            · rw [er] at z; cases z
            · rw [er] at er2
              cases er2
              rw [er, compR_stop (by unfold opC; rw [if_neg h1, if_neg h2])]
      refine q v1 H1 k1 x1 hk1 ?_ fun x hx => ?_
      · rw [L2]
        exact r1
      · rw [L2] at hx
        exact d1 x hx
end
end ML
set_option maxHeartbeats 4000000
namespace ML
open PySem PySem.Spec PyProof.Rows L2 TL Gn
/-- what brackets read, behind their word -/
def brF (side : List Str → PR) (word : Str) (r : List Str) : PR :=
  if word = "(" then (side r).bind fun x => (expect ")" x.2).bind fun r' => some (x.1, r') else if word = "pick" then pickF side r else restF side r
def spBr (C : Addr) (d : Int) (side : List Str → List Str → PR) : Sp := fun vs H Q _ => ∃ p sa wa ss ws k word tr, vs = [.ref p, .str word, .int d] ∧ RP C H p sa wa ss ws k (some (word :: tr)) ∧ (∀ z ∈ ws, z ≠ "") ∧ (word = "(" ∨ word = "pick" ∨ word = "rest") ∧
  ∀ v H' k', Ext [] [p] H H' → k ≤ k' → RP C H' p sa wa ss ws k' ((brF (side ws) word tr).map (·.2)) → (∀ x, brF (side ws) word tr = some x → DAt H' v x.1.d) → Q v H'
section
variable {P : Program} {w : World} {K : PySem.W.Frag} {mg : Str → Option Value} {base : Heap} {f c C : Addr} {fd : FuncData}
theorem RP.adv {p sa wa : Addr} {ss ws : List Str} {k : Nat} {H : Hp} {s : Str} {tr : List Str} {dx : Addr} {b : Bool} (r : RP C H p sa wa ss ws k (some (s :: tr))) (e : H p = some (.ins C dx (rfs sa wa k b))) :
    RP C (upd H p (.ins C dx (rfs sa wa (k + 1) b))) p sa wa ss ws (k + 1) (some tr) := by
  obtain ⟨b', r, h⟩ := r
  obtain ⟨dx', e'⟩ := r.at_
  rcases h with ⟨_, h⟩ | ⟨hb, h, hk⟩
  · cases h
  have h : s :: tr = ss.drop k := Option.some.inj h
  rw [e] at e'
  injection e' with e'
  injection e' with _ _ e'
  have eb : b = b' := by
    have this : some (V.bl b) = some (V.bl b') := congrArg (fun fs => List.lookup ("broken" : Str) fs) e'
    injection this with this
    injection this
  subst eb
  have hlt : k < ss.length := by
    have := congrArg List.length h
    rw [List.length_drop, List.length_cons] at this
    omega
  refine ⟨b, r.put, .inr ⟨hb, ?_, hlt⟩⟩
  have := congrArg List.tail h
  rw [List.tail_drop] at this
  rw [← this]
  rfl
theorem ok_rbrackets {d : Int} {n : Nat} {side : List Str → List Str → PR} (F : FunC K "brackets" "Reader.brackets" sReaderBrackets f fd c) (R : RdC K C) (Gneed : CalM P w K mg base 3 C "need" pReaderNeed (spNeed C)) (Gnumber : CalM P w K mg base 2 C "number" pReaderNumber (spNum C)) (hn : 3 ≤ n) (Gcompare : CalM P w K mg base n C "compare" pReaderCompare (spPar C (d + 1) side)) :
    FnOk P w K mg base CX0 (n + 1) f fd pReaderBrackets (spBr C d side) := by
  refine F.ok scReaderBrackets (fun vs H Q E h => ?_) (fun A outer s H vs Q E hr h => ?_)
  · obtain ⟨p, sa, wa, ss, ws, k, word, tr, rfl, _⟩ := h
    rfl
  obtain ⟨p, sa, wa, ss, ws, k, word, tr, rfl, r, hws, hw, q⟩ := h
  refine ⟨_, pss_cons (ps_fldaug (pv 0) pe_int in_add) (pss_cons (ps_if (pt_cmpR op_eq (pv 1) pe_str (nomark _)) (pss_cons (ps_set (i := 3) scReaderBrackets.nd rfl (.inl rfl) (pe_calM R.cls Gcompare (hr.mono (by omega)) (pv 0) (pa_cons (pe_op op_add (pv 2) pe_int) pa_nil))) (pss_cons (ps_expr (pe_calM R.cls Gneed (hr.mono (by omega)) (pv 0) (pa_cons pe_str pa_nil))) (pss_one (ps_ret (pv 3))))) pss_nil) (pss_cons (ps_expr (pe_calM R.cls Gneed (hr.mono (by omega)) (pv 0) (pa_cons pe_str pa_nil))) (pss_cons (ps_set (i := 3) scReaderBrackets.nd rfl (.inl rfl) (pe_calM R.cls Gcompare (hr.mono (by omega)) (pv 0) (pa_cons (pe_op op_add (pv 2) pe_int) pa_nil))) (pss_cons (ps_expr (pe_calM R.cls Gneed (hr.mono (by omega)) (pv 0) (pa_cons pe_str pa_nil))) (pss_cons (ps_if (pt_cmpR op_eq (pv 1) pe_str (nomark _)) (pss_one (ps_set (i := 4) scReaderBrackets.nd rfl (.inl rfl) (pe_tup (pa_cons pe_str (pa_cons (pv 3) (pa_cons (pe_calM R.cls Gnumber (hr.mono (by omega)) (pv 0) (pa_cons pe_int (pa_cons pe_int pa_nil))) pa_nil)))))) (pss_cons (ps_set (i := 5) scReaderBrackets.nd rfl (.inl rfl) (pe_calM R.cls Gcompare (hr.mono (by omega)) (pv 0) (pa_cons (pe_op op_add (pv 2) pe_int) pa_nil))) (pss_cons (ps_expr (pe_calM R.cls Gneed (hr.mono (by omega)) (pv 0) (pa_cons pe_str pa_nil))) (pss_one (ps_set (i := 4) scReaderBrackets.nd rfl (.inl rfl) (pe_tup (pa_cons pe_str (pa_cons (pv 3) (pa_cons (pv 5) (pa_cons (pe_calM R.cls Gcompare (hr.mono (by omega)) (pv 0) (pa_cons (pe_op op_add (pv 2) pe_int) pa_nil)) pa_nil)))))))))) (pss_cons (ps_expr (pe_calM R.cls Gneed (hr.mono (by omega)) (pv 0) (pa_cons pe_str pa_nil))) (pss_one (ps_ret (pv 4))))))))), ?_⟩
  obtain ⟨dx, b, e⟩ := r.at_
  refine ⟨_, rfl, p, C, dx, _, _, rfl, e, R.cls, R.place, rf_place, _, _, rfl, rfl, dx, _, e, (by show 4 < 1000; decide), ?_⟩
  have r1 := r.adv e
  have x1 : Ext [] [p] H (upd H p (.ins C dx (rfs sa wa (k + 1) b))) := Ext.ins_put e
  rw [show putF (Str.ofString "place") (V.int ((k : Int) + 1)) (rfs sa wa k b) = rfs sa wa (k + 1) b from rfl]
  generalize upd H p (.ins C dx (rfs sa wa (k + 1) b)) = H1 at r1 x1 ⊢
  refine ⟨_, rfl, rfl, _, rfl, ?_⟩
  by_cases h0 : word = "("
  · subst h0
    refine iteDT rfl ?_
    obtain ⟨dx, b, e⟩ := r1.at_
    refine ⟨_, rfl, p, dx, _, rfl, e, rfl, _, rfl, _, _, rfl, rfl, ?_⟩
    refine ⟨p, sa, wa, ss, ws, _, _, rfl, r1, hws, fun v2 H2 k2 x2 hk2 r2 d2 => ?_⟩
    obtain ⟨dx, b, e⟩ := r2.at_
    refine ⟨_, rfl, p, dx, _, rfl, e, rfl, ?_⟩
    dsimp only [tCons, tC, tNil, List.cons_append, List.nil_append]
    refine need_of (s := ")") r2 (by decide) (fun H3 k3 x3 hk3 r3 => ?_)
    have eB : brF (side ws) "(" tr = (side ws tr).bind fun x => (expect ")" x.2).bind fun r' => some (x.1, r') := if_pos rfl
    have e1 : (some tr).bind (side ws) = side ws tr := rfl
    rw [e1] at r3 d2
    refine ⟨_, rfl, q v2 H3 k3 ((x1.trans x2).trans x3) (by omega) ?_ fun x hx => ?_⟩
    · have e2 : (brF (side ws) "(" tr).map (·.2) = ((side ws tr).map (·.2)).bind (expect ")") := by
        rw [eB]
        cases side ws tr with
        | none => rfl
        | some y =>
          show ((expect ")" y.2).bind fun r' => some (y.1, r')).map (·.2) = expect ")" y.2
          cases expect ")" y.2 <;> rfl
      rw [e2]
      exact r3
    · rw [eB] at hx
      obtain ⟨y, hy, hx⟩ := Option.bind_eq_some_iff.mp hx
      obtain ⟨r', hr', hx⟩ := Option.bind_eq_some_iff.mp hx
      cases hx
      exact (d2 y hy).ext x3
  · refine iteDF (fun z => h0 (by injection z)) ?_
    obtain ⟨dx, b, e⟩ := r1.at_
    refine ⟨_, rfl, p, dx, _, rfl, e, rfl, ?_⟩
    dsimp only [tCons, tC, tNil, List.cons_append, List.nil_append]
    refine need_of (s := "(") r1 (by decide) (fun H2 k2 x2 hk2 r2 => ?_)
    obtain ⟨dx, b, e⟩ := r2.at_
    refine ⟨_, rfl, p, dx, _, rfl, e, rfl, _, rfl, _, _, rfl, rfl, ?_⟩
    refine ⟨p, sa, wa, ss, ws, _, _, rfl, r2, hws, fun v3 H3 k3 x3 hk3 r3 d3 => ?_⟩
    obtain ⟨dx, b, e⟩ := r3.at_
    refine ⟨_, rfl, p, dx, _, rfl, e, rfl, ?_⟩
    dsimp only [tCons, tC, tNil, List.cons_append, List.nil_append]
    refine need_of (s := ",") r3 (by decide) (fun H4 k4 x4 hk4 r4 => ?_)
    have eB : brF (side ws) word tr = if word = "pick" then pickF (side ws) tr else restF (side ws) tr := if_neg h0
    refine ⟨_, rfl, rfl, _, rfl, ?_⟩
    by_cases h1 : word = "rest"
    · subst h1
      refine iteDT rfl ?_
      have eB : brF (side ws) "rest" tr = restF (side ws) tr := by rw [eB]; exact if_neg (by decide)
      obtain ⟨dx, b, e⟩ := r4.at_
      refine ⟨_, rfl, _, rfl, p, dx, _, rfl, e, rfl, ?_⟩
      dsimp only [tCons, tC, tNil, List.cons_append, List.nil_append]
      refine num_of r4 (fun n5 H5 k5 x5 hk5 r5 d5 => ?_)
      refine ⟨(by show 3 ≤ sizeLine; decide), fun pt hpt => ?_⟩
      have xt : Ext [] [] H5 (upd H5 pt (.tup [.str "rest", v3, .int n5])) := .new hpt
      have r6 := r5.ext xt
      obtain ⟨dx, b, e⟩ := r6.at_
      refine ⟨_, rfl, p, dx, _, rfl, e, rfl, ?_⟩
      dsimp only [tCons, tC, tNil, List.cons_append, List.nil_append]
      refine need_of (s := ")") r6 (by decide) (fun H7 k7 x7 hk7 r7 => ?_)
      refine ⟨_, rfl, q (.ref pt) H7 k7 ((((((x1.trans x2).trans x3).trans x4).trans x5).trans xt.wide).trans x7) (by omega) ?_ fun x hx => ?_⟩
      · have e2 : (brF (side ws) "rest" tr).map (·.2) = ((some tr) |>.bind (expect "(") |>.bind (side ws) |>.map (·.2) |>.bind (expect ",") |>.bind (numI 1 9) |>.map (·.2) |>.bind (expect ")")) := by
          rw [eB]
          show (restF (side ws) tr).map (·.2) = ((expect "(" tr) |>.bind (side ws) |>.map (·.2) |>.bind (expect ",") |>.bind (numI 1 9) |>.map (·.2) |>.bind (expect ")"))
          unfold restF
          cases expect "(" tr with
          | none => rfl
          | some q1 =>
            show ((side ws q1).bind _).map (fun x : Tm × List Str => x.2) = ((side ws q1) |>.map (·.2) |>.bind (expect ",") |>.bind (numI 1 9) |>.map (·.2) |>.bind (expect ")"))
            cases side ws q1 with
            | none => rfl
            | some y =>
              show ((expect "," y.2).bind _).map (fun x : Tm × List Str => x.2) = ((expect "," y.2) |>.bind (numI 1 9) |>.map (·.2) |>.bind (expect ")"))
              cases expect "," y.2 with
              | none => rfl
              | some q2 =>
                show ((numF 1 9 q2).bind _).map (fun x : Tm × List Str => x.2) = ((numI 1 9 q2) |>.map (·.2) |>.bind (expect ")"))
                cases q2 with
                | nil => rfl
                | cons w q2 =>
                  show (((digitF w 1 9).map fun n => (n.toNat, q2)).bind _).map (fun x : Tm × List Str => x.2) = (((digitF w 1 9).map fun n => (n, q2)).map (·.2)).bind (expect ")")
                  cases digitF w 1 9 with
                  | none => rfl
                  | some n =>
                    show ((expect ")" q2).bind _).map (fun x : Tm × List Str => x.2) = expect ")" q2
                    cases expect ")" q2 <;> rfl
        rw [e2]
        exact r7
      · rw [eB] at hx
        unfold restF at hx
        obtain ⟨q1, f1, hx⟩ := Option.bind_eq_some_iff.mp hx
        obtain ⟨y1, g1, hx⟩ := Option.bind_eq_some_iff.mp hx
        obtain ⟨q2, f2, hx⟩ := Option.bind_eq_some_iff.mp hx
        obtain ⟨y2, g2, hx⟩ := Option.bind_eq_some_iff.mp hx
        obtain ⟨q3, f3, hx⟩ := Option.bind_eq_some_iff.mp hx
        cases hx
        have e1 : ((some tr) |>.bind (expect "(") |>.bind (side ws)) = some y1 := by
          show (expect "(" tr).bind (side ws) = _
          rw [f1]
          exact g1
        obtain ⟨w, mm, ew, hm, em⟩ := num_some (n := y2.1) (r := y2.2) g2
        have e5 : ((some tr) |>.bind (expect "(") |>.bind (side ws) |>.map (·.2) |>.bind (expect ",")) = some q2 := by rw [e1]; exact f2
        have en : n5 = mm := d5 (mm, y2.2) (by
          rw [e5, ew]
          show (digitF w 1 9).map _ = _
          rw [hm]
          rfl)
        have hr := digit_rng hm
        have dv := (d3 y1 e1)
        refine DAt.ext x7 (.mk3 upd_same (.str _) (((dv.ext x4).ext x5).ext xt) ?_)
        rw [en, em, show ((mm.toNat : Nat) : Int) = mm by omega]
        exact .int _
    · refine iteDF (fun z => h1 (by injection z)) ?_
      have h2 : word = "pick" := by rcases hw with z | z | z <;> first | exact absurd z h0 | exact z | exact absurd z h1
      subst h2
      have eB : brF (side ws) "pick" tr = pickF (side ws) tr := by rw [eB]; exact if_pos rfl
      obtain ⟨dx, b, e⟩ := r4.at_
      refine ⟨_, rfl, p, dx, _, rfl, e, rfl, _, rfl, _, _, rfl, rfl, ?_⟩
      refine ⟨p, sa, wa, ss, ws, _, _, rfl, r4, hws, fun v5 H5 k5 x5 hk5 r5 d5 => ?_⟩
      obtain ⟨dx, b, e⟩ := r5.at_
      refine ⟨_, rfl, p, dx, _, rfl, e, rfl, ?_⟩
      dsimp only [tCons, tC, tNil, List.cons_append, List.nil_append]
      refine need_of (s := ",") r5 (by decide) (fun H6 k6 x6 hk6 r6 => ?_)
      obtain ⟨dx, b, e⟩ := r6.at_
      refine ⟨_, rfl, _, rfl, _, rfl, p, dx, _, rfl, e, rfl, _, rfl, _, _, rfl, rfl, ?_⟩
      refine ⟨p, sa, wa, ss, ws, _, _, rfl, r6, hws, fun v7 H7 k7 x7 hk7 r7 d7 => ?_⟩
      refine ⟨(by show 4 ≤ sizeLine; decide), fun pt hpt => ?_⟩
      have xt : Ext [] [] H7 (upd H7 pt (.tup [.str "pick", v3, v5, v7])) := .new hpt
      have r8 := r7.ext xt
      obtain ⟨dx, b, e⟩ := r8.at_
      refine ⟨_, rfl, p, dx, _, rfl, e, rfl, ?_⟩
      dsimp only [tCons, tC, tNil, List.cons_append, List.nil_append]
      refine need_of (s := ")") r8 (by decide) (fun H9 k9 x9 hk9 r9 => ?_)
      refine ⟨_, rfl, q (.ref pt) H9 k9 ((((((((x1.trans x2).trans x3).trans x4).trans x5).trans x6).trans x7).trans xt.wide).trans x9) (by omega) ?_ fun x hx => ?_⟩
      · have e2 : (brF (side ws) "pick" tr).map (·.2) = ((some tr) |>.bind (expect "(") |>.bind (side ws) |>.map (·.2) |>.bind (expect ",") |>.bind (side ws) |>.map (·.2) |>.bind (expect ",") |>.bind (side ws) |>.map (·.2) |>.bind (expect ")")) := by
          rw [eB]
          show (pickF (side ws) tr).map (·.2) = ((expect "(" tr) |>.bind (side ws) |>.map (·.2) |>.bind (expect ",") |>.bind (side ws) |>.map (·.2) |>.bind (expect ",") |>.bind (side ws) |>.map (·.2) |>.bind (expect ")"))
          unfold pickF
          cases expect "(" tr with
          | none => rfl
          | some q1 =>
            show ((side ws q1).bind _).map (fun x : Tm × List Str => x.2) = ((side ws q1) |>.map (·.2) |>.bind (expect ",") |>.bind (side ws) |>.map (·.2) |>.bind (expect ",") |>.bind (side ws) |>.map (·.2) |>.bind (expect ")"))
            cases side ws q1 with
            | none => rfl
            | some y =>
              show ((expect "," y.2).bind _).map (fun x : Tm × List Str => x.2) = ((expect "," y.2) |>.bind (side ws) |>.map (·.2) |>.bind (expect ",") |>.bind (side ws) |>.map (·.2) |>.bind (expect ")"))
              cases expect "," y.2 with
              | none => rfl
              | some q2 =>
                show ((side ws q2).bind _).map (fun x : Tm × List Str => x.2) = ((side ws q2) |>.map (·.2) |>.bind (expect ",") |>.bind (side ws) |>.map (·.2) |>.bind (expect ")"))
                cases side ws q2 with
                | none => rfl
                | some y2 =>
                  show ((expect "," y2.2).bind _).map (fun x : Tm × List Str => x.2) = ((expect "," y2.2) |>.bind (side ws) |>.map (·.2) |>.bind (expect ")"))
                  cases expect "," y2.2 with
                  | none => rfl
                  | some q3 =>
                    show ((side ws q3).bind _).map (fun x : Tm × List Str => x.2) = ((side ws q3) |>.map (·.2) |>.bind (expect ")"))
                    cases side ws q3 with
                    | none => rfl
                    | some y3 =>
                      show ((expect ")" y3.2).bind _).map (fun x : Tm × List Str => x.2) = expect ")" y3.2
                      cases expect ")" y3.2 <;> rfl
        rw [e2]
        exact r9
      · rw [eB] at hx
        unfold pickF at hx
        obtain ⟨q1, f1, hx⟩ := Option.bind_eq_some_iff.mp hx
        obtain ⟨y1, g1, hx⟩ := Option.bind_eq_some_iff.mp hx
        obtain ⟨q2, f2, hx⟩ := Option.bind_eq_some_iff.mp hx
        obtain ⟨y2, g2, hx⟩ := Option.bind_eq_some_iff.mp hx
        obtain ⟨q3, f3, hx⟩ := Option.bind_eq_some_iff.mp hx
        obtain ⟨y3, g3, hx⟩ := Option.bind_eq_some_iff.mp hx
        obtain ⟨q4, f4, hx⟩ := Option.bind_eq_some_iff.mp hx
        cases hx
        have e1 : ((some tr) |>.bind (expect "(") |>.bind (side ws)) = some y1 := by
          show (expect "(" tr).bind (side ws) = _
          rw [f1]
          exact g1
        have e2 : ((some tr) |>.bind (expect "(") |>.bind (side ws) |>.map (·.2) |>.bind (expect ",") |>.bind (side ws)) = some y2 := by
          rw [e1]
          show (expect "," y1.2).bind (side ws) = _
          rw [f2]
          exact g2
        have e3 : ((some tr) |>.bind (expect "(") |>.bind (side ws) |>.map (·.2) |>.bind (expect ",") |>.bind (side ws) |>.map (·.2) |>.bind (expect ",") |>.bind (side ws)) = some y3 := by
          rw [e2]
          show (expect "," y2.2).bind (side ws) = _
          rw [f3]
          exact g3
        refine DAt.ext x9 (.mk4 upd_same (.str _) (((((d3 y1 e1).ext x4).ext x5).ext x6).ext x7 |>.ext xt) (((d5 y2 e2).ext x6).ext x7 |>.ext xt) ((d7 y3 e3).ext xt))
end
end ML
set_option maxHeartbeats 4000000
namespace ML
open PySem PySem.Spec PyProof.Rows L2 TL Gn
def aloneS (side : List Str → PR) (ws : List Str) : List Str → PR
  | [] => none
  | s :: r => if s = "(" ∨ s = "pick" ∨ s = "rest" then brF side s r else if s = "in" then (offsetF r).map fun x => (.inn x.1, x.2)
    else if s ∈ ws then (offsetF r).map fun x => (.ofn (ws.idxOf s) x.1, x.2) else (digitF s 0 9).map fun n => (.isc n.toNat, r)
theorem alone_eq {ws : List Str} {n : Nat} {l : List Str} : aloneF ws (n + 1) l = aloneS (sideF ws n) ws l := by
  cases l with
  | nil => rfl
  | cons s r =>
    show (if s = "(" then _ else if s = "pick" then _ else if s = "rest" then _ else _) = (if s = "(" ∨ s = "pick" ∨ s = "rest" then brF (sideF ws n) s r else _)
    unfold brF
    by_cases h1 : s = "("
    · rw [if_pos h1, if_pos (.inl h1), if_pos h1]
    · rw [if_neg h1]
      by_cases h2 : s = "pick"
      · rw [if_pos h2, if_pos (.inr (.inl h2)), if_neg h1, if_pos h2]
      · rw [if_neg h2]
        by_cases h3 : s = "rest"
        · rw [if_pos h3, if_pos (.inr (.inr h3)), if_neg h1, if_neg h2]
        · have h4 : ¬ (s = "(" ∨ s = "pick" ∨ s = "rest") := fun z => by
            rcases z with z | z | z
            · exact h1 z
            · exact h2 z
            · exact h3 z
          rw [if_neg h3, if_neg h4]
theorem inV_str (z : Str) (ws : List Str) : inV (.str z) (ws.map V.str) = decide (z ∈ ws) := by
  rw [Bool.eq_iff_iff, decide_eq_true_iff]
  unfold inV
  rw [List.any_map, List.any_eq_true]
  constructor
  · rintro ⟨x, hx, h⟩
    have : x = z := by simpa [eqV] using h
    rw [← this]
    exact hx
  · intro h
    exact ⟨z, h, by simp [eqV]⟩
theorem idx_at {ws : List Str} {z : Str} (h : z ∈ ws) : ws[ws.idxOf z]? = some z := by
  have := List.idxOf_lt_length_of_mem h
  rw [List.getElem?_eq_getElem this, List.getElem_idxOf]
theorem idx_first {ws : List Str} {z : Str} {m : Nat} (h : m < ws.idxOf z) : ws[m]? ≠ some z := fun e => by
  have := List.not_of_lt_findIdx h
  obtain ⟨hlt, e⟩ := List.getElem?_eq_some_iff.mp e
  simp [e] at this
section
variable {P : Program} {w : World} {K : PySem.W.Frag} {mg : Str → Option Value} {base : Heap} {f c C : Addr} {fd : FuncData}
theorem ok_ralone {d : Int} {n : Nat} {side al : List Str → List Str → PR} {spB : Sp} (hB : ¬ 40 < d → ∀ vs H Q E, spBr C d side vs H Q E → spB vs H Q E) (hal : (40 < d ∧ ∀ ws l, al ws l = none) ∨ (¬ 40 < d ∧ ∀ ws l, al ws l = aloneS (side ws) ws l)) (F : FunC K "alone" "Reader.alone" sReaderAlone f fd c) (R : RdC K C) (Gnextsign : CalM P w K mg base 1 C "next_sign" pReaderNextSign (spNext C))
    (Gnumber : CalM P w K mg base 2 C "number" pReaderNumber (spNum C)) (Goffset : CalM P w K mg base 3 C "offset" pReaderOffset (spOffs C)) (hn : 3 ≤ n) (Gbrackets : CalM P w K mg base n C "brackets" pReaderBrackets spB) :
    FnOk P w K mg base CX0 (n + 1) f fd pReaderAlone (spPar C d al) := by
  refine F.ok scReaderAlone (fun vs H Q E h => ?_) (fun A outer s H vs Q E hr h => ?_)
  · obtain ⟨p, sa, wa, ss, ws, k, cur, rfl, _⟩ := h
    rfl
  obtain ⟨p, sa, wa, ss, ws, k, cur, rfl, r, hws, q⟩ := h
  refine ⟨_, pss_cons (ps_set (i := 2) scReaderAlone.nd rfl (.inl rfl) (pe_calM0 R.cls Gnextsign (hr.mono (by omega)) (pv 0))) (pss_cons (ps_if (PW.pt (pw_or (pt_val (pe_fld (pv 0) rfl)) (pw_or1 (pt_cmpR op_gt (pv 1) pe_int (nomark _))))) (pss_cons (ps_fld (pv 0) pe_bl rfl) (pss_one (ps_ret (pe_tup (pa_cons pe_str (pa_cons pe_int pa_nil)))))) pss_nil) (pss_cons (ps_if (pt_cmpR op_in_seq (pv 2) (pe_tup (pa_cons pe_str (pa_cons pe_str (pa_cons pe_str pa_nil)))) (by rfl)) (pss_one (ps_ret (pe_calM R.cls Gbrackets (hr.mono (by omega)) (pv 0) (pa_cons (pv 2) (pa_cons (pv 1) pa_nil))))) pss_nil) (pss_cons (ps_if (pt_cmpR op_eq (pv 2) pe_str (nomark _)) (pss_cons (ps_fldaug (pv 0) pe_int in_add) (pss_one (ps_ret (pe_tup (pa_cons pe_str (pa_cons (pe_calM0 R.cls Goffset (hr.mono (by omega)) (pv 0)) pa_nil)))))) pss_nil) (pss_cons (ps_if (pt_cmpR op_in_seq (pv 2) (pe_fld (pv 0) rfl) (by rfl)) (pss_cons (ps_fldaug (pv 0) pe_int in_add) (pss_one (ps_ret (pe_tup (pa_cons pe_str (pa_cons (pe_bm PySem.F.plainAttrs_list PySem.F.slot_list_index PySem.F.type_list_index mt_index (pe_fld (pv 0) rfl) (pa_cons (pv 2) pa_nil)) (pa_cons (pe_calM0 R.cls Goffset (hr.mono (by omega)) (pv 0)) pa_nil))))))) pss_nil) (pss_one (ps_ret (pe_tup (pa_cons pe_str (pa_cons (pe_calM R.cls Gnumber (hr.mono (by omega)) (pv 0) (pa_cons pe_int (pa_cons pe_int pa_nil))) pa_nil))))))))), ?_⟩
  obtain ⟨b, rs, hb⟩ := r
  obtain ⟨dx, e⟩ := rs.at_
  have brk : ((cur.bind (al ws)) = none) → ∀ pt, upd H p (.ins C dx (rfs sa wa k true)) pt = none → Q (.ref pt) (upd (upd H p (.ins C dx (rfs sa wa k true))) pt (.tup [.str "is", .int 0])) := fun hn pt hpt =>
    q _ _ k ((Ext.ins_put e).trans (Ext.new hpt).wide) (Nat.le_refl _) ⟨true, rs.put.ext (GT := []) (.new hpt), .inl ⟨rfl, by rw [hn]; rfl⟩⟩ fun x hx => by rw [hn] at hx; cases hx
  refine ⟨_, rfl, p, dx, _, rfl, e, rfl, p, sa, wa, ss, ws, k, b, rfl, rs, ?_⟩
  refine ⟨_, rfl, p, C, dx, _, _, rfl, e, R.cls, R.broken, rf_broken, ?_⟩
  refine ⟨_, rfl, ?_⟩
  rcases hb with ⟨rfl, rfl⟩ | ⟨rfl, rfl, hk⟩
  · refine iteT (iteT ?_)
    refine ⟨_, rfl, p, C, dx, _, rfl, e, R.cls, R.broken, (by show 4 < 1000; decide), ?_⟩
    exact ⟨(by show 2 ≤ sizeLine; decide), fun pt hpt => brk rfl pt hpt⟩
  refine iteF ?_
  refine ⟨_, rfl, _, _, rfl, rfl, _, rfl, ?_⟩
  rcases hal with ⟨hd, hal⟩ | ⟨hd, hal⟩
  · refine iteDT hd ?_
    refine ⟨_, rfl, p, C, dx, _, rfl, e, R.cls, R.broken, (by show 4 < 1000; decide), ?_⟩
    exact ⟨(by show 2 ≤ sizeLine; decide), fun pt hpt => brk (hal ws _) pt hpt⟩
  refine iteDF hd ?_
  clear brk
  refine ⟨_, rfl, (by show 3 ≤ sizeLine; decide), fun p1 hp1 => ⟨p1, _, rfl, .inr (SqT.of upd_same), rfl, (by decide +kernel), _, rfl, ?_⟩⟩
  have x1 : Ext [] [] H (upd H p1 (.tup [.str "(", .str "pick", .str "rest"])) := .new hp1
  have rs1 := rs.ext x1
  have r1 : RP C (upd H p1 (.tup [.str "(", .str "pick", .str "rest"])) p sa wa ss ws k (some (ss.drop k)) := ⟨false, rs1, .inr ⟨rfl, rfl, hk⟩⟩
  have e1 := x1.ins e
  generalize upd H p1 (.tup [.str "(", .str "pick", .str "rest"]) = H1 at x1 rs1 r1 e1 ⊢
  have i3 : ∀ z : Str, inV (V.str z) [.str "(", .str "pick", .str "rest"] = decide (z = "(" ∨ z = "pick" ∨ z = "rest") := fun z => by
    have := inV_str z ["(", "pick", "rest"]
    rw [show inV (V.str z) [.str "(", .str "pick", .str "rest"] = inV (V.str z) (List.map V.str ["(", "pick", "rest"]) from rfl, this]
    simp
  rw [i3]
  cases hg : ss[k]? with
  | none =>
    have ez : ss.getD k (Str.ofString "") = Str.ofString "" := by rw [List.getD_eq_getElem?_getD, hg]; rfl
    have ed : ss.drop k = [] := List.drop_eq_nil_of_le (List.getElem?_eq_none_iff.mp hg)
    rw [ez]
    refine iteDF (p := (Str.ofString "" = "(" ∨ Str.ofString "" = "pick" ∨ Str.ofString "" = "rest")) (by decide +kernel) ?_
    refine ⟨_, rfl, rfl, _, rfl, iteDF (by decide +kernel) ?_⟩
    refine ⟨_, rfl, _, rfl, p, C, dx, _, _, rfl, e1, R.cls, R.words, rf_words, wa, _, rfl, .inl (SqL.of rs1.wd), rfl, ?_, _, rfl, ?_⟩
    · simp [flatV]
    rw [inV_str]
    refine iteDF (fun z => hws _ z rfl) ?_
    refine ⟨_, rfl, p, dx, _, rfl, e1, rfl, ?_⟩
    dsimp only [tCons, tC, tNil, List.cons_append, List.nil_append]
    refine num_of r1 (fun n5 H5 k5 x5 hk5 r5 d5 => ?_)
    refine ⟨(by show 2 ≤ sizeLine; decide), fun pt hpt => ?_⟩
    rw [ed] at r5 q
    have en : (some ([] : List Str)).bind (al ws) = none := hal ws []
    refine q _ _ k5 ((x1.wide.trans x5).trans (Ext.new hpt).wide) hk5 ?_ fun x hx => by rw [en] at hx; cases hx
    rw [en]
    exact r5.ext (GT := []) (.new hpt)
  | some s1 =>
    have ez := getD_at hg
    have ed := drop_at hg
    rw [ez]
    rw [ed] at r1 q
    have ea : (some (s1 :: ss.drop (k + 1))).bind (al ws) = aloneS (side ws) ws (s1 :: ss.drop (k + 1)) := hal ws _
    rw [ea] at q
    have eS : aloneS (side ws) ws (s1 :: ss.drop (k + 1)) = if s1 = "(" ∨ s1 = "pick" ∨ s1 = "rest" then brF (side ws) s1 (ss.drop (k + 1)) else if s1 = "in" then (offsetF (ss.drop (k + 1))).map fun x => (.inn x.1, x.2)
      else if s1 ∈ ws then (offsetF (ss.drop (k + 1))).map fun x => (.ofn (ws.idxOf s1) x.1, x.2) else (digitF s1 0 9).map fun n => (.isc n.toNat, ss.drop (k + 1)) := rfl
    rw [eS] at q
    by_cases h1 : s1 = "(" ∨ s1 = "pick" ∨ s1 = "rest"
    · refine iteDT h1 ?_
      rw [if_pos h1] at q
      refine ⟨_, rfl, p, dx, _, rfl, e1, rfl, _, rfl, _, rfl, ?_⟩
      refine hB hd [.ref p, .str s1, .int d] _ _ _ ?_
      exact ⟨p, sa, wa, ss, ws, k, s1, _, rfl, r1, hws, h1, fun v H2 k2 x2 hk2 r2 d2 => q v H2 k2 (x1.wide.trans x2) hk2 r2 d2⟩
    refine iteDF h1 ?_
    rw [if_neg h1] at q
    have adv := r1.adv e1
    have xadv : Ext [] [p] H1 (upd H1 p (.ins C dx (rfs sa wa (k + 1) false))) := Ext.ins_put e1
    refine ⟨_, rfl, rfl, _, rfl, ?_⟩
    by_cases h2 : s1 = "in"
    · refine iteDT (by rw [h2]) ?_
      rw [if_pos h2] at q
      refine ⟨_, rfl, p, C, dx, _, _, rfl, e1, R.cls, R.place, rf_place, _, _, rfl, rfl, dx, _, e1, (by show 4 < 1000; decide), ?_⟩
      rw [show putF (Str.ofString "place") (V.int ((k : Int) + 1)) (rfs sa wa k false) = rfs sa wa (k + 1) false from rfl]
      generalize upd H1 p (.ins C dx (rfs sa wa (k + 1) false)) = H2 at adv xadv ⊢
      obtain ⟨dx2, b2, e2⟩ := adv.at_
      refine ⟨_, rfl, p, dx2, _, rfl, e2, rfl, ?_⟩
      refine ⟨p, sa, wa, ss, ws, k + 1, _, rfl, adv, fun n5 H5 k5 x5 hk5 r5 d5 => ?_⟩
      refine ⟨(by show 2 ≤ sizeLine; decide), fun pt hpt => ?_⟩
      refine q _ _ k5 (((x1.wide.trans xadv).trans x5).trans (Ext.new hpt).wide) (by omega) ?_ fun x hx => ?_
      · rw [Option.map_map]
        exact r5.ext (GT := []) (.new hpt)
      · obtain ⟨y, hy, rfl⟩ := Option.map_eq_some_iff.mp hx
        rw [d5 y hy]
        exact .mk2 upd_same (.str _) (.int _)
    refine iteDF (fun z => h2 (by injection z)) ?_
    rw [if_neg h2] at q
    refine ⟨_, rfl, _, rfl, p, C, dx, _, _, rfl, e1, R.cls, R.words, rf_words, wa, _, rfl, .inl (SqL.of rs1.wd), rfl, ?_, _, rfl, ?_⟩
    · simp [flatV]
    rw [inV_str]
    by_cases h3 : s1 ∈ ws
    · refine iteDT h3 ?_
      rw [if_pos h3] at q
      refine ⟨_, rfl, p, C, dx, _, _, rfl, e1, R.cls, R.place, rf_place, _, _, rfl, rfl, dx, _, e1, (by show 4 < 1000; decide), ?_⟩
      rw [show putF (Str.ofString "place") (V.int ((k : Int) + 1)) (rfs sa wa k false) = rfs sa wa (k + 1) false from rfl]
      generalize upd H1 p (.ins C dx (rfs sa wa (k + 1) false)) = H2 at adv xadv ⊢
      obtain ⟨b2, rs2, _⟩ := id adv
      obtain ⟨dx2, e2⟩ := rs2.at_
      refine ⟨_, rfl, p, C, dx2, _, _, rfl, e2, R.cls, R.words, rf_words, .inl ⟨rfl, _, SqL.of rs2.wd⟩, _, rfl, wa, _, _, ws.idxOf s1, _, rfl, rfl, SqL.of rs2.wd, rfl, ?_, (by rw [List.getElem?_map, idx_at h3]; rfl), ?_, ?_, ?_⟩
      · simp [flatV]
      · simp [eqV]
      · intro m z' hm hz
        rw [List.getElem?_map] at hz
        obtain ⟨y, hy, rfl⟩ := Option.map_eq_some_iff.mp hz
        have : y ≠ s1 := fun z => idx_first hm (by rw [hy, z])
        simp [eqV, this]
      refine ⟨_, rfl, p, dx2, _, rfl, e2, rfl, ?_⟩
      refine ⟨p, sa, wa, ss, ws, k + 1, _, rfl, adv, fun n5 H5 k5 x5 hk5 r5 d5 => ?_⟩
      refine ⟨(by show 3 ≤ sizeLine; decide), fun pt hpt => ?_⟩
      refine q _ _ k5 (((x1.wide.trans xadv).trans x5).trans (Ext.new hpt).wide) (by omega) ?_ fun x hx => ?_
      · rw [Option.map_map]
        exact r5.ext (GT := []) (.new hpt)
      · obtain ⟨y, hy, rfl⟩ := Option.map_eq_some_iff.mp hx
        rw [d5 y hy]
        exact .mk3 upd_same (.str _) (.int _) (.int _)
    · refine iteDF h3 ?_
      rw [if_neg h3] at q
      refine ⟨_, rfl, p, dx, _, rfl, e1, rfl, ?_⟩
      dsimp only [tCons, tC, tNil, List.cons_append, List.nil_append]
      refine num_of r1 (fun n5 H5 k5 x5 hk5 r5 d5 => ?_)
      refine ⟨(by show 2 ≤ sizeLine; decide), fun pt hpt => ?_⟩
      have eN : (some (s1 :: ss.drop (k + 1))).bind (numI 0 9) = (digitF s1 0 9).map fun n => (n, ss.drop (k + 1)) := rfl
      rw [eN] at r5 d5
      refine q _ _ k5 ((x1.wide.trans x5).trans (Ext.new hpt).wide) hk5 ?_ fun x hx => ?_
      · rw [Option.map_map] at r5 ⊢
        exact r5.ext (GT := []) (.new hpt)
      · obtain ⟨y, hy, rfl⟩ := Option.map_eq_some_iff.mp hx
        have := d5 (y, _) (by rw [hy]; rfl)
        have hr := digit_rng hy
        rw [this]
        refine .mk2 upd_same (.str _) ?_
        rw [show ((y.toNat : Nat) : Int) = y by omega]
        exact .int _
def MetC (K : PySem.W.Frag) (C : Addr) (x qual : Str) (st : Stmt) (ps : List Str) : Prop := ∃ f fd c, FunC K x qual st f fd c ∧ Meth K C x f ∧ Binds K fd ps []
structure RdM (K : PySem.W.Frag) (C : Addr) : Prop where
  rd : RdC K C
  next : MetC K C "next_sign" "Reader.next_sign" sReaderNextSign pReaderNextSign
  take : MetC K C "take" "Reader.take" sReaderTake pReaderTake
  need : MetC K C "need" "Reader.need" sReaderNeed pReaderNeed
  number : MetC K C "number" "Reader.number" sReaderNumber pReaderNumber
  offset : MetC K C "offset" "Reader.offset" sReaderOffset pReaderOffset
  compare : MetC K C "compare" "Reader.compare" sReaderCompare pReaderCompare
  added : MetC K C "added" "Reader.added" sReaderAdded pReaderAdded
  product : MetC K C "product" "Reader.product" sReaderProduct pReaderProduct
  alone : MetC K C "alone" "Reader.alone" sReaderAlone pReaderAlone
  brackets : MetC K C "brackets" "Reader.brackets" sReaderBrackets pReaderBrackets
theorem RdM.gnext (M : RdM K C) (T : Bl mg) : CalM P w K mg base 1 C "next_sign" pReaderNextSign (spNext C) := by
  obtain ⟨f, fd, c, F, m, b⟩ := M.next
  exact ⟨f, fd, ok_rnext F T M.rd, m, b⟩
theorem RdM.gtake (M : RdM K C) (T : Bl mg) : CalM P w K mg base 2 C "take" pReaderTake (spTake C) := by
  obtain ⟨f, fd, c, F, m, b⟩ := M.take
  exact ⟨f, fd, ok_rtake F M.rd (M.gnext T), m, b⟩
theorem RdM.gneed (M : RdM K C) (T : Bl mg) : CalM P w K mg base 3 C "need" pReaderNeed (spNeed C) := by
  obtain ⟨f, fd, c, F, m, b⟩ := M.need
  exact ⟨f, fd, ok_rneed F M.rd (M.gtake T), m, b⟩
theorem RdM.gnumber (M : RdM K C) (T : Bl mg) (Gd : Cal P w K mg base 1 "digit" pDigit spDigit) : CalM P w K mg base 2 C "number" pReaderNumber (spNum C) := by
  obtain ⟨f, fd, c, F, m, b⟩ := M.number
  exact ⟨f, fd, ok_rnumber F M.rd (M.gnext T) Gd, m, b⟩
theorem RdM.goffset (M : RdM K C) (T : Bl mg) (Gv : Gc K mg) (Gd : Cal P w K mg base 1 "digit" pDigit spDigit) : CalM P w K mg base 3 C "offset" pReaderOffset (spOffs C) := by
  obtain ⟨f, fd, c, F, m, b⟩ := M.offset
  exact ⟨f, fd, ok_roffset F Gv M.rd (M.gtake T) (M.gnumber T Gd), m, b⟩
theorem RdM.gcomp (M : RdM K C) (T : Bl mg) {d : Int} {n k : Nat} (hk : 2 ≤ k) (G : CalM P w K mg base k C "alone" pReaderAlone (spPar C d fun ws => aloneF ws n)) : CalM P w K mg base (k + 3) C "compare" pReaderCompare (spPar C d fun ws => sideF ws n) := by
  obtain ⟨f1, fd1, c1, F1, m1, b1⟩ := M.product
  obtain ⟨f2, fd2, c2, F2, m2, b2⟩ := M.added
  obtain ⟨f3, fd3, c3, F3, m3, b3⟩ := M.compare
  have G1 : CalM P w K mg base (k + 1) C "product" pReaderProduct (spPar C d fun ws => mulF ws n) := ⟨f1, fd1, ok_rproduct (fun ws => (alone_both ws n).1) F1 M.rd (M.gtake T) hk G, m1, b1⟩
  have G2 : CalM P w K mg base (k + 2) C "added" pReaderAdded (spPar C d fun ws => addF ws n) := ⟨f2, fd2, ok_radded (fun ws => shr_chain (alone_both ws n).1) F2 M.rd (M.gtake T) (by omega) G1, m2, b2⟩
  exact ⟨f3, fd3, ok_rcompare F3 M.rd (M.gtake T) (by omega) G2, m3, b3⟩
theorem RdM.galone (M : RdM K C) (T : Bl mg) (Gv : Gc K mg) (Gd : Cal P w K mg base 1 "digit" pDigit spDigit) : ∀ n : Nat, n ≤ 41 → CalM P w K mg base (5 * n + 4) C "alone" pReaderAlone (spPar C (41 - (n : Int)) fun ws => aloneF ws n)
  | 0, _ => by
    obtain ⟨f, fd, c, F, m, b⟩ := M.alone
    obtain ⟨f2, fd2, c2, F2, m2, b2⟩ := M.brackets
    have G0 : CalM P w K mg base 3 C "brackets" pReaderBrackets (fun _ _ _ _ => False) := ⟨f2, fd2, fn_none fun _ _ _ _ h => h, m2, b2⟩
    exact ⟨f, fd, ok_ralone (side := fun _ _ => none) (fun h => absurd (by decide) h) (.inl ⟨by decide, fun ws l => rfl⟩) F M.rd (M.gnext T) (M.gnumber T Gd) (M.goffset T Gv Gd) (Nat.le_refl _) G0, m, b⟩
  | n + 1, hn => by
    obtain ⟨f, fd, c, F, m, b⟩ := M.alone
    obtain ⟨f2, fd2, c2, F2, m2, b2⟩ := M.brackets
    have Gc := M.gcomp T (by omega) (M.galone T Gv Gd n (by omega))
    have ed : (41 : Int) - (n : Int) = 41 - ((n + 1 : Nat) : Int) + 1 := by omega
    rw [ed] at Gc
    have Gb : CalM P w K mg base (5 * n + 8) C "brackets" pReaderBrackets (spBr C (41 - ((n + 1 : Nat) : Int)) fun ws => sideF ws n) := ⟨f2, fd2, ok_rbrackets F2 M.rd (M.gneed T) (M.gnumber T Gd) (by omega) Gc, m2, b2⟩
    exact ⟨f, fd, ok_ralone (fun _ _ _ _ _ h => h) (.inr ⟨by omega, fun ws l => alone_eq⟩) F M.rd (M.gnext T) (M.gnumber T Gd) (M.goffset T Gv Gd) (by omega) Gb, m, b⟩
theorem RdM.gside (M : RdM K C) (T : Bl mg) (Gv : Gc K mg) (Gd : Cal P w K mg base 1 "digit" pDigit spDigit) : CalM P w K mg base 212 C "compare" pReaderCompare (spPar C 0 fun ws => sideF ws 41) := M.gcomp T (by omega) (M.galone T Gv Gd 41 (Nat.le_refl _))
end
end ML
set_option maxHeartbeats 4000000
namespace ML
open PySem PySem.Spec PyProof.Rows L2 TL Gn
/-- a list of signs -/
structure SgL (H : Hp) (p : Addr) (l : List Str) : Prop where
  at_ : H p = some (.lst (l.map V.str))
  ok : ∀ z ∈ l, okS z ∧ z.length ≤ 100000
  few : l.length ≤ 200
/-- what a law's reader hands back -/
def LRes (H : Hp) (Q : VK) (x : Option (D × List Str)) : Prop :=
  (x = none → ∀ H', Ext [] [] H H' → Q .non H') ∧ ∀ d r, x = some (d, r) → ∀ (H' : Hp) (pt pr : Addr) (v : V), Ext [] [] H H' → H' pt = some (.tup [v, .ref pr]) → DAt H' v d → SgL H' pr r → Q (.ref pt) H'
def tmD (x : Tm × List Str) : D × List Str := (x.1.d, x.2)
theorem off_cons (s : Str) (r : List Str) : offsetF (s :: r) = if s = "@+" then numI 1 2 r else if s = "@-" then (numI 1 2 r).map (fun x => (0 - x.1, x.2)) else some (0, s :: r) := by
  show (if s = "@+" then (match r with | [] => none | w :: r' => (digitF w 1 2).map fun n => (n, r')) else if s = "@-" then (match r with | [] => none | w :: r' => (digitF w 1 2).map fun n => ((0 : Int) - n, r')) else some ((0 : Int), s :: r)) = _
  cases r with
  | nil => rfl
  | cons w r =>
    show (if s = "@+" then (digitF w 1 2).map fun n => (n, r) else if s = "@-" then (digitF w 1 2).map fun n => ((0 : Int) - n, r) else _) = (if s = "@+" then (digitF w 1 2).map fun n => (n, r) else if s = "@-" then ((digitF w 1 2).map fun n => (n, r)).map (fun x => (0 - x.1, x.2)) else _)
    rw [Option.map_map]
    rfl
def spLOffset : Sp := fun vs H Q _ => ∃ p l, vs = [.ref p] ∧ SgL H p l ∧ LRes H Q ((offsetF l).map fun x => (.int x.1, x.2))
def spLPar (pf : List Str → List Str → PR) (d : Int) : Sp := fun vs H Q _ => ∃ p pw l ws, vs = [.ref p, .ref pw, .int d] ∧ SgL H p l ∧ SgL H pw ws ∧ (∀ z ∈ ws, z ≠ "") ∧ LRes H Q ((pf ws l).map tmD)
def spLSide (pf : List Str → List Str → PR) (r d : Int) : Sp := fun vs H Q _ => ∃ p pw l ws, vs = [.ref p, .ref pw, .int r, .int d] ∧ SgL H p l ∧ SgL H pw ws ∧ (∀ z ∈ ws, z ≠ "") ∧ LRes H Q ((pf ws l).map tmD)
section
variable {H H' : Hp} {p : Addr} {l : List Str} {k : Nat}
theorem SgL.ext (s : SgL H p l) (x : Ext [] [] H H') : SgL H' p l := ⟨x.lst s.at_, s.ok, s.few⟩
theorem cutStr_from : cutV (l.map V.str) (some (k : Int)) none = (l.drop k).map V.str := by rw [cut_from, List.map_drop]
theorem cutStr_to : cutV (l.map V.str) none (some (k : Int)) = (l.take k).map V.str := by rw [cut_to, List.map_take]
theorem SgL.drop {q : Addr} (s : SgL H p l) (hq : H' q = some (.lst (cutV (l.map V.str) (some (k : Int)) none))) : SgL H' q (l.drop k) := ⟨by rw [hq, cutStr_from], fun z hz => s.ok z (List.mem_of_mem_drop hz), by rw [List.length_drop]; have := s.few; omega⟩
theorem SgL.okS (s : SgL H p l) : ∀ z ∈ l, okS z := fun z hz => (s.ok z hz).1
theorem LRes.wk {Q : VK} {x : Option (D × List Str)} (r : LRes H Q x) (y : Ext [] [] H H') : LRes H' Q x := ⟨fun e H2 x2 => r.1 e H2 (y.trans x2), fun d q e H2 pt pr v x2 => r.2 d q e H2 pt pr v (y.trans x2)⟩
end
/-- None, or a pair of a term and of what is left -/
def LIn (H1 : Hp) (v0 : V) (x : Option (Tm × List Str)) : Prop := (x = none ∧ v0 = .non) ∨ ∃ (t1 : Tm) (l1 : List Str) (pt pr : Addr) (v : V), x = some (t1, l1) ∧ v0 = .ref pt ∧ H1 pt = some (.tup [v, .ref pr]) ∧ DAt H1 v t1.d ∧ SgL H1 pr l1
theorem lres_of {H : Hp} {Q : VK} {x : Option (Tm × List Str)} (h : ∀ H1 v0, Ext [] [] H H1 → LIn H1 v0 x → Q v0 H1) : LRes H Q (x.map tmD) := by
  refine ⟨fun e H1 x1 => h H1 .non x1 (.inl ⟨Option.map_eq_none_iff.mp e, rfl⟩), fun dd r e H1 pt pr v x1 e1 dv sr => ?_⟩
  obtain ⟨y, hy, ey⟩ := Option.map_eq_some_iff.mp e
  cases ey
  exact h H1 (.ref pt) x1 (.inr ⟨y.1, y.2, pt, pr, v, hy, rfl, e1, dv, sr⟩)
theorem LRes.use {H H1 : Hp} {Q : VK} {x : Option (Tm × List Str)} {v0 : V} (r : LRes H Q (x.map tmD)) (y : Ext [] [] H H1) (i : LIn H1 v0 x) : Q v0 H1 := by
  rcases i with ⟨rfl, rfl⟩ | ⟨t1, l1, pt, pr, v, rfl, rfl, e, dv, sr⟩
  · exact r.1 rfl H1 y
  · exact r.2 _ _ rfl H1 pt pr v y e dv sr
theorem LIn.ext {H H1 : Hp} {v0 : V} {x : Option (Tm × List Str)} (i : LIn H v0 x) (y : Ext [] [] H H1) : LIn H1 v0 x := by
  rcases i with ⟨rfl, rfl⟩ | ⟨t1, l1, pt, pr, v, rfl, rfl, e, dv, sr⟩
  · exact .inl ⟨rfl, rfl⟩
  · exact .inr ⟨t1, l1, pt, pr, v, rfl, rfl, y.tups _ _ e, dv.ext y, sr.ext y⟩
theorem vget {H : Hp} {p : Addr} {kvs : List (Key × V)} {s : Str} (e : H p = some (.dK kvs)) : DGet H p (.str s) (valV kvs (Sum.inr s)) := DGet.k (k := Sum.inr s) e
theorem vA (s : Str) : valV (mergeK [] [(Sum.inr "+", V.str "plus")]) (Sum.inr s) = (opA s).map fun o => V.str o.word := by
  unfold opA
  by_cases h : s = "+"
  · subst h
    decide +kernel
  · rw [if_neg h]
    simp [mergeK, valV, putK, h, Ne.symm h]
theorem vM (s : Str) : valV (mergeK [] [(Sum.inr "*", V.str "times")]) (Sum.inr s) = (opM s).map fun o => V.str o.word := by
  unfold opM
  by_cases h : s = "*"
  · subst h
    decide +kernel
  · rw [if_neg h]
    simp [mergeK, valV, putK, h, Ne.symm h]
theorem vC (s : Str) : valV (mergeK [] [(Sum.inr "==", V.str "same"), (Sum.inr "<", V.str "less")]) (Sum.inr s) = (opC s).map fun o => V.str o.word := by
  unfold opC
  by_cases h : s = "=="
  · subst h
    decide +kernel
  · rw [if_neg h]
    by_cases h2 : s = "<"
    · subst h2
      decide +kernel
    · rw [if_neg h2]
      have e : mergeK [] [(Sum.inr (Str.ofString "=="), V.str "same"), (Sum.inr (Str.ofString "<"), V.str "less")] = [(Sum.inr (Str.ofString "=="), V.str "same"), (Sum.inr (Str.ofString "<"), V.str "less")] := rfl
      rw [e]
      simp [valV, Ne.symm h, Ne.symm h2]
section
variable {P : Program} {w : World} {K : PySem.W.Frag} {mg : Str → Option Value} {base : Heap} {f c C : Addr} {fd : FuncData}
theorem ok_loffset (F : FunC K "_law_offset" "_law_offset" sLOffset f fd c) (T : Bl mg) (Gd : Cal P w K mg base 1 "_law_number" pLNumber spDigit) : FnOk P w K mg base CX0 2 f fd pLOffset spLOffset := by
  refine F.ok scLOffset (fun vs H Q E h => ?_) (fun A outer s H vs Q E hr h => ?_)
  · obtain ⟨p, l, rfl, _⟩ := h
    rfl
  obtain ⟨p, l, rfl, hp, q⟩ := h
  refine ⟨_, pss_cons (ps_if (PW.pt (pw_or (pt_cmpR (op_eqL hr.units) (pv 0) (pe_lst pa_nil) (nomark _)) (pw_or1 (pt_cmpR op_notIn_seq (pe_ix ix_list (pv 0) pe_int (fun _ _ => rfl)) (pe_lst (pa_cons pe_str (pa_cons pe_str pa_nil))) (by rfl))))) (pss_one (ps_ret (pe_tup (pa_cons pe_int (pa_cons (pv 0) pa_nil))))) pss_nil) (pss_cons (ps_set (i := 1) scLOffset.nd rfl (.inl rfl) (pe_ifExp (pt_cmpR op_gt (pe_callB call_len_seq (by rfl) T.len PySem.boot_len (pa_cons (pv 0) pa_nil)) pe_int (nomark _)) (pe_cal Gd (hr.mono (by omega)) rfl (pa_cons (pe_ix ix_list (pv 0) pe_int (fun _ _ => rfl)) (pa_cons pe_int (pa_cons pe_int pa_nil)))) pe_non)) (pss_one (ps_ret (pe_ifExp (pt_cmpR op_isN (pv 1) pe_non (nomark _)) pe_non (pe_tup (pa_cons (pe_ifExp (pt_cmpR op_eq (pe_ix ix_list (pv 0) pe_int (fun _ _ => rfl)) pe_str (nomark _)) (pv 1) (pe_op op_sub pe_int (pv 1))) (pa_cons (pe_slice sl_list (pv 0) (po_some pe_int) po_none) pa_nil))))))), ?_⟩
  refine ⟨_, rfl, (by show 0 ≤ sizeLine; decide), fun p1 hp1 => ?_⟩
  have x1 : Ext [] [] H (upd H p1 (.lst [])) := .new hp1
  have e1 : (upd H p1 (.lst [])) p1 = some (.lst (List.map V.str [])) := upd_same
  generalize upd H p1 (.lst []) = H1 at x1 e1 ⊢
  have s1 := hp.ext x1
  have q1 := q.wk x1
  refine ⟨p, p1, l, [], rfl, rfl, s1.at_, e1, hp.okS, by simp, _, rfl, ?_⟩
  have zero : ∀ H2, Ext [] [] H1 H2 → offsetF l = some (0, l) → (2 ≤ sizeLine) ∧ ∀ pt, H2 pt = none → Q (.ref pt) (upd H2 pt (.tup [.int 0, .ref p])) := fun H2 x2 ho => ⟨(by show 2 ≤ sizeLine; decide), fun pt hpt =>
    q1.2 (.int 0) l (by rw [ho]; rfl) _ pt p (.int 0) (x2.trans (.new hpt)) upd_same (.int _) ((s1.ext x2).ext (.new hpt))⟩
  cases l with
  | nil => exact iteDT rfl (iteT ⟨_, rfl, zero H1 .refl rfl⟩)
  | cons s r =>
    refine iteDF (by simp) ?_
    refine ⟨_, rfl, p, _, _, _, rfl, rfl, SqL.of s1.at_, atI_nat (j := 0) rfl, (by show 2 ≤ sizeLine; decide), fun p2 hp2 => ?_⟩
    have x2 : Ext [] [] H1 (upd H1 p2 (.lst [.str "@+", .str "@-"])) := .new hp2
    refine ⟨p2, _, rfl, .inl (SqL.of upd_same), rfl, (by decide +kernel), _, rfl, ?_⟩
    have q2 := q1.wk x2
    have s2 := s1.ext x2
    have zero2 := zero _ x2
    generalize upd H1 p2 (.lst [.str "@+", .str "@-"]) = H2 at x2 q2 s2 zero2 ⊢
    have iv : inV (V.str s) [.str "@+", .str "@-"] = decide (s = "@+" ∨ s = "@-") := by
      have := inV_str s ["@+", "@-"]
      rw [show inV (V.str s) [.str "@+", .str "@-"] = inV (V.str s) (List.map V.str ["@+", "@-"]) from rfl, this]
      simp
    show if (!inV (V.str s) [.str "@+", .str "@-"]) = true then _ else _
    rw [iv]
    have oF := off_cons s r
    by_cases hs : s = "@+" ∨ s = "@-"
    · refine iteNDT hs ?_
      refine ⟨_, rfl, p, _, rfl, .inl (SqL.of s2.at_), _, _, rfl, rfl, _, rfl, ?_⟩
      cases r with
      | nil =>
        refine iteDF (by show ¬ ((1 : Int) < ((1 : Nat) : Int)); decide) ?_
        refine ⟨_, rfl, rfl, _, rfl, iteDT rfl ?_⟩
        refine q2.1 ?_ _ .refl
        rw [oF]
        rcases hs with rfl | rfl
        · rw [if_pos rfl]
          rfl
        · rw [if_neg (by decide), if_pos rfl]
          rfl
      | cons w r =>
        refine iteDT (by rw [List.length_map, List.length_cons, List.length_cons]; omega) ?_
        refine ⟨_, rfl, p, _, _, _, rfl, rfl, SqL.of s2.at_, atI_nat (j := 1) rfl, w, 1, 2, rfl, Nat.le_trans (hp.ok w (by simp)).2 (by decide), ?_⟩
        cases hd : digitF w 1 2 with
        | none =>
          refine ⟨_, rfl, rfl, _, rfl, iteDT rfl ?_⟩
          refine q2.1 ?_ _ .refl
          rw [oF]
          have en : numI 1 2 (w :: r) = none := by
            show (digitF w 1 2).map _ = none
            rw [hd]
            rfl
          rcases hs with rfl | rfl
          · rw [if_pos rfl, en]
            rfl
          · rw [if_neg (by decide), if_pos rfl, en]
            rfl
        | some n =>
          refine ⟨_, rfl, rfl, _, rfl, iteDF (fun z => by cases z) ?_⟩
          refine ⟨_, rfl, p, _, _, _, rfl, rfl, SqL.of s2.at_, atI_nat (j := 0) rfl, rfl, _, rfl, ?_⟩
          have fin : ∀ m : Int, (offsetF (s :: w :: r)) = some (m, r) → ∀ p3, H2 p3 = none → (2 ≤ sizeLine) ∧ ∀ pt, (upd H2 p3 (.lst (cutV (List.map V.str (s :: w :: r)) (some 2) none))) pt = none → Q (.ref pt) (upd (upd H2 p3 (.lst (cutV (List.map V.str (s :: w :: r)) (some 2) none))) pt (.tup [.int m, .ref p3])) := fun m ho p3 hp3 =>
            ⟨(by show 2 ≤ sizeLine; decide), fun pt hpt => q2.2 (.int m) r (by rw [ho]; rfl) _ pt p3 (.int m) ((Ext.new hp3).trans (.new hpt)) upd_same (.int _) (SgL.ext (s2.drop (k := 2) (q := p3) upd_same) (.new hpt))⟩
          by_cases h1 : s = "@+"
          · refine iteDT (by rw [h1]) ?_
            refine ⟨_, rfl, _, rfl, _, rfl, p, _, rfl, SqL.of s2.at_, fun p3 hp3 => ?_⟩
            exact fin n (by rw [oF, if_pos h1]; show (digitF w 1 2).map _ = _; rw [hd]; rfl) p3 hp3
          · refine iteDF (fun z => h1 (by injection z)) ?_
            have h2 : s = "@-" := hs.resolve_left h1
            refine ⟨_, rfl, _, _, rfl, rfl, _, rfl, _, rfl, p, _, rfl, SqL.of s2.at_, fun p3 hp3 => ?_⟩
            exact fin (0 - n) (by rw [oF, if_neg h1, if_pos h2]; show ((digitF w 1 2).map fun n => (n, r)).map _ = _; rw [hd]; rfl) p3 hp3
    · refine iteNDF hs ?_
      refine ⟨_, rfl, zero2 ?_⟩
      rw [oF, if_neg (fun z => hs (.inl z)), if_neg (fun z => hs (.inr z))]
theorem ok_lside3 {k : Nat} {d : Int} {pf : List Str → List Str → PR} {spS spN : Sp} (F : FunC K "_law_side" "_law_side" sLSide f fd c) (T : Bl mg) (Gsingle : CalR P w K mg base (Rm k) "_law_single" pLSingle spN) (Gside : CalR P w K mg base (Rm k) "_law_side" pLSide spS) (hN : ∀ vs H Q E, spLPar pf d vs H Q E → spN vs H Q E) :
    FnR P w K mg base (Rm (k + 1)) f fd pLSide (spLSide pf 3 d) := by
  refine F.okR scLSide (fun vs H Q E h => ?_) (fun A outer s H vs Q E hr h => ?_)
  · obtain ⟨p, pw, l, ws, rfl, _⟩ := h
    rfl
  obtain ⟨p, pw, l, ws, rfl, hp, hw, hne, q⟩ := h
  refine ⟨_, pss_cons (ps_if (pt_cmpR op_eq (pv 2) pe_int (nomark _)) (pss_one (ps_ret (pe_calR Gsingle hr rfl (pa_cons (pv 0) (pa_cons (pv 1) (pa_cons (pv 3) pa_nil)))))) pss_nil) (pss_cons (ps_set (i := 4) scLSide.nd rfl (.inl rfl) (pe_calR Gside hr rfl (pa_cons (pv 0) (pa_cons (pv 1) (pa_cons (pe_op op_add (pv 2) pe_int) (pa_cons (pv 3) pa_nil)))))) (pss_cons (ps_set (i := 5) scLSide.nd rfl (.inl rfl) (pe_ix ix_list (pe_lst (pa_cons (pe_disp (pps_cons pe_str pe_str (pps_cons pe_str pe_str pps_nil)) (by rfl) (by rfl) (fun z => by cases z) (by decide)) (pa_cons (pe_disp (pps_cons pe_str pe_str pps_nil) (by rfl) (by rfl) (fun z => by cases z) (by decide)) (pa_cons (pe_disp (pps_cons pe_str pe_str pps_nil) (by rfl) (by rfl) (fun z => by cases z) (by decide)) pa_nil)))) (pv 2) (fun _ _ => rfl))) (pss_cons (ps_while PassesOwn.never (PW.pt (pw_and (pt_cmpR op_notN (pv 4) pe_non (nomark _)) (pw_and (pt_cmpR (op_neL hr.room.units) (pe_ix ix_tup (pv 4) pe_int (fun _ _ => rfl)) (pe_lst pa_nil) (nomark _)) (pw_and1 (pt_cmp (pc_din (hu_of hr.room) (pe_ix ix_list (pe_ix ix_tup (pv 4) pe_int (fun _ _ => rfl)) pe_int (fun _ _ => rfl)) (pv 5))))))) (pss_cons (ps_set (i := 6) scLSide.nd rfl (.inl rfl) (pe_calR Gside hr rfl (pa_cons (pe_slice sl_list (pe_ix ix_tup (pv 4) pe_int (fun _ _ => rfl)) (po_some pe_int) po_none) (pa_cons (pv 1) (pa_cons (pe_op op_add (pv 2) pe_int) (pa_cons (pv 3) pa_nil)))))) (pss_cons (ps_if (PW.pt (pw_or (pt_cmpR op_isN (pv 6) pe_non (nomark _)) (pw_or1 (pt_cmpR op_eq (pv 2) pe_int (nomark _))))) (pss_one (ps_ret (pe_ifExp (pt_cmpR op_isN (pv 6) pe_non (nomark _)) pe_non (pe_tup (pa_cons (pe_tup (pa_cons (pe_dget (hu_of hr.room) (pv 5) (pe_ix ix_list (pe_ix ix_tup (pv 4) pe_int (fun _ _ => rfl)) pe_int (fun _ _ => rfl)) (fun _ _ => rfl)) (pa_cons (pe_ix ix_tup (pv 4) pe_int (fun _ _ => rfl)) (pa_cons (pe_ix ix_tup (pv 6) pe_int (fun _ _ => rfl)) pa_nil)))) (pa_cons (pe_ix ix_tup (pv 6) pe_int (fun _ _ => rfl)) pa_nil)))))) pss_nil) (pss_one (ps_set (i := 4) scLSide.nd rfl (.inl rfl) (pe_tup (pa_cons (pe_tup (pa_cons (pe_dget (hu_of hr.room) (pv 5) (pe_ix ix_list (pe_ix ix_tup (pv 4) pe_int (fun _ _ => rfl)) pe_int (fun _ _ => rfl)) (fun _ _ => rfl)) (pa_cons (pe_ix ix_tup (pv 4) pe_int (fun _ _ => rfl)) (pa_cons (pe_ix ix_tup (pv 6) pe_int (fun _ _ => rfl)) pa_nil)))) (pa_cons (pe_ix ix_tup (pv 6) pe_int (fun _ _ => rfl)) pa_nil)))))))) (pss_one (ps_ret (pv 4)))))), ?_⟩
  refine ⟨_, rfl, rfl, _, rfl, iteDT rfl ?_⟩
  refine ⟨_, rfl, _, rfl, _, rfl, ?_⟩
  exact hN [.ref p, .ref pw, .int d] _ _ _ ⟨p, pw, l, ws, rfl, hp, hw, hne, q⟩
theorem ok_lside1 {k : Nat} {d : Int} {pf : List Str → List Str → PR} {spS spN : Sp} (F : FunC K "_law_side" "_law_side" sLSide f fd c) (T : Bl mg) (Gsingle : CalR P w K mg base (Rm k) "_law_single" pLSingle spN) (Gside : CalR P w K mg base (Rm k) "_law_side" pLSide spS) (hpf : ∀ ws, Shr (pf ws)) (hS : ∀ vs H Q E, spLSide pf 2 d vs H Q E → spS vs H Q E) :
    FnR P w K mg base (Rm (k + 1)) f fd pLSide (spLSide (fun ws => chainF (pf ws) opA) 1 d) := by
  refine F.okR scLSide (fun vs H Q E h => ?_) (fun A outer s H vs Q E hr h => ?_)
  · obtain ⟨p, pw, l, ws, rfl, _⟩ := h
    rfl
  obtain ⟨p, pw, l, ws, rfl, hp, hw, hne, q⟩ := h
  refine ⟨_, pss_cons (ps_if (pt_cmpR op_eq (pv 2) pe_int (nomark _)) (pss_one (ps_ret (pe_calR Gsingle hr rfl (pa_cons (pv 0) (pa_cons (pv 1) (pa_cons (pv 3) pa_nil)))))) pss_nil) (pss_cons (ps_set (i := 4) scLSide.nd rfl (.inl rfl) (pe_calR Gside hr rfl (pa_cons (pv 0) (pa_cons (pv 1) (pa_cons (pe_op op_add (pv 2) pe_int) (pa_cons (pv 3) pa_nil)))))) (pss_cons (ps_set (i := 5) scLSide.nd rfl (.inl rfl) (pe_ix ix_list (pe_lst (pa_cons (pe_disp (pps_cons pe_str pe_str (pps_cons pe_str pe_str pps_nil)) (by rfl) (by rfl) (fun z => by cases z) (by decide)) (pa_cons (pe_disp (pps_cons pe_str pe_str pps_nil) (by rfl) (by rfl) (fun z => by cases z) (by decide)) (pa_cons (pe_disp (pps_cons pe_str pe_str pps_nil) (by rfl) (by rfl) (fun z => by cases z) (by decide)) pa_nil)))) (pv 2) (fun _ _ => rfl))) (pss_cons (ps_while PassesOwn.never (PW.pt (pw_and (pt_cmpR op_notN (pv 4) pe_non (nomark _)) (pw_and (pt_cmpR (op_neL hr.room.units) (pe_ix ix_tup (pv 4) pe_int (fun _ _ => rfl)) (pe_lst pa_nil) (nomark _)) (pw_and1 (pt_cmp (pc_din (hu_of hr.room) (pe_ix ix_list (pe_ix ix_tup (pv 4) pe_int (fun _ _ => rfl)) pe_int (fun _ _ => rfl)) (pv 5))))))) (pss_cons (ps_set (i := 6) scLSide.nd rfl (.inl rfl) (pe_calR Gside hr rfl (pa_cons (pe_slice sl_list (pe_ix ix_tup (pv 4) pe_int (fun _ _ => rfl)) (po_some pe_int) po_none) (pa_cons (pv 1) (pa_cons (pe_op op_add (pv 2) pe_int) (pa_cons (pv 3) pa_nil)))))) (pss_cons (ps_if (PW.pt (pw_or (pt_cmpR op_isN (pv 6) pe_non (nomark _)) (pw_or1 (pt_cmpR op_eq (pv 2) pe_int (nomark _))))) (pss_one (ps_ret (pe_ifExp (pt_cmpR op_isN (pv 6) pe_non (nomark _)) pe_non (pe_tup (pa_cons (pe_tup (pa_cons (pe_dget (hu_of hr.room) (pv 5) (pe_ix ix_list (pe_ix ix_tup (pv 4) pe_int (fun _ _ => rfl)) pe_int (fun _ _ => rfl)) (fun _ _ => rfl)) (pa_cons (pe_ix ix_tup (pv 4) pe_int (fun _ _ => rfl)) (pa_cons (pe_ix ix_tup (pv 6) pe_int (fun _ _ => rfl)) pa_nil)))) (pa_cons (pe_ix ix_tup (pv 6) pe_int (fun _ _ => rfl)) pa_nil)))))) pss_nil) (pss_one (ps_set (i := 4) scLSide.nd rfl (.inl rfl) (pe_tup (pa_cons (pe_tup (pa_cons (pe_dget (hu_of hr.room) (pv 5) (pe_ix ix_list (pe_ix ix_tup (pv 4) pe_int (fun _ _ => rfl)) pe_int (fun _ _ => rfl)) (fun _ _ => rfl)) (pa_cons (pe_ix ix_tup (pv 4) pe_int (fun _ _ => rfl)) (pa_cons (pe_ix ix_tup (pv 6) pe_int (fun _ _ => rfl)) pa_nil)))) (pa_cons (pe_ix ix_tup (pv 6) pe_int (fun _ _ => rfl)) pa_nil)))))))) (pss_one (ps_ret (pv 4)))))), ?_⟩
  refine ⟨_, rfl, rfl, _, rfl, iteDF (by decide) ?_⟩
  refine ⟨_, rfl, _, rfl, _, rfl, _, _, rfl, rfl, _, rfl, ?_⟩
  refine hS [.ref p, .ref pw, .int 2, .int d] _ _ _ ⟨p, pw, l, ws, rfl, hp, hw, hne, ?_⟩
  have q : LRes H Q ((chainF (pf ws) opA l).map tmD) := q
  refine lres_of fun H1 v0 x1 hv => ?_
  refine fun a0 h0 => ⟨upd_same, [(Sum.inr "==", .str "same"), (Sum.inr "<", .str "less")], rfl, (by show 2 ≤ 15; decide), ?_⟩
  refine fun a1 h1 => ⟨upd_same, [(Sum.inr "+", .str "plus")], rfl, (by show 1 ≤ 15; decide), ?_⟩
  refine fun a2 h2 => ⟨upd_same, [(Sum.inr "*", .str "times")], rfl, (by show 1 ≤ 15; decide), (by show 3 ≤ sizeLine; decide), fun aL hL => ?_⟩
  have y0 : Ext [] [] H1 (upd (upd H1 a0 (.dK [])) a0 (.dK (mergeK [] [(Sum.inr "==", .str "same"), (Sum.inr "<", .str "less")]))) := (Ext.new h0).mutN h0
  have z0 : (upd (upd H1 a0 (.dK [])) a0 (.dK (mergeK [] [(Sum.inr "==", .str "same"), (Sum.inr "<", .str "less")]))) a0 = some (.dK (mergeK [] [(Sum.inr "==", .str "same"), (Sum.inr "<", .str "less")])) := upd_same
  generalize upd (upd H1 a0 (.dK [])) a0 (.dK (mergeK [] [(Sum.inr "==", .str "same"), (Sum.inr "<", .str "less")])) = B0 at y0 z0 h1 h2 hL ⊢
  have y1 : Ext [] [] B0 (upd (upd B0 a1 (.dK [])) a1 (.dK (mergeK [] [(Sum.inr "+", .str "plus")]))) := (Ext.new h1).mutN h1
  have z1 : (upd (upd B0 a1 (.dK [])) a1 (.dK (mergeK [] [(Sum.inr "+", .str "plus")]))) a1 = some (.dK (mergeK [] [(Sum.inr "+", .str "plus")])) := upd_same
  generalize upd (upd B0 a1 (.dK [])) a1 (.dK (mergeK [] [(Sum.inr "+", .str "plus")])) = B1 at y1 z1 h2 hL ⊢
  have y2 : Ext [] [] B1 (upd (upd B1 a2 (.dK [])) a2 (.dK (mergeK [] [(Sum.inr "*", .str "times")]))) := (Ext.new h2).mutN h2
  have z2 : (upd (upd B1 a2 (.dK [])) a2 (.dK (mergeK [] [(Sum.inr "*", .str "times")]))) a2 = some (.dK (mergeK [] [(Sum.inr "*", .str "times")])) := upd_same
  generalize upd (upd B1 a2 (.dK [])) a2 (.dK (mergeK [] [(Sum.inr "*", .str "times")])) = B2 at y2 z2 hL ⊢
  have y3 : Ext [] [] B2 (upd B2 aL (.lst [.ref a0, .ref a1, .ref a2])) := .new hL
  have z3 : (upd B2 aL (.lst [.ref a0, .ref a1, .ref a2])) aL = some (.lst [.ref a0, .ref a1, .ref a2]) := upd_same
  generalize upd B2 aL (.lst [.ref a0, .ref a1, .ref a2]) = B3 at y3 z3 ⊢
  have k0 := ((y1.trans y2).trans y3).keep _ _ z0 (fun _ z => by cases z) (by simp)
  have k1 := (y2.trans y3).keep _ _ z1 (fun _ z => by cases z) (by simp)
  have k2 := y3.keep _ _ z2 (fun _ z => by cases z) (by simp)
  have yA : Ext [] [] H1 B3 := ((y0.trans y1).trans y2).trans y3
  refine ⟨_, rfl, aL, _, _, _, rfl, rfl, SqL.of z3, atI_nat (j := 1) rfl, ?_⟩
  refine ⟨fun m σ' H' => ∃ (v0 : V) (tj : Tm) (lj : List Str) (o6 : Option V), σ' = [some (.ref p), some (.ref pw), some (.int 1), some (.int d), some v0, some (.ref a1), o6] ∧ Ext [] [] B3 H' ∧
    ((v0 = .non ∧ chainF (pf ws) opA l = none) ∨ ∃ (pt pr : Addr) (v : V), v0 = .ref pt ∧ H' pt = some (.tup [v, .ref pr]) ∧ DAt H' v tj.d ∧ SgL H' pr lj ∧ m = lj.length ∧ chainF (pf ws) opA l = chL (pf ws) opA tj lj), ?_, ?_⟩
  · rcases hv with ⟨e, rfl⟩ | ⟨t1, l1, pt, pr, v, e, rfl, ep, dv, sr⟩
    · exact ⟨0, .non, .isc 0, [], none, rfl, .refl, .inl ⟨rfl, by rw [chain_eq, e]; rfl⟩⟩
    · exact ⟨l1.length, .ref pt, t1, l1, none, rfl, .refl, .inr ⟨pt, pr, v, rfl, yA.tups _ _ ep, dv.ext yA, sr.ext yA, rfl, by rw [chain_eq, e]; rfl⟩⟩
  rintro m σ' H2 ⟨v0, tj, lj, o6, rfl, w2, hv⟩
  have xE : Ext [] [] H H2 := (x1.trans yA).trans w2
  rcases hv with ⟨rfl, hn⟩ | ⟨pt, pr, v, rfl, ep, dv, sr, rfl, hc⟩
  · refine ⟨_, rfl, rfl, _, rfl, iteF (iteF ?_)⟩
    exact ⟨_, rfl, q.use xE (.inl ⟨hn, rfl⟩)⟩
  refine ⟨_, rfl, rfl, _, rfl, iteT ?_⟩
  refine ⟨_, rfl, pt, _, _, _, rfl, rfl, SqT.of ep, atI_nat (j := 1) rfl, (by show 0 ≤ sizeLine; decide), fun p3 hp3 => ?_⟩
  have w3 : Ext [] [] H2 (upd H2 p3 (.lst [])) := .new hp3
  have e3 : (upd H2 p3 (.lst [])) p3 = some (.lst (List.map V.str [])) := upd_same
  generalize upd H2 p3 (.lst []) = H3 at w3 e3 ⊢
  have ep3 := w3.tups _ _ ep
  have sr3 := sr.ext w3
  have dv3 := dv.ext w3
  have xF := xE.trans w3
  refine ⟨pr, p3, lj, [], rfl, rfl, sr3.at_, e3, sr.okS, by simp, _, rfl, ?_⟩
  cases lj with
  | nil =>
    refine iteNDT rfl (iteF ?_)
    exact ⟨_, rfl, q.use xF (.inr ⟨tj, [], pt, pr, v, by rw [hc, chL_nil], rfl, ep3, dv3, sr3⟩)⟩
  | cons s1 tr =>
    refine iteNDF (by simp) ?_
    have kd := (w2.trans w3).keep _ _ k1 (fun _ z => by cases z) (by simp)
    refine ⟨_, rfl, pt, _, _, _, rfl, rfl, SqT.of ep3, atI_nat (j := 1) rfl, pr, _, _, _, rfl, rfl, SqL.of sr3.at_, atI_nat (j := 0) rfl, _, rfl, a1, _, rfl, vget kd, _, rfl, ?_⟩
    rw [vA]
    cases ho : opA s1 with
    | none =>
      refine iteF ?_
      exact ⟨_, rfl, q.use xF (.inr ⟨tj, s1 :: tr, pt, pr, v, by rw [hc, chL_stop ho], rfl, ep3, dv3, sr3⟩)⟩
    | some o =>
      refine iteT ⟨_, fun _ _ h => h, ?_⟩
      refine ⟨_, rfl, pt, _, _, _, rfl, rfl, SqT.of ep3, atI_nat (j := 1) rfl, _, rfl, pr, _, rfl, SqL.of sr3.at_, fun p4 hp4 => ?_⟩
      have w4 : Ext [] [] H3 (upd H3 p4 (.lst (cutV (List.map V.str (s1 :: tr)) (some 1) none))) := .new hp4
      have s4 : SgL (upd H3 p4 (.lst (cutV (List.map V.str (s1 :: tr)) (some 1) none))) p4 tr := sr3.drop (k := 1) upd_same
      generalize upd H3 p4 (.lst (cutV (List.map V.str (s1 :: tr)) (some 1) none)) = H4 at w4 s4 ⊢
      refine ⟨_, rfl, _, rfl, _, _, rfl, rfl, _, rfl, ?_⟩
      refine hS [.ref p4, .ref pw, .int 2, .int d] _ _ _ ⟨p4, pw, tr, ws, rfl, s4, hw.ext (xF.trans w4), hne, ?_⟩
      refine lres_of fun H5 v5 x5 hv5 => ?_
      have xG := (xF.trans w4).trans x5
      rcases hv5 with ⟨e5, rfl⟩ | ⟨t5, l5, pt5, pr5, u5, e5, rfl, ep5, dv5, sr5⟩
      · refine ⟨_, rfl, rfl, _, rfl, iteT (iteT ?_)⟩
        refine ⟨_, rfl, rfl, _, rfl, iteT ?_⟩
        exact q.use xG (.inl ⟨by rw [hc, chL_bad ho e5], rfl⟩)
      · refine ⟨_, rfl, rfl, _, rfl, iteF ?_⟩
        refine ⟨_, rfl, rfl, _, rfl, iteDF (by decide) ?_⟩
        have w5 := (w4.trans x5)
        have ep6 := w5.tups _ _ ep3
        have sr6 := sr3.ext w5
        have kd6 := w5.keep _ _ kd (fun _ z => by cases z) (by simp)
        have vd := vget (s := s1) kd6
        rw [vA, ho] at vd
        refine ⟨_, rfl, _, rfl, pt, _, _, _, rfl, rfl, SqT.of ep6, atI_nat (j := 1) rfl, pr, _, _, _, rfl, rfl, SqL.of sr6.at_, atI_nat (j := 0) rfl, a1, _, rfl, vd, ?_⟩
        refine ⟨_, rfl, pt, _, _, _, rfl, rfl, SqT.of ep6, atI_nat (j := 0) rfl, ?_⟩
        refine ⟨_, rfl, pt5, _, _, _, rfl, rfl, SqT.of ep5, atI_nat (j := 0) rfl, (by show 3 ≤ sizeLine; decide), fun p7 hp7 => ?_⟩
        have w7 : Ext [] [] H5 (upd H5 p7 (.tup [.str o.word, v, u5])) := .new hp7
        have d7 : DAt (upd H5 p7 (.tup [.str o.word, v, u5])) (.ref p7) (Tm.bin o tj t5).d := .mk3 upd_same (.str _) (((dv3.ext w5)).ext w7) (dv5.ext w7)
        generalize upd H5 p7 (.tup [.str o.word, v, u5]) = H7 at w7 d7 ⊢
        refine ⟨_, rfl, pt5, _, _, _, rfl, rfl, SqT.of (w7.tups _ _ ep5), atI_nat (j := 1) rfl, (by show 2 ≤ sizeLine; decide), fun p8 hp8 => ?_⟩
        have w8 : Ext [] [] H7 (upd H7 p8 (.tup [.ref p7, .ref pr5])) := .new hp8
        refine ⟨l5.length, ?_, .ref p8, .bin o tj t5, l5, _, rfl, (((w2.trans w3).trans w5).trans w7).trans w8, .inr ⟨p8, pr5, .ref p7, rfl, upd_same, d7.ext w8, (sr5.ext w7).ext w8, rfl, by rw [hc, chL_go (hpf ws) ho e5]⟩⟩
        have := hpf ws _ _ _ e5
        rw [List.length_cons]
        omega
theorem ok_lside2 {k : Nat} {d : Int} {pf : List Str → List Str → PR} {spS spN : Sp} (F : FunC K "_law_side" "_law_side" sLSide f fd c) (T : Bl mg) (Gsingle : CalR P w K mg base (Rm k) "_law_single" pLSingle spN) (Gside : CalR P w K mg base (Rm k) "_law_side" pLSide spS) (hpf : ∀ ws, Shr (pf ws)) (hS : ∀ vs H Q E, spLSide pf 3 d vs H Q E → spS vs H Q E) :
    FnR P w K mg base (Rm (k + 1)) f fd pLSide (spLSide (fun ws => chainF (pf ws) opM) 2 d) := by
  refine F.okR scLSide (fun vs H Q E h => ?_) (fun A outer s H vs Q E hr h => ?_)
  · obtain ⟨p, pw, l, ws, rfl, _⟩ := h
    rfl
  obtain ⟨p, pw, l, ws, rfl, hp, hw, hne, q⟩ := h
  refine ⟨_, pss_cons (ps_if (pt_cmpR op_eq (pv 2) pe_int (nomark _)) (pss_one (ps_ret (pe_calR Gsingle hr rfl (pa_cons (pv 0) (pa_cons (pv 1) (pa_cons (pv 3) pa_nil)))))) pss_nil) (pss_cons (ps_set (i := 4) scLSide.nd rfl (.inl rfl) (pe_calR Gside hr rfl (pa_cons (pv 0) (pa_cons (pv 1) (pa_cons (pe_op op_add (pv 2) pe_int) (pa_cons (pv 3) pa_nil)))))) (pss_cons (ps_set (i := 5) scLSide.nd rfl (.inl rfl) (pe_ix ix_list (pe_lst (pa_cons (pe_disp (pps_cons pe_str pe_str (pps_cons pe_str pe_str pps_nil)) (by rfl) (by rfl) (fun z => by cases z) (by decide)) (pa_cons (pe_disp (pps_cons pe_str pe_str pps_nil) (by rfl) (by rfl) (fun z => by cases z) (by decide)) (pa_cons (pe_disp (pps_cons pe_str pe_str pps_nil) (by rfl) (by rfl) (fun z => by cases z) (by decide)) pa_nil)))) (pv 2) (fun _ _ => rfl))) (pss_cons (ps_while PassesOwn.never (PW.pt (pw_and (pt_cmpR op_notN (pv 4) pe_non (nomark _)) (pw_and (pt_cmpR (op_neL hr.room.units) (pe_ix ix_tup (pv 4) pe_int (fun _ _ => rfl)) (pe_lst pa_nil) (nomark _)) (pw_and1 (pt_cmp (pc_din (hu_of hr.room) (pe_ix ix_list (pe_ix ix_tup (pv 4) pe_int (fun _ _ => rfl)) pe_int (fun _ _ => rfl)) (pv 5))))))) (pss_cons (ps_set (i := 6) scLSide.nd rfl (.inl rfl) (pe_calR Gside hr rfl (pa_cons (pe_slice sl_list (pe_ix ix_tup (pv 4) pe_int (fun _ _ => rfl)) (po_some pe_int) po_none) (pa_cons (pv 1) (pa_cons (pe_op op_add (pv 2) pe_int) (pa_cons (pv 3) pa_nil)))))) (pss_cons (ps_if (PW.pt (pw_or (pt_cmpR op_isN (pv 6) pe_non (nomark _)) (pw_or1 (pt_cmpR op_eq (pv 2) pe_int (nomark _))))) (pss_one (ps_ret (pe_ifExp (pt_cmpR op_isN (pv 6) pe_non (nomark _)) pe_non (pe_tup (pa_cons (pe_tup (pa_cons (pe_dget (hu_of hr.room) (pv 5) (pe_ix ix_list (pe_ix ix_tup (pv 4) pe_int (fun _ _ => rfl)) pe_int (fun _ _ => rfl)) (fun _ _ => rfl)) (pa_cons (pe_ix ix_tup (pv 4) pe_int (fun _ _ => rfl)) (pa_cons (pe_ix ix_tup (pv 6) pe_int (fun _ _ => rfl)) pa_nil)))) (pa_cons (pe_ix ix_tup (pv 6) pe_int (fun _ _ => rfl)) pa_nil)))))) pss_nil) (pss_one (ps_set (i := 4) scLSide.nd rfl (.inl rfl) (pe_tup (pa_cons (pe_tup (pa_cons (pe_dget (hu_of hr.room) (pv 5) (pe_ix ix_list (pe_ix ix_tup (pv 4) pe_int (fun _ _ => rfl)) pe_int (fun _ _ => rfl)) (fun _ _ => rfl)) (pa_cons (pe_ix ix_tup (pv 4) pe_int (fun _ _ => rfl)) (pa_cons (pe_ix ix_tup (pv 6) pe_int (fun _ _ => rfl)) pa_nil)))) (pa_cons (pe_ix ix_tup (pv 6) pe_int (fun _ _ => rfl)) pa_nil)))))))) (pss_one (ps_ret (pv 4)))))), ?_⟩
  refine ⟨_, rfl, rfl, _, rfl, iteDF (by decide) ?_⟩
  refine ⟨_, rfl, _, rfl, _, rfl, _, _, rfl, rfl, _, rfl, ?_⟩
  refine hS [.ref p, .ref pw, .int 3, .int d] _ _ _ ⟨p, pw, l, ws, rfl, hp, hw, hne, ?_⟩
  have q : LRes H Q ((chainF (pf ws) opM l).map tmD) := q
  refine lres_of fun H1 v0 x1 hv => ?_
  refine fun a0 h0 => ⟨upd_same, [(Sum.inr "==", .str "same"), (Sum.inr "<", .str "less")], rfl, (by show 2 ≤ 15; decide), ?_⟩
  refine fun a1 h1 => ⟨upd_same, [(Sum.inr "+", .str "plus")], rfl, (by show 1 ≤ 15; decide), ?_⟩
  refine fun a2 h2 => ⟨upd_same, [(Sum.inr "*", .str "times")], rfl, (by show 1 ≤ 15; decide), (by show 3 ≤ sizeLine; decide), fun aL hL => ?_⟩
  have y0 : Ext [] [] H1 (upd (upd H1 a0 (.dK [])) a0 (.dK (mergeK [] [(Sum.inr "==", .str "same"), (Sum.inr "<", .str "less")]))) := (Ext.new h0).mutN h0
  have z0 : (upd (upd H1 a0 (.dK [])) a0 (.dK (mergeK [] [(Sum.inr "==", .str "same"), (Sum.inr "<", .str "less")]))) a0 = some (.dK (mergeK [] [(Sum.inr "==", .str "same"), (Sum.inr "<", .str "less")])) := upd_same
  generalize upd (upd H1 a0 (.dK [])) a0 (.dK (mergeK [] [(Sum.inr "==", .str "same"), (Sum.inr "<", .str "less")])) = B0 at y0 z0 h1 h2 hL ⊢
  have y1 : Ext [] [] B0 (upd (upd B0 a1 (.dK [])) a1 (.dK (mergeK [] [(Sum.inr "+", .str "plus")]))) := (Ext.new h1).mutN h1
  have z1 : (upd (upd B0 a1 (.dK [])) a1 (.dK (mergeK [] [(Sum.inr "+", .str "plus")]))) a1 = some (.dK (mergeK [] [(Sum.inr "+", .str "plus")])) := upd_same
  generalize upd (upd B0 a1 (.dK [])) a1 (.dK (mergeK [] [(Sum.inr "+", .str "plus")])) = B1 at y1 z1 h2 hL ⊢
  have y2 : Ext [] [] B1 (upd (upd B1 a2 (.dK [])) a2 (.dK (mergeK [] [(Sum.inr "*", .str "times")]))) := (Ext.new h2).mutN h2
  have z2 : (upd (upd B1 a2 (.dK [])) a2 (.dK (mergeK [] [(Sum.inr "*", .str "times")]))) a2 = some (.dK (mergeK [] [(Sum.inr "*", .str "times")])) := upd_same
  generalize upd (upd B1 a2 (.dK [])) a2 (.dK (mergeK [] [(Sum.inr "*", .str "times")])) = B2 at y2 z2 hL ⊢
  have y3 : Ext [] [] B2 (upd B2 aL (.lst [.ref a0, .ref a1, .ref a2])) := .new hL
  have z3 : (upd B2 aL (.lst [.ref a0, .ref a1, .ref a2])) aL = some (.lst [.ref a0, .ref a1, .ref a2]) := upd_same
  generalize upd B2 aL (.lst [.ref a0, .ref a1, .ref a2]) = B3 at y3 z3 ⊢
  have k0 := ((y1.trans y2).trans y3).keep _ _ z0 (fun _ z => by cases z) (by simp)
  have k1 := (y2.trans y3).keep _ _ z1 (fun _ z => by cases z) (by simp)
  have k2 := y3.keep _ _ z2 (fun _ z => by cases z) (by simp)
  have yA : Ext [] [] H1 B3 := ((y0.trans y1).trans y2).trans y3
  refine ⟨_, rfl, aL, _, _, _, rfl, rfl, SqL.of z3, atI_nat (j := 2) rfl, ?_⟩
  refine ⟨fun m σ' H' => ∃ (v0 : V) (tj : Tm) (lj : List Str) (o6 : Option V), σ' = [some (.ref p), some (.ref pw), some (.int 2), some (.int d), some v0, some (.ref a2), o6] ∧ Ext [] [] B3 H' ∧
    ((v0 = .non ∧ chainF (pf ws) opM l = none) ∨ ∃ (pt pr : Addr) (v : V), v0 = .ref pt ∧ H' pt = some (.tup [v, .ref pr]) ∧ DAt H' v tj.d ∧ SgL H' pr lj ∧ m = lj.length ∧ chainF (pf ws) opM l = chL (pf ws) opM tj lj), ?_, ?_⟩
  · rcases hv with ⟨e, rfl⟩ | ⟨t1, l1, pt, pr, v, e, rfl, ep, dv, sr⟩
    · exact ⟨0, .non, .isc 0, [], none, rfl, .refl, .inl ⟨rfl, by rw [chain_eq, e]; rfl⟩⟩
    · exact ⟨l1.length, .ref pt, t1, l1, none, rfl, .refl, .inr ⟨pt, pr, v, rfl, yA.tups _ _ ep, dv.ext yA, sr.ext yA, rfl, by rw [chain_eq, e]; rfl⟩⟩
  rintro m σ' H2 ⟨v0, tj, lj, o6, rfl, w2, hv⟩
  have xE : Ext [] [] H H2 := (x1.trans yA).trans w2
  rcases hv with ⟨rfl, hn⟩ | ⟨pt, pr, v, rfl, ep, dv, sr, rfl, hc⟩
  · refine ⟨_, rfl, rfl, _, rfl, iteF (iteF ?_)⟩
    exact ⟨_, rfl, q.use xE (.inl ⟨hn, rfl⟩)⟩
  refine ⟨_, rfl, rfl, _, rfl, iteT ?_⟩
  refine ⟨_, rfl, pt, _, _, _, rfl, rfl, SqT.of ep, atI_nat (j := 1) rfl, (by show 0 ≤ sizeLine; decide), fun p3 hp3 => ?_⟩
  have w3 : Ext [] [] H2 (upd H2 p3 (.lst [])) := .new hp3
  have e3 : (upd H2 p3 (.lst [])) p3 = some (.lst (List.map V.str [])) := upd_same
  generalize upd H2 p3 (.lst []) = H3 at w3 e3 ⊢
  have ep3 := w3.tups _ _ ep
  have sr3 := sr.ext w3
  have dv3 := dv.ext w3
  have xF := xE.trans w3
  refine ⟨pr, p3, lj, [], rfl, rfl, sr3.at_, e3, sr.okS, by simp, _, rfl, ?_⟩
  cases lj with
  | nil =>
    refine iteNDT rfl (iteF ?_)
    exact ⟨_, rfl, q.use xF (.inr ⟨tj, [], pt, pr, v, by rw [hc, chL_nil], rfl, ep3, dv3, sr3⟩)⟩
  | cons s1 tr =>
    refine iteNDF (by simp) ?_
    have kd := (w2.trans w3).keep _ _ k2 (fun _ z => by cases z) (by simp)
    refine ⟨_, rfl, pt, _, _, _, rfl, rfl, SqT.of ep3, atI_nat (j := 1) rfl, pr, _, _, _, rfl, rfl, SqL.of sr3.at_, atI_nat (j := 0) rfl, _, rfl, a2, _, rfl, vget kd, _, rfl, ?_⟩
    rw [vM]
    cases ho : opM s1 with
    | none =>
      refine iteF ?_
      exact ⟨_, rfl, q.use xF (.inr ⟨tj, s1 :: tr, pt, pr, v, by rw [hc, chL_stop ho], rfl, ep3, dv3, sr3⟩)⟩
    | some o =>
      refine iteT ⟨_, fun _ _ h => h, ?_⟩
      refine ⟨_, rfl, pt, _, _, _, rfl, rfl, SqT.of ep3, atI_nat (j := 1) rfl, _, rfl, pr, _, rfl, SqL.of sr3.at_, fun p4 hp4 => ?_⟩
      have w4 : Ext [] [] H3 (upd H3 p4 (.lst (cutV (List.map V.str (s1 :: tr)) (some 1) none))) := .new hp4
      have s4 : SgL (upd H3 p4 (.lst (cutV (List.map V.str (s1 :: tr)) (some 1) none))) p4 tr := sr3.drop (k := 1) upd_same
      generalize upd H3 p4 (.lst (cutV (List.map V.str (s1 :: tr)) (some 1) none)) = H4 at w4 s4 ⊢
      refine ⟨_, rfl, _, rfl, _, _, rfl, rfl, _, rfl, ?_⟩
      refine hS [.ref p4, .ref pw, .int 3, .int d] _ _ _ ⟨p4, pw, tr, ws, rfl, s4, hw.ext (xF.trans w4), hne, ?_⟩
      refine lres_of fun H5 v5 x5 hv5 => ?_
      have xG := (xF.trans w4).trans x5
      rcases hv5 with ⟨e5, rfl⟩ | ⟨t5, l5, pt5, pr5, u5, e5, rfl, ep5, dv5, sr5⟩
      · refine ⟨_, rfl, rfl, _, rfl, iteT (iteT ?_)⟩
        refine ⟨_, rfl, rfl, _, rfl, iteT ?_⟩
        exact q.use xG (.inl ⟨by rw [hc, chL_bad ho e5], rfl⟩)
      · refine ⟨_, rfl, rfl, _, rfl, iteF ?_⟩
        refine ⟨_, rfl, rfl, _, rfl, iteDF (by decide) ?_⟩
        have w5 := (w4.trans x5)
        have ep6 := w5.tups _ _ ep3
        have sr6 := sr3.ext w5
        have kd6 := w5.keep _ _ kd (fun _ z => by cases z) (by simp)
        have vd := vget (s := s1) kd6
        rw [vM, ho] at vd
        refine ⟨_, rfl, _, rfl, pt, _, _, _, rfl, rfl, SqT.of ep6, atI_nat (j := 1) rfl, pr, _, _, _, rfl, rfl, SqL.of sr6.at_, atI_nat (j := 0) rfl, a2, _, rfl, vd, ?_⟩
        refine ⟨_, rfl, pt, _, _, _, rfl, rfl, SqT.of ep6, atI_nat (j := 0) rfl, ?_⟩
        refine ⟨_, rfl, pt5, _, _, _, rfl, rfl, SqT.of ep5, atI_nat (j := 0) rfl, (by show 3 ≤ sizeLine; decide), fun p7 hp7 => ?_⟩
        have w7 : Ext [] [] H5 (upd H5 p7 (.tup [.str o.word, v, u5])) := .new hp7
        have d7 : DAt (upd H5 p7 (.tup [.str o.word, v, u5])) (.ref p7) (Tm.bin o tj t5).d := .mk3 upd_same (.str _) (((dv3.ext w5)).ext w7) (dv5.ext w7)
        generalize upd H5 p7 (.tup [.str o.word, v, u5]) = H7 at w7 d7 ⊢
        refine ⟨_, rfl, pt5, _, _, _, rfl, rfl, SqT.of (w7.tups _ _ ep5), atI_nat (j := 1) rfl, (by show 2 ≤ sizeLine; decide), fun p8 hp8 => ?_⟩
        have w8 : Ext [] [] H7 (upd H7 p8 (.tup [.ref p7, .ref pr5])) := .new hp8
        refine ⟨l5.length, ?_, .ref p8, .bin o tj t5, l5, _, rfl, (((w2.trans w3).trans w5).trans w7).trans w8, .inr ⟨p8, pr5, .ref p7, rfl, upd_same, d7.ext w8, (sr5.ext w7).ext w8, rfl, by rw [hc, chL_go (hpf ws) ho e5]⟩⟩
        have := hpf ws _ _ _ e5
        rw [List.length_cons]
        omega
theorem ok_lside0 {k : Nat} {d : Int} {pf : List Str → List Str → PR} {spS spN : Sp} (F : FunC K "_law_side" "_law_side" sLSide f fd c) (T : Bl mg) (Gsingle : CalR P w K mg base (Rm k) "_law_single" pLSingle spN) (Gside : CalR P w K mg base (Rm k) "_law_side" pLSide spS) (hS : ∀ vs H Q E, spLSide pf 1 d vs H Q E → spS vs H Q E) :
    FnR P w K mg base (Rm (k + 1)) f fd pLSide (spLSide (fun ws => compF (pf ws)) 0 d) := by
  refine F.okR scLSide (fun vs H Q E h => ?_) (fun A outer s H vs Q E hr h => ?_)
  · obtain ⟨p, pw, l, ws, rfl, _⟩ := h
    rfl
  obtain ⟨p, pw, l, ws, rfl, hp, hw, hne, q⟩ := h
  refine ⟨_, pss_cons (ps_if (pt_cmpR op_eq (pv 2) pe_int (nomark _)) (pss_one (ps_ret (pe_calR Gsingle hr rfl (pa_cons (pv 0) (pa_cons (pv 1) (pa_cons (pv 3) pa_nil)))))) pss_nil) (pss_cons (ps_set (i := 4) scLSide.nd rfl (.inl rfl) (pe_calR Gside hr rfl (pa_cons (pv 0) (pa_cons (pv 1) (pa_cons (pe_op op_add (pv 2) pe_int) (pa_cons (pv 3) pa_nil)))))) (pss_cons (ps_set (i := 5) scLSide.nd rfl (.inl rfl) (pe_ix ix_list (pe_lst (pa_cons (pe_disp (pps_cons pe_str pe_str (pps_cons pe_str pe_str pps_nil)) (by rfl) (by rfl) (fun z => by cases z) (by decide)) (pa_cons (pe_disp (pps_cons pe_str pe_str pps_nil) (by rfl) (by rfl) (fun z => by cases z) (by decide)) (pa_cons (pe_disp (pps_cons pe_str pe_str pps_nil) (by rfl) (by rfl) (fun z => by cases z) (by decide)) pa_nil)))) (pv 2) (fun _ _ => rfl))) (pss_cons (ps_while PassesOwn.never (PW.pt (pw_and (pt_cmpR op_notN (pv 4) pe_non (nomark _)) (pw_and (pt_cmpR (op_neL hr.room.units) (pe_ix ix_tup (pv 4) pe_int (fun _ _ => rfl)) (pe_lst pa_nil) (nomark _)) (pw_and1 (pt_cmp (pc_din (hu_of hr.room) (pe_ix ix_list (pe_ix ix_tup (pv 4) pe_int (fun _ _ => rfl)) pe_int (fun _ _ => rfl)) (pv 5))))))) (pss_cons (ps_set (i := 6) scLSide.nd rfl (.inl rfl) (pe_calR Gside hr rfl (pa_cons (pe_slice sl_list (pe_ix ix_tup (pv 4) pe_int (fun _ _ => rfl)) (po_some pe_int) po_none) (pa_cons (pv 1) (pa_cons (pe_op op_add (pv 2) pe_int) (pa_cons (pv 3) pa_nil)))))) (pss_cons (ps_if (PW.pt (pw_or (pt_cmpR op_isN (pv 6) pe_non (nomark _)) (pw_or1 (pt_cmpR op_eq (pv 2) pe_int (nomark _))))) (pss_one (ps_ret (pe_ifExp (pt_cmpR op_isN (pv 6) pe_non (nomark _)) pe_non (pe_tup (pa_cons (pe_tup (pa_cons (pe_dget (hu_of hr.room) (pv 5) (pe_ix ix_list (pe_ix ix_tup (pv 4) pe_int (fun _ _ => rfl)) pe_int (fun _ _ => rfl)) (fun _ _ => rfl)) (pa_cons (pe_ix ix_tup (pv 4) pe_int (fun _ _ => rfl)) (pa_cons (pe_ix ix_tup (pv 6) pe_int (fun _ _ => rfl)) pa_nil)))) (pa_cons (pe_ix ix_tup (pv 6) pe_int (fun _ _ => rfl)) pa_nil)))))) pss_nil) (pss_one (ps_set (i := 4) scLSide.nd rfl (.inl rfl) (pe_tup (pa_cons (pe_tup (pa_cons (pe_dget (hu_of hr.room) (pv 5) (pe_ix ix_list (pe_ix ix_tup (pv 4) pe_int (fun _ _ => rfl)) pe_int (fun _ _ => rfl)) (fun _ _ => rfl)) (pa_cons (pe_ix ix_tup (pv 4) pe_int (fun _ _ => rfl)) (pa_cons (pe_ix ix_tup (pv 6) pe_int (fun _ _ => rfl)) pa_nil)))) (pa_cons (pe_ix ix_tup (pv 6) pe_int (fun _ _ => rfl)) pa_nil)))))))) (pss_one (ps_ret (pv 4)))))), ?_⟩
  refine ⟨_, rfl, rfl, _, rfl, iteDF (by decide) ?_⟩
  refine ⟨_, rfl, _, rfl, _, rfl, _, _, rfl, rfl, _, rfl, ?_⟩
  refine hS [.ref p, .ref pw, .int 1, .int d] _ _ _ ⟨p, pw, l, ws, rfl, hp, hw, hne, ?_⟩
  have q : LRes H Q ((compF (pf ws) l).map tmD) := q
  refine lres_of fun H1 v0 x1 hv => ?_
  refine fun a0 h0 => ⟨upd_same, [(Sum.inr "==", .str "same"), (Sum.inr "<", .str "less")], rfl, (by show 2 ≤ 15; decide), ?_⟩
  refine fun a1 h1 => ⟨upd_same, [(Sum.inr "+", .str "plus")], rfl, (by show 1 ≤ 15; decide), ?_⟩
  refine fun a2 h2 => ⟨upd_same, [(Sum.inr "*", .str "times")], rfl, (by show 1 ≤ 15; decide), (by show 3 ≤ sizeLine; decide), fun aL hL => ?_⟩
  have y0 : Ext [] [] H1 (upd (upd H1 a0 (.dK [])) a0 (.dK (mergeK [] [(Sum.inr "==", .str "same"), (Sum.inr "<", .str "less")]))) := (Ext.new h0).mutN h0
  have z0 : (upd (upd H1 a0 (.dK [])) a0 (.dK (mergeK [] [(Sum.inr "==", .str "same"), (Sum.inr "<", .str "less")]))) a0 = some (.dK (mergeK [] [(Sum.inr "==", .str "same"), (Sum.inr "<", .str "less")])) := upd_same
  generalize upd (upd H1 a0 (.dK [])) a0 (.dK (mergeK [] [(Sum.inr "==", .str "same"), (Sum.inr "<", .str "less")])) = B0 at y0 z0 h1 h2 hL ⊢
  have y1 : Ext [] [] B0 (upd (upd B0 a1 (.dK [])) a1 (.dK (mergeK [] [(Sum.inr "+", .str "plus")]))) := (Ext.new h1).mutN h1
  have z1 : (upd (upd B0 a1 (.dK [])) a1 (.dK (mergeK [] [(Sum.inr "+", .str "plus")]))) a1 = some (.dK (mergeK [] [(Sum.inr "+", .str "plus")])) := upd_same
  generalize upd (upd B0 a1 (.dK [])) a1 (.dK (mergeK [] [(Sum.inr "+", .str "plus")])) = B1 at y1 z1 h2 hL ⊢
  have y2 : Ext [] [] B1 (upd (upd B1 a2 (.dK [])) a2 (.dK (mergeK [] [(Sum.inr "*", .str "times")]))) := (Ext.new h2).mutN h2
  have z2 : (upd (upd B1 a2 (.dK [])) a2 (.dK (mergeK [] [(Sum.inr "*", .str "times")]))) a2 = some (.dK (mergeK [] [(Sum.inr "*", .str "times")])) := upd_same
  generalize upd (upd B1 a2 (.dK [])) a2 (.dK (mergeK [] [(Sum.inr "*", .str "times")])) = B2 at y2 z2 hL ⊢
  have y3 : Ext [] [] B2 (upd B2 aL (.lst [.ref a0, .ref a1, .ref a2])) := .new hL
  have z3 : (upd B2 aL (.lst [.ref a0, .ref a1, .ref a2])) aL = some (.lst [.ref a0, .ref a1, .ref a2]) := upd_same
  generalize upd B2 aL (.lst [.ref a0, .ref a1, .ref a2]) = B3 at y3 z3 ⊢
  have k0 := ((y1.trans y2).trans y3).keep _ _ z0 (fun _ z => by cases z) (by simp)
  have k1 := (y2.trans y3).keep _ _ z1 (fun _ z => by cases z) (by simp)
  have k2 := y3.keep _ _ z2 (fun _ z => by cases z) (by simp)
  have yA : Ext [] [] H1 B3 := ((y0.trans y1).trans y2).trans y3
  refine ⟨_, rfl, aL, _, _, _, rfl, rfl, SqL.of z3, atI_nat (j := 0) rfl, ?_⟩
  refine ⟨fun m σ' H' => ∃ (v0 : V) (tj : Tm) (lj : List Str) (o6 : Option V), σ' = [some (.ref p), some (.ref pw), some (.int 0), some (.int d), some v0, some (.ref a0), o6] ∧ Ext [] [] B3 H' ∧
    ((v0 = .non ∧ compF (pf ws) l = none) ∨ ∃ (pt pr : Addr) (v : V), v0 = .ref pt ∧ H' pt = some (.tup [v, .ref pr]) ∧ DAt H' v tj.d ∧ SgL H' pr lj ∧ m = lj.length ∧ compF (pf ws) l = compR (pf ws) tj lj), ?_, ?_⟩
  · rcases hv with ⟨e, rfl⟩ | ⟨t1, l1, pt, pr, v, e, rfl, ep, dv, sr⟩
    · exact ⟨0, .non, .isc 0, [], none, rfl, .refl, .inl ⟨rfl, by rw [comp_eq, e]; rfl⟩⟩
    · exact ⟨l1.length, .ref pt, t1, l1, none, rfl, .refl, .inr ⟨pt, pr, v, rfl, yA.tups _ _ ep, dv.ext yA, sr.ext yA, rfl, by rw [comp_eq, e]; rfl⟩⟩
  rintro m σ' H2 ⟨v0, tj, lj, o6, rfl, w2, hv⟩
  have xE : Ext [] [] H H2 := (x1.trans yA).trans w2
  rcases hv with ⟨rfl, hn⟩ | ⟨pt, pr, v, rfl, ep, dv, sr, rfl, hc⟩
  · refine ⟨_, rfl, rfl, _, rfl, iteF (iteF ?_)⟩
    exact ⟨_, rfl, q.use xE (.inl ⟨hn, rfl⟩)⟩
  refine ⟨_, rfl, rfl, _, rfl, iteT ?_⟩
  refine ⟨_, rfl, pt, _, _, _, rfl, rfl, SqT.of ep, atI_nat (j := 1) rfl, (by show 0 ≤ sizeLine; decide), fun p3 hp3 => ?_⟩
  have w3 : Ext [] [] H2 (upd H2 p3 (.lst [])) := .new hp3
  have e3 : (upd H2 p3 (.lst [])) p3 = some (.lst (List.map V.str [])) := upd_same
  generalize upd H2 p3 (.lst []) = H3 at w3 e3 ⊢
  have ep3 := w3.tups _ _ ep
  have sr3 := sr.ext w3
  have dv3 := dv.ext w3
  have xF := xE.trans w3
  refine ⟨pr, p3, lj, [], rfl, rfl, sr3.at_, e3, sr.okS, by simp, _, rfl, ?_⟩
  cases lj with
  | nil =>
    refine iteNDT rfl (iteF ?_)
    exact ⟨_, rfl, q.use xF (.inr ⟨tj, [], pt, pr, v, by rw [hc, compR_nil], rfl, ep3, dv3, sr3⟩)⟩
  | cons s1 tr =>
    refine iteNDF (by simp) ?_
    have kd := (w2.trans w3).keep _ _ k0 (fun _ z => by cases z) (by simp)
    refine ⟨_, rfl, pt, _, _, _, rfl, rfl, SqT.of ep3, atI_nat (j := 1) rfl, pr, _, _, _, rfl, rfl, SqL.of sr3.at_, atI_nat (j := 0) rfl, _, rfl, a0, _, rfl, vget kd, _, rfl, ?_⟩
    rw [vC]
    cases ho : opC s1 with
    | none =>
      refine iteF ?_
      exact ⟨_, rfl, q.use xF (.inr ⟨tj, s1 :: tr, pt, pr, v, by rw [hc, compR_stop ho], rfl, ep3, dv3, sr3⟩)⟩
    | some o =>
      refine iteT ⟨_, fun _ _ h => h, ?_⟩
      refine ⟨_, rfl, pt, _, _, _, rfl, rfl, SqT.of ep3, atI_nat (j := 1) rfl, _, rfl, pr, _, rfl, SqL.of sr3.at_, fun p4 hp4 => ?_⟩
      have w4 : Ext [] [] H3 (upd H3 p4 (.lst (cutV (List.map V.str (s1 :: tr)) (some 1) none))) := .new hp4
      have s4 : SgL (upd H3 p4 (.lst (cutV (List.map V.str (s1 :: tr)) (some 1) none))) p4 tr := sr3.drop (k := 1) upd_same
      generalize upd H3 p4 (.lst (cutV (List.map V.str (s1 :: tr)) (some 1) none)) = H4 at w4 s4 ⊢
      refine ⟨_, rfl, _, rfl, _, _, rfl, rfl, _, rfl, ?_⟩
      refine hS [.ref p4, .ref pw, .int 1, .int d] _ _ _ ⟨p4, pw, tr, ws, rfl, s4, hw.ext (xF.trans w4), hne, ?_⟩
      refine lres_of fun H5 v5 x5 hv5 => ?_
      have xG := (xF.trans w4).trans x5
      rcases hv5 with ⟨e5, rfl⟩ | ⟨t5, l5, pt5, pr5, u5, e5, rfl, ep5, dv5, sr5⟩
      · refine ⟨_, rfl, rfl, _, rfl, iteT (iteT ?_)⟩
        refine ⟨_, rfl, rfl, _, rfl, iteT ?_⟩
        exact q.use xG (.inl ⟨by rw [hc, compR_go ho, e5]; rfl, rfl⟩)
      · refine ⟨_, rfl, rfl, _, rfl, iteF ?_⟩
        refine ⟨_, rfl, rfl, _, rfl, iteDT rfl ?_⟩
        refine ⟨_, rfl, rfl, _, rfl, iteF ?_⟩
        have w5 := (w4.trans x5)
        have ep6 := w5.tups _ _ ep3
        have sr6 := sr3.ext w5
        have kd6 := w5.keep _ _ kd (fun _ z => by cases z) (by simp)
        have vd := vget (s := s1) kd6
        rw [vC, ho] at vd
        refine ⟨_, rfl, _, rfl, pt, _, _, _, rfl, rfl, SqT.of ep6, atI_nat (j := 1) rfl, pr, _, _, _, rfl, rfl, SqL.of sr6.at_, atI_nat (j := 0) rfl, a0, _, rfl, vd, ?_⟩
        refine ⟨_, rfl, pt, _, _, _, rfl, rfl, SqT.of ep6, atI_nat (j := 0) rfl, ?_⟩
        refine ⟨_, rfl, pt5, _, _, _, rfl, rfl, SqT.of ep5, atI_nat (j := 0) rfl, (by show 3 ≤ sizeLine; decide), fun p7 hp7 => ?_⟩
        have w7 : Ext [] [] H5 (upd H5 p7 (.tup [.str o.word, v, u5])) := .new hp7
        have d7 : DAt (upd H5 p7 (.tup [.str o.word, v, u5])) (.ref p7) (Tm.bin o tj t5).d := .mk3 upd_same (.str _) (((dv3.ext w5)).ext w7) (dv5.ext w7)
        generalize upd H5 p7 (.tup [.str o.word, v, u5]) = H7 at w7 d7 ⊢
        refine ⟨_, rfl, pt5, _, _, _, rfl, rfl, SqT.of (w7.tups _ _ ep5), atI_nat (j := 1) rfl, (by show 2 ≤ sizeLine; decide), fun p8 hp8 => ?_⟩
        have w8 : Ext [] [] H7 (upd H7 p8 (.tup [.ref p7, .ref pr5])) := .new hp8
        exact q.use ((((xF.trans w5).trans w7)).trans w8) (.inr ⟨.bin o tj t5, l5, p8, pr5, .ref p7, by rw [hc, compR_go ho, e5]; rfl, rfl, upd_same, d7.ext w8, (sr5.ext w7).ext w8⟩)
end
end ML
set_option maxHeartbeats 4000000
namespace ML
open PySem PySem.Spec PyProof.Rows L2 TL Gn
def spLCal (side : List Str → List Str → PR) (d : Int) : Sp := fun vs H Q _ => ∃ p pw s r ws, vs = [.ref p, .ref pw, .int d] ∧ SgL H p (s :: r) ∧ (s = "pick" ∨ s = "rest") ∧ SgL H pw ws ∧ (∀ z ∈ ws, z ≠ "") ∧ LRes H Q ((brF (side ws) s r).map tmD)
theorem take1 {l : List Str} {s : Str} : l.take 1 = [s] ↔ ∃ r, l = s :: r := by
  cases l with
  | nil => simp
  | cons a r => simp
theorem exp_eq {s : Str} {r : List Str} : expect s (s :: r) = some r := if_pos rfl
theorem exp_no {s : Str} {l : List Str} (h : ¬ ∃ r, l = s :: r) : expect s l = none := by
  cases l with
  | nil => rfl
  | cons a r => exact if_neg fun z => h ⟨r, by rw [z]⟩
theorem ok1 (s : Str) (h : PyData.strOk s = true := by decide +kernel) : ∀ z ∈ [s], okS z := fun z hz => by
  rw [List.mem_singleton.mp hz]
  exact h
section
variable {P : Program} {w : World} {K : PySem.W.Frag} {mg : Str → Option Value} {base : Heap} {f c C : Addr} {fd : FuncData}
theorem ok_lsingle {k : Nat} {d : Int} {side al : List Str → List Str → PR} {spS spC : Sp} (hal : (40 < d ∧ ∀ ws l, al ws l = none) ∨ (¬ 40 < d ∧ ∀ ws l, al ws l = aloneS (side ws) ws l)) (hS : ¬ 40 < d → ∀ vs H Q E, spLSide side 0 (d + 1) vs H Q E → spS vs H Q E) (hC : ¬ 40 < d → ∀ vs H Q E, spLCal side d vs H Q E → spC vs H Q E)
    (F : FunC K "_law_single" "_law_single" sLSingle f fd c) (T : Bl mg) (Gd : Cal P w K mg base 1 "_law_number" pLNumber spDigit) (Go : Cal P w K mg base 2 "_law_offset" pLOffset spLOffset) (Gside : CalR P w K mg base (Rm k) "_law_side" pLSide spS) (Gcall : CalR P w K mg base (Rm k) "_law_call" pLCall spC) :
    FnR P w K mg base (Rm (k + 1)) f fd pLSingle (spLPar al d) := by
  refine F.okR scLSingle (fun vs H Q E h => ?_) (fun A outer s H vs Q E hr h => ?_)
  · obtain ⟨p, pw, l, ws, rfl, _⟩ := h
    rfl
  obtain ⟨p, pw, l, ws, rfl, hp, hw, hne, q⟩ := h
  refine ⟨_, pss_cons (ps_if (PW.pt (pw_or (pt_cmpR (op_eqL hr.room.units) (pv 0) (pe_lst pa_nil) (nomark _)) (pw_or1 (pt_cmpR op_gt (pv 2) pe_int (nomark _))))) (pss_one (ps_ret pe_non)) pss_nil) (pss_cons (ps_if (pt_cmpR op_eq (pe_ix ix_list (pv 0) pe_int (fun _ _ => rfl)) pe_str (nomark _)) (pss_cons (ps_set (i := 3) scLSingle.nd rfl (.inl rfl) (pe_calR Gside (hr.mono (by omega)) rfl (pa_cons (pe_slice sl_list (pv 0) (po_some pe_int) po_none) (pa_cons (pv 1) (pa_cons pe_int (pa_cons (pe_op op_add (pv 2) pe_int) pa_nil)))))) (pss_one (ps_ret (pe_ifExp (PW.pt (pw_and (pt_cmpR op_notN (pv 3) pe_non (nomark _)) (pw_and1 (pt_cmpR (op_eqL hr.room.units) (pe_slice sl_list (pe_ix ix_tup (pv 3) pe_int (fun _ _ => rfl)) po_none (po_some pe_int)) (pe_lst (pa_cons pe_str pa_nil)) (nomark _))))) (pe_tup (pa_cons (pe_ix ix_tup (pv 3) pe_int (fun _ _ => rfl)) (pa_cons (pe_slice sl_list (pe_ix ix_tup (pv 3) pe_int (fun _ _ => rfl)) (po_some pe_int) po_none) pa_nil))) pe_non)))) pss_nil) (pss_cons (ps_if (pt_cmpR op_in_seq (pe_ix ix_list (pv 0) pe_int (fun _ _ => rfl)) (pe_lst (pa_cons pe_str (pa_cons pe_str pa_nil))) (by rfl)) (pss_one (ps_ret (pe_calR Gcall hr rfl (pa_cons (pv 0) (pa_cons (pv 1) (pa_cons (pv 2) pa_nil)))))) pss_nil) (pss_cons (ps_if (PW.pt (pw_or (pt_cmpR op_eq (pe_ix ix_list (pv 0) pe_int (fun _ _ => rfl)) pe_str (nomark _)) (pw_or1 (pt_cmpR op_in_seq (pe_ix ix_list (pv 0) pe_int (fun _ _ => rfl)) (pv 1) (by rfl))))) (pss_cons (ps_set (i := 3) scLSingle.nd rfl (.inl rfl) (pe_cal Go (hr.room.mono (by omega)) rfl (pa_cons (pe_slice sl_list (pv 0) (po_some pe_int) po_none) pa_nil))) (pss_cons (ps_if (pt_cmpR op_isN (pv 3) pe_non (nomark _)) (pss_one (ps_ret pe_non)) pss_nil) (pss_one (ps_ret (pe_tup (pa_cons (pe_ifExp (pt_cmpR op_eq (pe_ix ix_list (pv 0) pe_int (fun _ _ => rfl)) pe_str (nomark _)) (pe_tup (pa_cons pe_str (pa_cons (pe_ix ix_tup (pv 3) pe_int (fun _ _ => rfl)) pa_nil))) (pe_tup (pa_cons pe_str (pa_cons (pe_bm PySem.F.plainAttrs_list PySem.F.slot_list_index PySem.F.type_list_index mt_index (pv 1) (pa_cons (pe_ix ix_list (pv 0) pe_int (fun _ _ => rfl)) pa_nil)) (pa_cons (pe_ix ix_tup (pv 3) pe_int (fun _ _ => rfl)) pa_nil))))) (pa_cons (pe_ix ix_tup (pv 3) pe_int (fun _ _ => rfl)) pa_nil))))))) pss_nil) (pss_cons (ps_set (i := 4) scLSingle.nd rfl (.inl rfl) (pe_cal Gd (hr.room.mono (by omega)) rfl (pa_cons (pe_ix ix_list (pv 0) pe_int (fun _ _ => rfl)) (pa_cons pe_int (pa_cons pe_int pa_nil))))) (pss_one (ps_ret (pe_ifExp (pt_cmpR op_notN (pv 4) pe_non (nomark _)) (pe_tup (pa_cons (pe_tup (pa_cons pe_str (pa_cons (pv 4) pa_nil))) (pa_cons (pe_slice sl_list (pv 0) (po_some pe_int) po_none) pa_nil))) pe_non))))))), ?_⟩
  refine ⟨_, rfl, (by show 0 ≤ sizeLine; decide), fun p1 hp1 => ?_⟩
  have x1 : Ext [] [] H (upd H p1 (.lst [])) := .new hp1
  have e1 : (upd H p1 (.lst [])) p1 = some (.lst (List.map V.str [])) := upd_same
  generalize upd H p1 (.lst []) = H1 at x1 e1 ⊢
  have s1 := hp.ext x1
  have w1 := hw.ext x1
  have q1 := q.wk x1
  refine ⟨p, p1, l, [], rfl, rfl, s1.at_, e1, hp.okS, by simp, _, rfl, ?_⟩
  cases l with
  | nil =>
    refine iteDT rfl (iteT ?_)
    refine q1.1 ?_ _ .refl
    rcases hal with ⟨_, hal⟩ | ⟨_, hal⟩
    · rw [hal]; rfl
    · rw [hal]; rfl
  | cons s r =>
    refine iteDF (by simp) ?_
    refine ⟨_, rfl, _, _, rfl, rfl, _, rfl, ?_⟩
    rcases hal with ⟨hd, hal⟩ | ⟨hd, hal⟩
    · refine iteDT hd ?_
      refine q1.1 ?_ _ .refl
      rw [hal]
      rfl
    refine iteDF hd ?_
    rw [hal] at q1
    clear q
    have eS : aloneS (side ws) ws (s :: r) = if s = "(" ∨ s = "pick" ∨ s = "rest" then brF (side ws) s r else if s = "in" then (offsetF r).map fun x => (.inn x.1, x.2)
      else if s ∈ ws then (offsetF r).map fun x => (.ofn (ws.idxOf s) x.1, x.2) else (digitF s 0 9).map fun n => (.isc n.toNat, r) := rfl
    rw [eS] at q1
    have at0 := fun (H2 : Hp) (s2 : SgL H2 p (s :: r)) => SqL.of (K := K) s2.at_
    refine ⟨_, rfl, p, _, _, _, rfl, rfl, at0 _ s1, atI_nat (j := 0) rfl, rfl, _, rfl, ?_⟩
    by_cases h1 : s = "("
    · subst h1
      refine iteDT rfl ?_
      rw [if_pos (.inl rfl)] at q1
      have eB : brF (side ws) "(" r = (side ws r).bind fun x => (expect ")" x.2).bind fun r' => some (x.1, r') := if_pos rfl
      rw [eB] at q1
      refine ⟨_, rfl, _, rfl, p, _, rfl, at0 _ s1, fun p2 hp2 => ?_⟩
      have x2 : Ext [] [] H1 (upd H1 p2 (.lst (cutV (List.map V.str (Str.ofString "(" :: r)) (some 1) none))) := .new hp2
      have s2 : SgL (upd H1 p2 (.lst (cutV (List.map V.str (Str.ofString "(" :: r)) (some 1) none))) p2 r := s1.drop (k := 1) upd_same
      generalize upd H1 p2 (.lst (cutV (List.map V.str (Str.ofString "(" :: r)) (some 1) none)) = H2 at x2 s2 ⊢
      refine ⟨_, rfl, _, rfl, _, _, rfl, rfl, ?_⟩
      refine hS hd [.ref p2, .ref pw, .int 0, .int (d + 1)] _ _ _ ⟨p2, pw, r, ws, rfl, s2, w1.ext x2, hne, ?_⟩
      refine lres_of fun H3 v0 x3 hv => ?_
      have x4 := x2.trans x3
      rcases hv with ⟨en, rfl⟩ | ⟨t1, l1, pt, pr, v, en, rfl, ep, dv, sr⟩
      · refine ⟨_, rfl, rfl, _, rfl, iteF ?_⟩
        refine q1.1 ?_ _ x4
        rw [en]
        rfl
      · refine ⟨_, rfl, rfl, _, rfl, iteT ?_⟩
        refine ⟨_, rfl, pt, _, _, _, rfl, rfl, SqT.of ep, atI_nat (j := 1) rfl, _, rfl, pr, _, rfl, SqL.of sr.at_, fun p5 hp5 => ?_⟩
        have x5 : Ext [] [] H3 (upd H3 p5 (.lst (cutV (List.map V.str l1) none (some 1)))) := .new hp5
        have e5 : (upd H3 p5 (.lst (cutV (List.map V.str l1) none (some 1)))) p5 = some (.lst ((l1.take 1).map V.str)) := by rw [upd_same, show (some (1 : Int)) = some ((1 : Nat) : Int) from rfl, cutStr_to]
        generalize upd H3 p5 (.lst (cutV (List.map V.str l1) none (some 1))) = H5 at x5 e5 ⊢
        refine ⟨(by show 1 ≤ sizeLine; decide), fun p6 hp6 => ?_⟩
        have x6 : Ext [] [] H5 (upd H5 p6 (.lst [.str ")"])) := .new hp6
        have e6 : (upd H5 p6 (.lst [.str ")"])) p6 = some (.lst ([Str.ofString ")"].map V.str)) := upd_same
        generalize upd H5 p6 (.lst [.str ")"]) = H6 at x6 e6 ⊢
        have x7 := x5.trans x6
        refine ⟨p5, p6, l1.take 1, _, rfl, rfl, x6.lst e5, e6, fun z hz => sr.okS z (List.mem_of_mem_take hz), ok1 _, _, rfl, ?_⟩
        by_cases hq : ∃ r', l1 = Str.ofString ")" :: r'
        · refine iteDT (take1.mpr hq) ?_
          obtain ⟨r', rfl⟩ := hq
          have ep7 := x7.tups _ _ ep
          have sr7 := sr.ext x7
          refine ⟨_, rfl, pt, _, _, _, rfl, rfl, SqT.of ep7, atI_nat (j := 0) rfl, _, rfl, pt, _, _, _, rfl, rfl, SqT.of ep7, atI_nat (j := 1) rfl, _, rfl, pr, _, rfl, SqL.of sr7.at_, fun p8 hp8 => ?_⟩
          have x8 : Ext [] [] H6 (upd H6 p8 (.lst (cutV (List.map V.str (Str.ofString ")" :: r')) (some 1) none))) := .new hp8
          have s8 : SgL (upd H6 p8 (.lst (cutV (List.map V.str (Str.ofString ")" :: r')) (some 1) none))) p8 r' := sr7.drop (k := 1) upd_same
          generalize upd H6 p8 (.lst (cutV (List.map V.str (Str.ofString ")" :: r')) (some 1) none)) = H8 at x8 s8 ⊢
          refine ⟨(by show 2 ≤ sizeLine; decide), fun p9 hp9 => ?_⟩
          refine q1.2 t1.d r' ?_ _ p9 p8 v (((x4.trans x7).trans x8).trans (.new hp9)) upd_same ((dv.ext (x7.trans x8)).ext (Ext.new (GT := []) (M := []) hp9)) (s8.ext (.new hp9))
          simp only [en, Option.bind_some, exp_eq, Option.map_some, tmD]
        · refine iteDF (fun z => hq (take1.mp z)) ?_
          refine q1.1 ?_ _ (x4.trans x7)
          simp only [en, Option.bind_some, exp_no hq, Option.bind_none, Option.map_none]
    · refine iteDF (fun z => h1 (by injection z)) ?_
      refine ⟨_, rfl, p, _, _, _, rfl, rfl, at0 _ s1, atI_nat (j := 0) rfl, (by show 2 ≤ sizeLine; decide), fun p2 hp2 => ?_⟩
      have x2 : Ext [] [] H1 (upd H1 p2 (.lst [.str "pick", .str "rest"])) := .new hp2
      refine ⟨p2, _, rfl, .inl (SqL.of upd_same), rfl, (by decide +kernel), _, rfl, ?_⟩
      have s2 := s1.ext x2
      have w2 := w1.ext x2
      have q2 := q1.wk x2
      generalize upd H1 p2 (.lst [.str "pick", .str "rest"]) = H2 at x2 s2 w2 q2 ⊢
      have iv : inV (V.str s) [.str "pick", .str "rest"] = decide (s = "pick" ∨ s = "rest") := by
        have := inV_str s ["pick", "rest"]
        rw [show inV (V.str s) [.str "pick", .str "rest"] = inV (V.str s) (List.map V.str ["pick", "rest"]) from rfl, this]
        simp
      show if (inV (V.str s) [.str "pick", .str "rest"]) = true then _ else _
      rw [iv]
      by_cases h2 : s = "pick" ∨ s = "rest"
      · refine iteDT h2 ?_
        rw [if_pos (.inr h2)] at q2
        refine ⟨_, rfl, _, rfl, _, rfl, ?_⟩
        exact hC hd [.ref p, .ref pw, .int d] _ _ _ ⟨p, pw, s, r, ws, rfl, s2, h2, w2, hne, q2⟩
      refine iteDF h2 ?_
      rw [if_neg (fun z => z.elim h1 h2)] at q2
      have fin : s = "in" ∨ s ∈ ws → (if s = "in" then (offsetF r).map fun x => (Tm.inn x.1, x.2) else if s ∈ ws then (offsetF r).map fun x => (Tm.ofn (ws.idxOf s) x.1, x.2) else (digitF s 0 9).map fun n => (Tm.isc n.toNat, r)) = (offsetF r).map fun x => (if s = "in" then Tm.inn x.1 else Tm.ofn (ws.idxOf s) x.1, x.2) := fun h => by
        by_cases h3 : s = "in"
        · simp [h3]
        · rw [if_neg h3, if_pos (h.resolve_left h3)]
          simp [h3]
      refine ⟨_, rfl, p, _, _, _, rfl, rfl, at0 _ s2, atI_nat (j := 0) rfl, rfl, _, rfl, ?_⟩
      by_cases h3 : s = "in"
      · refine iteDT (by rw [h3]) (iteT ?_)
        have q3 := q2
        rw [fin (.inl h3)] at q3
        refine ⟨_, rfl, _, rfl, p, _, rfl, at0 _ s2, fun p3 hp3 => ?_⟩
        have x3 : Ext [] [] H2 (upd H2 p3 (.lst (cutV (List.map V.str (s :: r)) (some 1) none))) := .new hp3
        have s3 : SgL (upd H2 p3 (.lst (cutV (List.map V.str (s :: r)) (some 1) none))) p3 r := s2.drop (k := 1) upd_same
        generalize upd H2 p3 (.lst (cutV (List.map V.str (s :: r)) (some 1) none)) = H3 at x3 s3 ⊢
        refine ⟨p3, r, rfl, s3, fun e H4 x4 => ?_, fun dd r' e H4 pt pr v x4 ep dv sr => ?_⟩
        · refine ⟨_, rfl, rfl, _, rfl, iteT ?_⟩
          refine q3.1 ?_ _ (x3.trans x4)
          rw [Option.map_map, Option.map_eq_none_iff]
          exact Option.map_eq_none_iff.mp e
        · obtain ⟨y, hy, ey⟩ := Option.map_eq_some_iff.mp e
          cases ey
          have hv := dv.intI
          subst hv
          refine ⟨_, rfl, rfl, _, rfl, iteF ?_⟩
          have s4 := s2.ext (x3.trans x4)
          have w4 := w2.ext (x3.trans x4)
          refine ⟨_, rfl, p, _, _, _, rfl, rfl, at0 _ s4, atI_nat (j := 0) rfl, rfl, _, rfl, ?_⟩
          refine iteDT (by rw [h3]) ?_
          refine ⟨_, rfl, pt, _, _, _, rfl, rfl, SqT.of ep, atI_nat (j := 0) rfl, (by show 2 ≤ sizeLine; decide), fun p7 hp7 => ?_⟩
          have x7 : Ext [] [] H4 (upd H4 p7 (.tup [.str "in", .int y.1])) := .new hp7
          have d7 : DAt (upd H4 p7 (.tup [.str "in", .int y.1])) (.ref p7) (Tm.inn y.1).d := .mk2 upd_same (.str _) (.int _)
          generalize upd H4 p7 (.tup [.str "in", .int y.1]) = H7 at x7 d7 ⊢
          refine ⟨_, rfl, pt, _, _, _, rfl, rfl, SqT.of (x7.tups _ _ ep), atI_nat (j := 1) rfl, (by show 2 ≤ sizeLine; decide), fun p8 hp8 => ?_⟩
          refine q3.2 (Tm.inn y.1).d y.2 (by rw [hy]; simp [tmD, h3]) _ p8 pr (.ref p7) (((x3.trans x4).trans x7).trans (.new hp8)) upd_same (d7.ext (Ext.new (GT := []) (M := []) hp8)) ((sr.ext x7).ext (.new hp8))
      refine iteDF (fun z => h3 (by injection z)) ?_
      refine ⟨_, rfl, p, _, _, _, rfl, rfl, at0 _ s2, atI_nat (j := 0) rfl, _, rfl, pw, _, rfl, .inl (SqL.of w2.at_), rfl, ?_, _, rfl, ?_⟩
      · simp [flatV]
      show if (inV (V.str s) (ws.map V.str)) = true then _ else _
      rw [inV_str]
      by_cases h4 : s ∈ ws
      · refine iteDT h4 ?_
        have q3 := q2
        rw [fin (.inr h4)] at q3
        refine ⟨_, rfl, _, rfl, p, _, rfl, at0 _ s2, fun p3 hp3 => ?_⟩
        have x3 : Ext [] [] H2 (upd H2 p3 (.lst (cutV (List.map V.str (s :: r)) (some 1) none))) := .new hp3
        have s3 : SgL (upd H2 p3 (.lst (cutV (List.map V.str (s :: r)) (some 1) none))) p3 r := s2.drop (k := 1) upd_same
        generalize upd H2 p3 (.lst (cutV (List.map V.str (s :: r)) (some 1) none)) = H3 at x3 s3 ⊢
        refine ⟨p3, r, rfl, s3, fun e H4 x4 => ?_, fun dd r' e H4 pt pr v x4 ep dv sr => ?_⟩
        · refine ⟨_, rfl, rfl, _, rfl, iteT ?_⟩
          refine q3.1 ?_ _ (x3.trans x4)
          rw [Option.map_map, Option.map_eq_none_iff]
          exact Option.map_eq_none_iff.mp e
        · obtain ⟨y, hy, ey⟩ := Option.map_eq_some_iff.mp e
          cases ey
          have hv := dv.intI
          subst hv
          refine ⟨_, rfl, rfl, _, rfl, iteF ?_⟩
          have s4 := s2.ext (x3.trans x4)
          have w4 := w2.ext (x3.trans x4)
          refine ⟨_, rfl, p, _, _, _, rfl, rfl, at0 _ s4, atI_nat (j := 0) rfl, rfl, _, rfl, ?_⟩
          refine iteDF (fun z => h3 (by injection z)) ?_
          refine ⟨_, rfl, .inl ⟨rfl, _, SqL.of w4.at_⟩, _, rfl, p, _, _, _, rfl, rfl, at0 _ s4, atI_nat (j := 0) rfl, pw, _, _, ws.idxOf s, _, rfl, rfl, SqL.of w4.at_, rfl, ?_, (by rw [List.getElem?_map, idx_at h4]; rfl), ?_, ?_, ?_⟩
          · simp [flatV]
          · simp [eqV]
          · intro m z' hm hz
            rw [List.getElem?_map] at hz
            obtain ⟨y', hy', rfl⟩ := Option.map_eq_some_iff.mp hz
            have : y' ≠ s := fun z => idx_first hm (by rw [hy', z])
            simp [eqV, this]
          refine ⟨_, rfl, pt, _, _, _, rfl, rfl, SqT.of ep, atI_nat (j := 0) rfl, (by show 3 ≤ sizeLine; decide), fun p7 hp7 => ?_⟩
          have x7 : Ext [] [] H4 (upd H4 p7 (.tup [.str "of", .int (ws.idxOf s : Nat), .int y.1])) := .new hp7
          have d7 : DAt (upd H4 p7 (.tup [.str "of", .int (ws.idxOf s : Nat), .int y.1])) (.ref p7) (Tm.ofn (ws.idxOf s) y.1).d := .mk3 upd_same (.str _) (.int _) (.int _)
          generalize upd H4 p7 (.tup [.str "of", .int (ws.idxOf s : Nat), .int y.1]) = H7 at x7 d7 ⊢
          refine ⟨_, rfl, pt, _, _, _, rfl, rfl, SqT.of (x7.tups _ _ ep), atI_nat (j := 1) rfl, (by show 2 ≤ sizeLine; decide), fun p8 hp8 => ?_⟩
          refine q3.2 (Tm.ofn (ws.idxOf s) y.1).d y.2 (by rw [hy]; simp [tmD, h3]) _ p8 pr (.ref p7) (((x3.trans x4).trans x7).trans (.new hp8)) upd_same (d7.ext (Ext.new (GT := []) (M := []) hp8)) ((sr.ext x7).ext (.new hp8))
      · refine iteDF h4 ?_
        rw [if_neg h3, if_neg h4] at q2
        refine ⟨_, rfl, p, _, _, _, rfl, rfl, at0 _ s2, atI_nat (j := 0) rfl, s, 0, 9, rfl, Nat.le_trans (hp.ok s (by simp)).2 (by decide), ?_⟩
        cases hd : digitF s 0 9 with
        | none =>
          rw [hd] at q2
          refine ⟨_, rfl, rfl, _, rfl, iteNDT rfl ?_⟩
          exact q2.1 rfl _ .refl
        | some n =>
          rw [hd] at q2
          have hr := digit_rng hd
          refine ⟨_, rfl, rfl, _, rfl, iteNDF (fun z => by cases z) ?_⟩
          refine ⟨_, rfl, (by show 2 ≤ sizeLine; decide), fun p7 hp7 => ?_⟩
          have x7 : Ext [] [] H2 (upd H2 p7 (.tup [.str "is", .int n])) := .new hp7
          have d7 : DAt (upd H2 p7 (.tup [.str "is", .int n])) (.ref p7) (Tm.isc n.toNat).d := .mk2 upd_same (.str _) (by rw [show ((n.toNat : Nat) : Int) = n by omega]; exact .int _)
          refine ⟨_, rfl, _, rfl, p, _, rfl, at0 _ (s2.ext x7), fun p3 hp3 => ?_⟩
          have x3 : Ext [] [] (upd H2 p7 (.tup [.str "is", .int n])) (upd (upd H2 p7 (.tup [.str "is", .int n])) p3 (.lst (cutV (List.map V.str (s :: r)) (some 1) none))) := .new hp3
          have s3 : SgL (upd (upd H2 p7 (.tup [.str "is", .int n])) p3 (.lst (cutV (List.map V.str (s :: r)) (some 1) none))) p3 r := (s2.ext x7).drop (k := 1) upd_same
          refine ⟨(by show 2 ≤ sizeLine; decide), fun p8 hp8 => ?_⟩
          exact q2.2 (Tm.isc n.toNat).d r rfl _ p8 p3 (.ref p7) ((x7.trans x3).trans (.new hp8)) upd_same ((d7.ext x3).ext (Ext.new (GT := []) (M := []) hp8)) (s3.ext (.new hp8))
end
end ML
set_option maxHeartbeats 4000000
namespace ML
open PySem PySem.Spec PyProof.Rows L2 TL Gn
def mkP : List Tm → Option Tm
  | [a, b, c] => some (.pck a b c)
  | _ => none
def sepC (i : Nat) : Str := if i = 0 then "(" else ","
def contP (side : List Str → PR) : Nat → List Tm → List Str → PR
  | 0, ts, l => (expect ")" l).bind fun r => (mkP ts).map fun t => (t, r)
  | n + 1, ts, l => (expect (sepC ts.length) l).bind fun r => (side r).bind fun x => contP side n (ts ++ [x.1]) x.2
def contR2 (a : Tm) (n : Nat) (l : List Str) : PR := (expect ")" l).bind fun r => some (.rst a n, r)
def contR1 (a : Tm) (l : List Str) : PR := (expect "," l).bind fun r => (numF 1 9 r).bind fun x => contR2 a x.1 x.2
theorem rest_cont {side : List Str → PR} {r : List Str} : restF side r = (expect "(" r).bind fun r1 => (side r1).bind fun x => contR1 x.1 x.2 := rfl
theorem pick_cont {side : List Str → PR} {r : List Str} : pickF side r = contP side 3 [] r := rfl
theorem sep_at {i : Nat} (h : i < 3) : atI [V.str "(", .str ",", .str ","] (0 + (i : Int)) = some (.str (sepC i)) := by
  rw [Int.zero_add]
  refine atI_nat ?_
  match i, h with
  | 0, _ => rfl
  | 1, _ => rfl
  | 2, _ => rfl
theorem sepOk (i : Nat) : PyData.strOk (sepC i) = true := by
  unfold sepC
  split <;> decide +kernel
section
variable {P : Program} {w : World} {K : PySem.W.Frag} {mg : Str → Option Value} {base : Heap} {f c C : Addr} {fd : FuncData}
theorem ok_lcall {k : Nat} {d : Int} {side : List Str → List Str → PR} {spS : Sp} (hS : ∀ vs H Q E, spLSide side 0 (d + 1) vs H Q E → spS vs H Q E)
    (F : FunC K "_law_call" "_law_call" sLCall f fd c) (T : Bl mg) (Gd : Cal P w K mg base 1 "_law_number" pLNumber spDigit) (Gside : CalR P w K mg base (Rm k) "_law_side" pLSide spS) :
    FnR P w K mg base (Rm (k + 1)) f fd pLCall (spLCal side d) := by
  refine F.okR scLCall (fun vs H Q E h => ?_) (fun A outer s H vs Q E hr h => ?_)
  · obtain ⟨p, pw, s, r, ws, rfl, _⟩ := h
    rfl
  obtain ⟨p, pw, s, r, ws, rfl, hp, hs, hw, hne, q⟩ := h
  refine ⟨_, pss_cons (ps_par3 (i := 3) (j := 4) (l := 5) rfl scLCall.nd rfl rfl rfl (by decide) (by decide) (by decide) rfl rfl rfl (pa_cons (pe_lst pa_nil) (pa_cons (pe_slice sl_list (pv 0) (po_some pe_int) po_none) (pa_cons (pe_ifExp (pt_cmpR op_eq (pe_ix ix_list (pv 0) pe_int (fun _ _ => rfl)) pe_str (nomark _)) pe_int pe_int) pa_nil))) rfl) (pss_cons (ps_for PassesOwn.never rfl (pi_range1 (by rfl) T.range (pa_cons (pv 5) pa_nil)) (pg_name (i := 6) scLCall.nd rfl (.inl rfl)) (pss_cons (ps_if (pt_cmpR (op_neL hr.room.units) (pe_slice sl_list (pv 4) po_none (po_some pe_int)) (pe_lst (pa_cons (pe_ix ix_list (pe_lst (pa_cons pe_str (pa_cons pe_str (pa_cons pe_str pa_nil)))) (pv 6) (fun _ _ => rfl)) pa_nil)) (nomark _)) (pss_one (ps_ret pe_non)) pss_nil) (pss_cons (ps_if (PW.pt (pw_and (pt_cmpR op_eq (pe_ix ix_list (pv 0) pe_int (fun _ _ => rfl)) pe_str (nomark _)) (pw_and1 (pt_cmpR op_eq (pv 6) pe_int (nomark _))))) (pss_cons (ps_set (i := 7) scLCall.nd rfl (.inl rfl) (pe_ifExp (pt_cmpR op_gt (pe_callB call_len_seq (by rfl) T.len PySem.boot_len (pa_cons (pv 4) pa_nil)) pe_int (nomark _)) (pe_cal Gd (hr.room.mono (by omega)) rfl (pa_cons (pe_ix ix_list (pv 4) pe_int (fun _ _ => rfl)) (pa_cons pe_int (pa_cons pe_int pa_nil)))) pe_non)) (pss_one (ps_set (i := 8) scLCall.nd rfl (.inl rfl) (pe_ifExp (pt_cmpR op_notN (pv 7) pe_non (nomark _)) (pe_tup (pa_cons (pv 7) (pa_cons (pe_slice sl_list (pv 4) (po_some pe_int) po_none) pa_nil))) pe_non)))) (pss_one (ps_set (i := 8) scLCall.nd rfl (.inl rfl) (pe_calR Gside hr rfl (pa_cons (pe_slice sl_list (pv 4) (po_some pe_int) po_none) (pa_cons (pv 1) (pa_cons pe_int (pa_cons (pe_op op_add (pv 2) pe_int) pa_nil)))))))) (pss_cons (ps_if (pt_cmpR op_isN (pv 8) pe_non (nomark _)) (pss_one (ps_ret pe_non)) pss_nil) (pss_one (ps_par (i := 3) (j := 4) rfl scLCall.nd rfl rfl (by decide) rfl rfl (pa_cons (pe_op op_cat (pv 3) (pe_lst (pa_cons (pe_ix ix_tup (pv 8) pe_int (fun _ _ => rfl)) pa_nil))) (pa_cons (pe_ix ix_tup (pv 8) pe_int (fun _ _ => rfl)) pa_nil)) rfl)))))) (pss_one (ps_ret (pe_ifExp (pt_cmpR (op_eqL hr.room.units) (pe_slice sl_list (pv 4) po_none (po_some pe_int)) (pe_lst (pa_cons pe_str pa_nil)) (nomark _)) (pe_tup (pa_cons (pe_op op_catA (pe_tup (pa_cons (pe_ix ix_list (pv 0) pe_int (fun _ _ => rfl)) pa_nil)) (pe_callTy call_tuple_of (by rfl) T.tuple boot_tuple (pa_cons (pv 3) pa_nil))) (pa_cons (pe_slice sl_list (pv 4) (po_some pe_int) po_none) pa_nil))) pe_non)))), ?_⟩
  refine ⟨(by show 0 ≤ sizeLine; decide), fun pa hpa => ?_⟩
  have x1 : Ext [] [] H (upd H pa (.lst [])) := .new hpa
  have a1 : LAt (upd H pa (.lst [])) pa [] := ⟨[], upd_same, .nil⟩
  generalize upd H pa (.lst []) = H1 at x1 a1 ⊢
  have s1 := hp.ext x1
  refine ⟨_, rfl, _, rfl, p, _, rfl, SqL.of s1.at_, fun pl hpl => ?_⟩
  have x2 : Ext [] [] H1 (upd H1 pl (.lst (cutV (List.map V.str (s :: r)) (some 1) none))) := .new hpl
  have l2 : SgL (upd H1 pl (.lst (cutV (List.map V.str (s :: r)) (some 1) none))) pl r := s1.drop (k := 1) upd_same
  have a2 := a1.ext x2
  generalize upd H1 pl (.lst (cutV (List.map V.str (s :: r)) (some 1) none)) = H2 at x2 l2 a2 ⊢
  have xA := x1.trans x2
  have s2 := hp.ext xA
  have w2 := hw.ext xA
  have q2 := q.wk xA
  clear q a1 x1 x2 s1 hp hw
  refine ⟨_, rfl, p, _, _, _, rfl, rfl, SqL.of s2.at_, atI_nat (j := 0) rfl, rfl, _, rfl, ?_⟩
  rcases hs with rfl | rfl
  · refine iteDT rfl ⟨_, _, _, rfl, ?_⟩
    have eB : brF (side ws) "pick" r = contP (side ws) 3 [] r := by rw [← pick_cont]; exact (if_neg (by decide)).trans (if_pos rfl)
    rw [eB] at q2
    refine ⟨_, rfl, 3, rfl, by decide, by decide, ?_⟩
    refine for_range (lo := 0) (n := 3) (fun i σ' H' => ∃ (pa pl : Addr) (ts : List Tm) (lj : List Str) (o6 o7 o8 : Option V), σ' = [some (.ref p), some (.ref pw), some (.int d), some (.ref pa), some (.ref pl), some (.int 3), o6, o7, o8] ∧ Ext [] [] H2 H' ∧ ts.length = i ∧ LAt H' pa (ts.map Tm.d) ∧ SgL H' pl lj ∧
      contP (side ws) 3 [] r = contP (side ws) (3 - i) ts lj) ⟨pa, pl, [], r, none, none, none, rfl, .refl, rfl, a2, l2, rfl⟩ (fun i σ' H' hi hv => ?_) (fun σ' H' hv => ?_)
    · obtain ⟨pa, pl, ts, lj, o6, o7, o8, rfl, x3, ht, la, sl, hc⟩ := hv
      --PICK
      have hc2 : contP (side ws) 3 [] r = (expect (sepC i) lj).bind fun r => (side ws r).bind fun x => contP (side ws) (3 - (i + 1)) (ts ++ [x.1]) x.2 := by
        rw [hc, show 3 - i = (3 - (i + 1)) + 1 by omega, ← ht]
        rfl
      refine ⟨_, rfl, _, rfl, pl, _, rfl, SqL.of sl.at_, fun p5 hp5 => ?_⟩
      have x5 : Ext [] [] H' (upd H' p5 (.lst (cutV (List.map V.str lj) none (some 1)))) := .new hp5
      have e5 : (upd H' p5 (.lst (cutV (List.map V.str lj) none (some 1)))) p5 = some (.lst ((lj.take 1).map V.str)) := by rw [upd_same, show (some (1 : Int)) = some ((1 : Nat) : Int) from rfl, cutStr_to]
      generalize upd H' p5 (.lst (cutV (List.map V.str lj) none (some 1))) = H5 at x5 e5 ⊢
      refine ⟨(by show 3 ≤ sizeLine; decide), fun p6 hp6 => ⟨_, rfl, p6, _, _, _, rfl, rfl, SqL.of upd_same, sep_at hi, (by show 1 ≤ sizeLine; decide), fun p7 hp7 => ?_⟩⟩
      have x7 : Ext [] [] H5 (upd (upd H5 p6 (.lst [.str "(", .str ",", .str ","])) p7 (.lst [.str (sepC i)])) := (Ext.new hp6).trans (.new hp7)
      have e7 : (upd (upd H5 p6 (.lst [.str "(", .str ",", .str ","])) p7 (.lst [.str (sepC i)])) p7 = some (.lst ([sepC i].map V.str)) := upd_same
      generalize upd (upd H5 p6 (.lst [.str "(", .str ",", .str ","])) p7 (.lst [.str (sepC i)]) = H7 at x7 e7 ⊢
      refine ⟨p5, p7, lj.take 1, [sepC i], rfl, rfl, x7.lst e5, e7, (fun z hz => sl.okS z (List.mem_of_mem_take hz)), ok1 _ (sepOk _), _, rfl, ?_⟩
      have x8 := x5.trans x7
      have sl8 := sl.ext x8
      have la8 := la.ext x8
      clear e5 e7 x5 x7
      by_cases hq : ¬ ∃ r', lj = sepC i :: r'
      · refine iteNDF (fun z => hq (take1.mp z)) ?_
        refine q2.1 ?_ _ (x3.trans x8)
        rw [hc2, exp_no hq]; rfl
      have hq := Classical.not_not.mp hq
      refine iteNDT (take1.mpr hq) ?_
      obtain ⟨tr, rfl⟩ := hq
      refine ⟨_, rfl, p, _, _, _, rfl, rfl, SqL.of (s2.ext (x3.trans x8)).at_, atI_nat (j := 0) rfl, rfl, _, rfl, iteDF (by decide +kernel) (iteF ?_)⟩
      refine ⟨_, rfl, _, rfl, pl, _, rfl, SqL.of sl8.at_, fun p9 hp9 => ?_⟩
      have x9 : Ext [] [] H7 (upd H7 p9 (.lst (cutV (List.map V.str (sepC i :: tr)) (some 1) none))) := .new hp9
      have s9 : SgL (upd H7 p9 (.lst (cutV (List.map V.str (sepC i :: tr)) (some 1) none))) p9 tr := sl8.drop (k := 1) upd_same
      generalize upd H7 p9 (.lst (cutV (List.map V.str (sepC i :: tr)) (some 1) none)) = HA at x9 s9 ⊢
      refine ⟨_, rfl, _, rfl, _, _, rfl, rfl, ?_⟩
      refine hS [.ref p9, .ref pw, .int 0, .int (d + 1)] _ _ _ ⟨p9, pw, tr, ws, rfl, s9, w2.ext ((x3.trans x8).trans x9), hne, ?_⟩
      refine lres_of fun HB v0 xB hv => ?_
      have xC := ((x3.trans x8).trans x9).trans xB
      rcases hv with ⟨en, rfl⟩ | ⟨t1, l1, pt, pr, v, en, rfl, ep, dv, sr⟩
      · refine ⟨_, rfl, rfl, _, rfl, iteDT rfl ?_⟩
        refine q2.1 ?_ _ xC
        rw [hc2, exp_eq, Option.bind_some, en]; rfl
      refine ⟨_, rfl, rfl, _, rfl, iteDF (fun z => by cases z) ?_⟩
      obtain ⟨ys, ea, aa⟩ := la8.ext (x9.trans xB)
      refine ⟨_, rfl, _, rfl, pt, _, _, _, rfl, rfl, SqT.of ep, atI_nat (j := 0) rfl, (by show 1 ≤ sizeLine; decide), fun pD hpD => ?_⟩
      have xD : Ext [] [] HB (upd HB pD (.lst [v])) := .new hpD
      refine ⟨pa, pD, ys, [v], rfl, rfl, xD.lst ea, upd_same, ?_, fun pE hpE => ?_⟩
      · rw [aa.1]
        exact line100 (by rw [List.length_map]; show ts.length + 1 ≤ _; omega)
      have xE : Ext [] [] (upd HB pD (.lst [v])) (upd (upd HB pD (.lst [v])) pE (.lst (ys ++ [v]))) := .new hpE
      have xF := xD.trans xE
      refine ⟨_, rfl, pt, _, _, _, rfl, rfl, SqT.of (xF.tups _ _ ep), atI_nat (j := 1) rfl, _, _, rfl, ?_⟩
      have lE : LAt (upd (upd HB pD (.lst [v])) pE (.lst (ys ++ [v]))) pE (ts.map Tm.d ++ [t1.d]) := ⟨_, upd_same, ((aa.ext xF).snoc (dv.ext xF))⟩
      refine ⟨pE, pr, ts ++ [t1], l1, _, _, _, rfl, xC.trans xF, by rw [List.length_append, ht]; rfl, by rw [List.map_append]; exact lE, sr.ext xF, ?_⟩
      rw [hc2, exp_eq, Option.bind_some, en]
      rfl
    · obtain ⟨pa, pl, ts, lj, o6, o7, o8, rfl, x3, ht, la, sl, hc⟩ := hv
      refine ⟨_, rfl, _, rfl, pl, _, rfl, SqL.of sl.at_, fun p5 hp5 => ?_⟩
      have x5 : Ext [] [] H' (upd H' p5 (.lst (cutV (List.map V.str lj) none (some 1)))) := .new hp5
      have e5 : (upd H' p5 (.lst (cutV (List.map V.str lj) none (some 1)))) p5 = some (.lst ((lj.take 1).map V.str)) := by rw [upd_same, show (some (1 : Int)) = some ((1 : Nat) : Int) from rfl, cutStr_to]
      generalize upd H' p5 (.lst (cutV (List.map V.str lj) none (some 1))) = H5 at x5 e5 ⊢
      refine ⟨(by show 1 ≤ sizeLine; decide), fun p6 hp6 => ?_⟩
      have x6 : Ext [] [] H5 (upd H5 p6 (.lst [.str ")"])) := .new hp6
      have e6 : (upd H5 p6 (.lst [.str ")"])) p6 = some (.lst ([Str.ofString ")"].map V.str)) := upd_same
      generalize upd H5 p6 (.lst [.str ")"]) = H6 at x6 e6 ⊢
      have x7 := x5.trans x6
      refine ⟨p5, p6, lj.take 1, _, rfl, rfl, x6.lst e5, e6, fun z hz => sl.okS z (List.mem_of_mem_take hz), ok1 _, _, rfl, ?_⟩
      by_cases hq : ¬ ∃ r', lj = Str.ofString ")" :: r'
      · refine iteDF (fun z => hq (take1.mp z)) ?_
        refine q2.1 ?_ _ (x3.trans x7)
        rw [hc]; show (((expect ")" lj).bind _).map tmD) = none; rw [exp_no hq]; rfl
      have hq := Classical.not_not.mp hq
      refine iteDT (take1.mpr hq) ?_
      obtain ⟨tr, rfl⟩ := hq
      obtain ⟨ys, ea, aa⟩ := la.ext x7
      refine ⟨_, rfl, p, _, _, _, rfl, rfl, SqL.of (s2.ext (x3.trans x7)).at_, atI_nat (j := 0) rfl, (by show 1 ≤ sizeLine; decide), fun pA hpA => ?_⟩
      have xA : Ext [] [] H6 (upd H6 pA (.tup [.str "pick"])) := .new hpA
      refine ⟨_, rfl, pa, ys, rfl, .inl ⟨SqL.of (xA.lst ea), fun pB hpB => ?_⟩⟩
      have xB : Ext [] [] (upd H6 pA (.tup [.str "pick"])) (upd (upd H6 pA (.tup [.str "pick"])) pB (.tup ys)) := .new hpB
      have ly : ys.length = 3 := by rw [aa.1]; rw [List.length_map, ht]
      have nB : ys ≠ [] := fun z => by rw [z] at ly; cases ly
      refine ⟨pA, pB, [.str "pick"], ys, rfl, rfl, SqT.of (xB.tups _ _ upd_same), SqT.of upd_same, by rw [ly]; decide, (fun z => by cases z), (fun _ z => absurd z nB), fun _ _ pC hpC => ?_⟩
      have xC : Ext [] [] (upd (upd H6 pA (.tup [.str "pick"])) pB (.tup ys)) (upd (upd (upd H6 pA (.tup [.str "pick"])) pB (.tup ys)) pC (.tup (.str "pick" :: ys))) := .new hpC
      have xD := (xA.trans xB).trans xC
      have dC : DAt (upd (upd (upd H6 pA (.tup [.str "pick"])) pB (.tup ys)) pC (.tup (.str "pick" :: ys))) (.ref pC) (.tup (.str "pick" :: ts.map Tm.d)) := .ofAll upd_same (.cons (.str _) (aa.ext xD))
      refine ⟨_, rfl, _, rfl, pl, _, rfl, SqL.of (sl.ext (x7.trans xD)).at_, fun pE hpE => ?_⟩
      have xE : Ext [] [] (upd (upd (upd H6 pA (.tup [.str "pick"])) pB (.tup ys)) pC (.tup (.str "pick" :: ys))) (upd (upd (upd (upd H6 pA (.tup [.str "pick"])) pB (.tup ys)) pC (.tup (.str "pick" :: ys))) pE (.lst (cutV (List.map V.str (Str.ofString ")" :: tr)) (some 1) none))) := .new hpE
      have sE : SgL (upd (upd (upd (upd H6 pA (.tup [.str "pick"])) pB (.tup ys)) pC (.tup (.str "pick" :: ys))) pE (.lst (cutV (List.map V.str (Str.ofString ")" :: tr)) (some 1) none))) pE tr := (sl.ext (x7.trans xD)).drop (k := 1) upd_same
      refine ⟨(by show 2 ≤ sizeLine; decide), fun pF hpF => ?_⟩
      refine q2.2 (.tup (.str "pick" :: ts.map Tm.d)) tr ?_ _ pF pE (.ref pC) ((((x3.trans x7).trans xD).trans xE).trans (.new hpF)) upd_same ((dC.ext xE).ext (Ext.new (GT := []) (M := []) hpF)) (sE.ext (.new hpF))
      obtain ⟨a, b, c0, rfl⟩ : ∃ a b c, ts = [a, b, c] := by
        match ts, ht with
        | [a, b, c], _ => exact ⟨a, b, c, rfl⟩
      rw [hc]
      show (((expect ")" (Str.ofString ")" :: tr)).bind fun r => (mkP [a, b, c0]).map fun t => (t, r)).map tmD) = _
      rw [exp_eq]
      rfl
  · refine iteDF (by decide +kernel) ⟨_, _, _, rfl, ?_⟩
    have eB : brF (side ws) "rest" r = restF (side ws) r := (if_neg (by decide)).trans (if_neg (by decide))
    rw [eB] at q2
    refine ⟨_, rfl, 2, rfl, by decide, by decide, ?_⟩
    refine for_range (lo := 0) (n := 2) (fun i σ' H' => ∃ (pa pl : Addr) (ds : List D) (lj : List Str) (o6 o7 o8 : Option V), σ' = [some (.ref p), some (.ref pw), some (.int d), some (.ref pa), some (.ref pl), some (.int 2), o6, o7, o8] ∧ Ext [] [] H2 H' ∧ LAt H' pa ds ∧ SgL H' pl lj ∧
      ((i = 0 ∧ ds = [] ∧ restF (side ws) r = restF (side ws) lj) ∨ (i = 1 ∧ ∃ a, ds = [a.d] ∧ restF (side ws) r = contR1 a lj) ∨ (i = 2 ∧ ∃ a n, ds = [a.d, .int (n : Nat)] ∧ restF (side ws) r = contR2 a n lj))) ⟨pa, pl, [], r, none, none, none, rfl, .refl, a2, l2, .inl ⟨rfl, rfl, rfl⟩⟩ (fun i σ' H' hi hv => ?_) (fun σ' H' hv => ?_)
    · obtain ⟨pa, pl, ds, lj, o6, o7, o8, rfl, x3, la, sl, hc⟩ := hv
      rcases hc with ⟨rfl, rfl, hc⟩ | ⟨rfl, a, rfl, hc⟩ | ⟨rfl, _⟩
      · rw [rest_cont (r := lj)] at hc
        refine ⟨_, rfl, _, rfl, pl, _, rfl, SqL.of sl.at_, fun p5 hp5 => ?_⟩
        have x5 : Ext [] [] H' (upd H' p5 (.lst (cutV (List.map V.str lj) none (some 1)))) := .new hp5
        have e5 : (upd H' p5 (.lst (cutV (List.map V.str lj) none (some 1)))) p5 = some (.lst ((lj.take 1).map V.str)) := by rw [upd_same, show (some (1 : Int)) = some ((1 : Nat) : Int) from rfl, cutStr_to]
        generalize upd H' p5 (.lst (cutV (List.map V.str lj) none (some 1))) = H5 at x5 e5 ⊢
        refine ⟨(by show 3 ≤ sizeLine; decide), fun p6 hp6 => ⟨_, rfl, p6, _, _, _, rfl, rfl, SqL.of upd_same, sep_at (i := 0) (by decide), (by show 1 ≤ sizeLine; decide), fun p7 hp7 => ?_⟩⟩
        have x7 : Ext [] [] H5 (upd (upd H5 p6 (.lst [.str "(", .str ",", .str ","])) p7 (.lst [.str (sepC 0)])) := (Ext.new hp6).trans (.new hp7)
        have e7 : (upd (upd H5 p6 (.lst [.str "(", .str ",", .str ","])) p7 (.lst [.str (sepC 0)])) p7 = some (.lst ([sepC 0].map V.str)) := upd_same
        generalize upd (upd H5 p6 (.lst [.str "(", .str ",", .str ","])) p7 (.lst [.str (sepC 0)]) = H7 at x7 e7 ⊢
        refine ⟨p5, p7, lj.take 1, [sepC 0], rfl, rfl, x7.lst e5, e7, (fun z hz => sl.okS z (List.mem_of_mem_take hz)), ok1 _ (sepOk _), _, rfl, ?_⟩
        have x8 := x5.trans x7
        have sl8 := sl.ext x8
        have la8 := la.ext x8
        clear e5 e7 x5 x7
        by_cases hq : ¬ ∃ r', lj = sepC 0 :: r'
        · refine iteNDF (fun z => hq (take1.mp z)) ?_
          refine q2.1 ?_ _ (x3.trans x8)
          rw [hc, show Str.ofString "(" = sepC 0 from rfl, exp_no hq]; rfl
        have hq := Classical.not_not.mp hq
        refine iteNDT (take1.mpr hq) ?_
        obtain ⟨tr, rfl⟩ := hq
        refine ⟨_, rfl, p, _, _, _, rfl, rfl, SqL.of (s2.ext (x3.trans x8)).at_, atI_nat (j := 0) rfl, rfl, _, rfl, iteDT rfl ?_⟩
        refine ⟨_, rfl, rfl, _, rfl, iteDF (by decide) ?_⟩
        refine ⟨_, rfl, _, rfl, pl, _, rfl, SqL.of sl8.at_, fun p9 hp9 => ?_⟩
        have x9 : Ext [] [] H7 (upd H7 p9 (.lst (cutV (List.map V.str (sepC 0 :: tr)) (some 1) none))) := .new hp9
        have s9 : SgL (upd H7 p9 (.lst (cutV (List.map V.str (sepC 0 :: tr)) (some 1) none))) p9 tr := sl8.drop (k := 1) upd_same
        generalize upd H7 p9 (.lst (cutV (List.map V.str (sepC 0 :: tr)) (some 1) none)) = HA at x9 s9 ⊢
        refine ⟨_, rfl, _, rfl, _, _, rfl, rfl, ?_⟩
        refine hS [.ref p9, .ref pw, .int 0, .int (d + 1)] _ _ _ ⟨p9, pw, tr, ws, rfl, s9, w2.ext ((x3.trans x8).trans x9), hne, ?_⟩
        refine lres_of fun HB v0 xB hv => ?_
        have xC := ((x3.trans x8).trans x9).trans xB
        rcases hv with ⟨en, rfl⟩ | ⟨t1, l1, pt, pr, v, en, rfl, ep, dv, sr⟩
        · refine ⟨_, rfl, rfl, _, rfl, iteDT rfl ?_⟩
          refine q2.1 ?_ _ xC
          rw [hc, show Str.ofString "(" = sepC 0 from rfl, exp_eq, Option.bind_some, en]; rfl
        refine ⟨_, rfl, rfl, _, rfl, iteDF (fun z => by cases z) ?_⟩
        obtain ⟨ys, ea, aa⟩ := la8.ext (x9.trans xB)
        refine ⟨_, rfl, _, rfl, pt, _, _, _, rfl, rfl, SqT.of ep, atI_nat (j := 0) rfl, (by show 1 ≤ sizeLine; decide), fun pD hpD => ?_⟩
        have xD : Ext [] [] HB (upd HB pD (.lst [v])) := .new hpD
        refine ⟨pa, pD, ys, [v], rfl, rfl, xD.lst ea, upd_same, ?_, fun pE hpE => ?_⟩
        · rw [aa.1]
          exact line100 (by show 0 + 1 ≤ 1000000; decide)
        have xE : Ext [] [] (upd HB pD (.lst [v])) (upd (upd HB pD (.lst [v])) pE (.lst (ys ++ [v]))) := .new hpE
        have xF := xD.trans xE
        refine ⟨_, rfl, pt, _, _, _, rfl, rfl, SqT.of (xF.tups _ _ ep), atI_nat (j := 1) rfl, _, _, rfl, ?_⟩
        have lE : LAt (upd (upd HB pD (.lst [v])) pE (.lst (ys ++ [v]))) pE ([] ++ [t1.d]) := ⟨_, upd_same, ((aa.ext xF).snoc (dv.ext xF))⟩
        refine ⟨pE, pr, [t1.d], l1, _, _, _, rfl, xC.trans xF, lE, sr.ext xF, .inr (.inl ⟨rfl, t1, rfl, ?_⟩)⟩
        rw [hc, show Str.ofString "(" = sepC 0 from rfl, exp_eq, Option.bind_some, en]
        rfl
      · unfold contR1 at hc
        refine ⟨_, rfl, _, rfl, pl, _, rfl, SqL.of sl.at_, fun p5 hp5 => ?_⟩
        have x5 : Ext [] [] H' (upd H' p5 (.lst (cutV (List.map V.str lj) none (some 1)))) := .new hp5
        have e5 : (upd H' p5 (.lst (cutV (List.map V.str lj) none (some 1)))) p5 = some (.lst ((lj.take 1).map V.str)) := by rw [upd_same, show (some (1 : Int)) = some ((1 : Nat) : Int) from rfl, cutStr_to]
        generalize upd H' p5 (.lst (cutV (List.map V.str lj) none (some 1))) = H5 at x5 e5 ⊢
        refine ⟨(by show 3 ≤ sizeLine; decide), fun p6 hp6 => ⟨_, rfl, p6, _, _, _, rfl, rfl, SqL.of upd_same, sep_at (i := 1) (by decide), (by show 1 ≤ sizeLine; decide), fun p7 hp7 => ?_⟩⟩
        have x7 : Ext [] [] H5 (upd (upd H5 p6 (.lst [.str "(", .str ",", .str ","])) p7 (.lst [.str (sepC 1)])) := (Ext.new hp6).trans (.new hp7)
        have e7 : (upd (upd H5 p6 (.lst [.str "(", .str ",", .str ","])) p7 (.lst [.str (sepC 1)])) p7 = some (.lst ([sepC 1].map V.str)) := upd_same
        generalize upd (upd H5 p6 (.lst [.str "(", .str ",", .str ","])) p7 (.lst [.str (sepC 1)]) = H7 at x7 e7 ⊢
        refine ⟨p5, p7, lj.take 1, [sepC 1], rfl, rfl, x7.lst e5, e7, (fun z hz => sl.okS z (List.mem_of_mem_take hz)), ok1 _ (sepOk _), _, rfl, ?_⟩
        have x8 := x5.trans x7
        have sl8 := sl.ext x8
        have la8 := la.ext x8
        clear e5 e7 x5 x7
        by_cases hq : ¬ ∃ r', lj = sepC 1 :: r'
        · refine iteNDF (fun z => hq (take1.mp z)) ?_
          refine q2.1 ?_ _ (x3.trans x8)
          rw [hc, show Str.ofString "," = sepC 1 from rfl, exp_no hq]; rfl
        have hq := Classical.not_not.mp hq
        refine iteNDT (take1.mpr hq) ?_
        obtain ⟨tr, rfl⟩ := hq
        refine ⟨_, rfl, p, _, _, _, rfl, rfl, SqL.of (s2.ext (x3.trans x8)).at_, atI_nat (j := 0) rfl, rfl, _, rfl, iteDT rfl ?_⟩
        refine ⟨_, rfl, rfl, _, rfl, iteDT rfl ?_⟩
        rw [show Str.ofString "," = sepC 1 from rfl, exp_eq, Option.bind_some] at hc
        refine ⟨_, rfl, pl, _, rfl, .inl (SqL.of sl8.at_), _, _, rfl, rfl, _, rfl, ?_⟩
        cases tr with
        | nil =>
          refine iteDF (by show ¬ ((1 : Int) < ((1 : Nat) : Int)); decide) ?_
          refine ⟨_, rfl, rfl, _, rfl, iteNDT rfl ?_⟩
          refine ⟨_, rfl, rfl, _, rfl, iteDT rfl ?_⟩
          refine q2.1 ?_ _ (x3.trans x8)
          rw [hc]
          rfl
        | cons wd tr =>
          refine iteDT (by rw [List.length_map, List.length_cons, List.length_cons]; omega) ?_
          refine ⟨_, rfl, pl, _, _, _, rfl, rfl, SqL.of sl8.at_, atI_nat (j := 1) rfl, wd, 1, 9, rfl, Nat.le_trans (sl.ok wd (by simp)).2 (by decide), ?_⟩
          have en : numF 1 9 (wd :: tr) = (digitF wd 1 9).map fun n => (n.toNat, tr) := rfl
          rw [en] at hc
          cases hd : digitF wd 1 9 with
          | none =>
            rw [hd] at hc
            refine ⟨_, rfl, rfl, _, rfl, iteNDT rfl ?_⟩
            refine ⟨_, rfl, rfl, _, rfl, iteDT rfl ?_⟩
            refine q2.1 ?_ _ (x3.trans x8)
            rw [hc]
            rfl
          | some n =>
            rw [hd] at hc
            have hr := digit_rng hd
            refine ⟨_, rfl, rfl, _, rfl, iteNDF (fun z => by cases z) ?_⟩
            refine ⟨_, rfl, _, rfl, _, rfl, pl, _, rfl, SqL.of sl8.at_, fun p9 hp9 => ?_⟩
            have x9 : Ext [] [] H7 (upd H7 p9 (.lst (cutV (List.map V.str (sepC 1 :: wd :: tr)) (some 2) none))) := .new hp9
            have s9 : SgL (upd H7 p9 (.lst (cutV (List.map V.str (sepC 1 :: wd :: tr)) (some 2) none))) p9 tr := sl8.drop (k := 2) upd_same
            generalize upd H7 p9 (.lst (cutV (List.map V.str (sepC 1 :: wd :: tr)) (some 2) none)) = H9 at x9 s9 ⊢
            refine ⟨(by show 2 ≤ sizeLine; decide), fun pA hpA => ?_⟩
            have xA : Ext [] [] H9 (upd H9 pA (.tup [.int n, .ref p9])) := .new hpA
            have eA : (upd H9 pA (.tup [.int n, .ref p9])) pA = some (.tup [.int n, .ref p9]) := upd_same
            refine ⟨_, rfl, rfl, _, rfl, iteDF (fun z => by cases z) ?_⟩
            show tNext _ _ (upd H9 pA (.tup [.int n, .ref p9]))
            generalize upd H9 pA (.tup [.int n, .ref p9]) = HB at xA eA ⊢
            obtain ⟨ys, ea, aa⟩ := la8.ext (x9.trans xA)
            refine ⟨_, rfl, _, rfl, pA, _, _, _, rfl, rfl, SqT.of eA, atI_nat (j := 0) rfl, (by show 1 ≤ sizeLine; decide), fun pD hpD => ?_⟩
            have xD : Ext [] [] HB (upd HB pD (.lst [.int n])) := .new hpD
            refine ⟨pa, pD, ys, [.int n], rfl, rfl, xD.lst ea, upd_same, ?_, fun pE hpE => ?_⟩
            · rw [aa.1]
              exact line100 (by show 1 + 1 ≤ 1000000; decide)
            have xE : Ext [] [] (upd HB pD (.lst [.int n])) (upd (upd HB pD (.lst [.int n])) pE (.lst (ys ++ [.int n]))) := .new hpE
            have xF := xD.trans xE
            refine ⟨_, rfl, pA, _, _, _, rfl, rfl, SqT.of (xF.tups _ _ eA), atI_nat (j := 1) rfl, _, _, rfl, ?_⟩
            have lE : LAt (upd (upd HB pD (.lst [.int n])) pE (.lst (ys ++ [.int n]))) pE ([a.d] ++ [.int n]) := ⟨_, upd_same, ((aa.ext xF).snoc (.int n))⟩
            have ni : ((n.toNat : Nat) : Int) = n := by omega
            exact ⟨pE, p9, [a.d, .int (n.toNat : Nat)], tr, _, _, _, rfl, (((x3.trans x8).trans x9).trans xA).trans xF, by rw [ni]; exact lE, s9.ext (xA.trans xF), .inr (.inr ⟨rfl, a, n.toNat, rfl, hc⟩)⟩
      · omega
    · obtain ⟨pa, pl, ds, lj, o6, o7, o8, rfl, x3, la, sl, hc⟩ := hv
      rcases hc with ⟨z, _⟩ | ⟨z, _⟩ | ⟨_, a, n, rfl, hc⟩
      · cases z
      · cases z
      refine ⟨_, rfl, _, rfl, pl, _, rfl, SqL.of sl.at_, fun p5 hp5 => ?_⟩
      have x5 : Ext [] [] H' (upd H' p5 (.lst (cutV (List.map V.str lj) none (some 1)))) := .new hp5
      have e5 : (upd H' p5 (.lst (cutV (List.map V.str lj) none (some 1)))) p5 = some (.lst ((lj.take 1).map V.str)) := by rw [upd_same, show (some (1 : Int)) = some ((1 : Nat) : Int) from rfl, cutStr_to]
      generalize upd H' p5 (.lst (cutV (List.map V.str lj) none (some 1))) = H5 at x5 e5 ⊢
      refine ⟨(by show 1 ≤ sizeLine; decide), fun p6 hp6 => ?_⟩
      have x6 : Ext [] [] H5 (upd H5 p6 (.lst [.str ")"])) := .new hp6
      have e6 : (upd H5 p6 (.lst [.str ")"])) p6 = some (.lst ([Str.ofString ")"].map V.str)) := upd_same
      generalize upd H5 p6 (.lst [.str ")"]) = H6 at x6 e6 ⊢
      have x7 := x5.trans x6
      refine ⟨p5, p6, lj.take 1, _, rfl, rfl, x6.lst e5, e6, fun z hz => sl.okS z (List.mem_of_mem_take hz), ok1 _, _, rfl, ?_⟩
      by_cases hq : ¬ ∃ r', lj = Str.ofString ")" :: r'
      · refine iteDF (fun z => hq (take1.mp z)) ?_
        refine q2.1 ?_ _ (x3.trans x7)
        rw [hc]; unfold contR2; rw [exp_no hq]; rfl
      have hq := Classical.not_not.mp hq
      refine iteDT (take1.mpr hq) ?_
      obtain ⟨tr, rfl⟩ := hq
      obtain ⟨ys, ea, aa⟩ := la.ext x7
      refine ⟨_, rfl, p, _, _, _, rfl, rfl, SqL.of (s2.ext (x3.trans x7)).at_, atI_nat (j := 0) rfl, (by show 1 ≤ sizeLine; decide), fun pA hpA => ?_⟩
      have xA : Ext [] [] H6 (upd H6 pA (.tup [.str "rest"])) := .new hpA
      refine ⟨_, rfl, pa, ys, rfl, .inl ⟨SqL.of (xA.lst ea), fun pB hpB => ?_⟩⟩
      have xB : Ext [] [] (upd H6 pA (.tup [.str "rest"])) (upd (upd H6 pA (.tup [.str "rest"])) pB (.tup ys)) := .new hpB
      have ly : ys.length = 2 := by rw [aa.1]; rfl
      have nB : ys ≠ [] := fun z => by rw [z] at ly; cases ly
      refine ⟨pA, pB, [.str "rest"], ys, rfl, rfl, SqT.of (xB.tups _ _ upd_same), SqT.of upd_same, by rw [ly]; decide, (fun z => by cases z), (fun _ z => absurd z nB), fun _ _ pC hpC => ?_⟩
      have xC : Ext [] [] (upd (upd H6 pA (.tup [.str "rest"])) pB (.tup ys)) (upd (upd (upd H6 pA (.tup [.str "rest"])) pB (.tup ys)) pC (.tup (.str "rest" :: ys))) := .new hpC
      have xD := (xA.trans xB).trans xC
      have dC : DAt (upd (upd (upd H6 pA (.tup [.str "rest"])) pB (.tup ys)) pC (.tup (.str "rest" :: ys))) (.ref pC) (.tup (.str "rest" :: [a.d, .int (n : Nat)])) := .ofAll upd_same (.cons (.str _) (aa.ext xD))
      refine ⟨_, rfl, _, rfl, pl, _, rfl, SqL.of (sl.ext (x7.trans xD)).at_, fun pE hpE => ?_⟩
      have xE : Ext [] [] (upd (upd (upd H6 pA (.tup [.str "rest"])) pB (.tup ys)) pC (.tup (.str "rest" :: ys))) (upd (upd (upd (upd H6 pA (.tup [.str "rest"])) pB (.tup ys)) pC (.tup (.str "rest" :: ys))) pE (.lst (cutV (List.map V.str (Str.ofString ")" :: tr)) (some 1) none))) := .new hpE
      have sE : SgL (upd (upd (upd (upd H6 pA (.tup [.str "rest"])) pB (.tup ys)) pC (.tup (.str "rest" :: ys))) pE (.lst (cutV (List.map V.str (Str.ofString ")" :: tr)) (some 1) none))) pE tr := (sl.ext (x7.trans xD)).drop (k := 1) upd_same
      refine ⟨(by show 2 ≤ sizeLine; decide), fun pF hpF => ?_⟩
      refine q2.2 (.tup (.str "rest" :: [a.d, .int (n : Nat)])) tr ?_ _ pF pE (.ref pC) ((((x3.trans x7).trans xD).trans xE).trans (.new hpF)) upd_same ((dC.ext xE).ext (Ext.new (GT := []) (M := []) hpF)) (sE.ext (.new hpF))
      rw [hc]
      unfold contR2
      rw [exp_eq]
      rfl
end
end ML
set_option maxHeartbeats 4000000
namespace ML
open PySem PySem.Spec PyProof.Rows L2 TL Gn
/-! ### how deep a term may be that is read from so many signs -/
def Dpt (p : List Str → PR) : Prop := ∀ l t r, p l = some (t, r) → t.deep + r.length ≤ l.length
theorem bin_deep {o : Op} {a b : Tm} : (Tm.bin o a b).deep = max a.deep b.deep + 1 := rfl
theorem dpt_chL {p : List Str → PR} {op : Str → Option Op} (hs : Shr p) (hp : Dpt p) : ∀ (n : Nat) (t : Tm) (l : List Str) (t' : Tm) (r : List Str), l.length ≤ n → chL p op t l = some (t', r) → t'.deep + r.length ≤ t.deep + l.length
  | _, t, [], t', r, _, h => by
    rw [chL_nil] at h
    cases h
    exact Nat.le_refl _
  | 0, t, _ :: _, t', r, h, _ => by simp at h
  | n + 1, t, s :: q, t', r, hl, h => by
    cases ho : op s with
    | none =>
      rw [chL_stop ho] at h
      cases h
      exact Nat.le_refl _
    | some o =>
      cases e : p q with
      | none =>
        rw [chL_bad ho e] at h
        cases h
      | some x =>
        obtain ⟨t1, q'⟩ := x
        rw [chL_go hs ho e] at h
        have h1 := hp _ _ _ e
        have hl : q.length ≤ n := Nat.le_of_succ_le_succ hl
        have := dpt_chL hs hp n _ q' t' r (by omega) h
        rw [bin_deep] at this
        rw [List.length_cons]
        omega
theorem dpt_chain {p : List Str → PR} {op : Str → Option Op} (hs : Shr p) (hp : Dpt p) : Dpt (chainF p op) := fun l t r h => by
  rw [chain_eq] at h
  obtain ⟨x, hx, h⟩ := Option.bind_eq_some_iff.mp h
  have h1 := hp _ _ _ hx
  have h2 := dpt_chL hs hp _ _ _ _ _ (Nat.le_refl _) h
  omega
theorem dpt_comp {p : List Str → PR} (hp : Dpt p) : Dpt (compF p) := fun l t r h => by
  rw [comp_eq] at h
  obtain ⟨x, hx, h⟩ := Option.bind_eq_some_iff.mp h
  have h1 := hp _ _ _ hx
  cases e : x.2 with
  | nil =>
    rw [e, compR_nil] at h
    cases h
    rw [e] at h1
    exact h1
  | cons s q =>
    rw [e] at h h1
    cases ho : opC s with
    | none =>
      rw [compR_stop ho] at h
      cases h
      exact h1
    | some o =>
      rw [compR_go ho] at h
      obtain ⟨z, hz, h⟩ := Option.map_eq_some_iff.mp h
      cases h
      have h2 := hp _ _ _ hz
      rw [bin_deep]
      simp only [List.length_cons] at h1
      omega
theorem dpt_alone (ws : List Str) : ∀ f : Nat, Dpt (aloneF ws f)
  | 0 => fun l t r h => by cases h
  | f + 1 => by
    have ih := dpt_alone ws f
    have sh := (alone_both ws f).1
    have s1 : Dpt (compF (chainF (chainF (aloneF ws f) opM) opA)) := dpt_comp (dpt_chain (shr_chain sh) (dpt_chain sh ih))
    intro l t r h
    cases l with
    | nil => cases h
    | cons s q =>
      rw [List.length_cons]
      unfold aloneF at h
      by_cases e1 : s = "("
      · rw [if_pos e1] at h
        obtain ⟨x, hx, h⟩ := Option.bind_eq_some_iff.mp h
        obtain ⟨r', he, h⟩ := Option.bind_eq_some_iff.mp h
        cases h
        have a := congrArg List.length (exp_some he)
        have b := s1 _ _ _ hx
        simp only [List.length_cons] at a
        omega
      rw [if_neg e1] at h
      by_cases e2 : s = "pick"
      · rw [if_pos e2] at h
        unfold pickF at h
        obtain ⟨r1, e1, h⟩ := Option.bind_eq_some_iff.mp h
        obtain ⟨x1, f1, h⟩ := Option.bind_eq_some_iff.mp h
        obtain ⟨r2, e2, h⟩ := Option.bind_eq_some_iff.mp h
        obtain ⟨x2, f2, h⟩ := Option.bind_eq_some_iff.mp h
        obtain ⟨r3, e3, h⟩ := Option.bind_eq_some_iff.mp h
        obtain ⟨x3, f3, h⟩ := Option.bind_eq_some_iff.mp h
        obtain ⟨r4, e4, h⟩ := Option.bind_eq_some_iff.mp h
        cases h
        have a1 := congrArg List.length (exp_some e1)
        have a2 := congrArg List.length (exp_some e2)
        have a3 := congrArg List.length (exp_some e3)
        have a4 := congrArg List.length (exp_some e4)
        have b1 := s1 _ _ _ f1
        have b2 := s1 _ _ _ f2
        have b3 := s1 _ _ _ f3
        simp only [List.length_cons] at a1 a2 a3 a4
        show max x1.1.deep (max x2.1.deep x3.1.deep) + 1 + _ ≤ _
        omega
      rw [if_neg e2] at h
      by_cases e3 : s = "rest"
      · rw [if_pos e3] at h
        unfold restF at h
        obtain ⟨r1, e1, h⟩ := Option.bind_eq_some_iff.mp h
        obtain ⟨x1, f1, h⟩ := Option.bind_eq_some_iff.mp h
        obtain ⟨r2, e2, h⟩ := Option.bind_eq_some_iff.mp h
        obtain ⟨x2, f2, h⟩ := Option.bind_eq_some_iff.mp h
        obtain ⟨r3, e3, h⟩ := Option.bind_eq_some_iff.mp h
        cases h
        have a1 := congrArg List.length (exp_some e1)
        have a2 := congrArg List.length (exp_some e2)
        have a3 := congrArg List.length (exp_some e3)
        have b1 := s1 _ _ _ f1
        obtain ⟨w, m, ew, _⟩ := num_some (n := x2.1) (r := x2.2) f2
        have a4 := congrArg List.length ew
        simp only [List.length_cons] at a1 a2 a3 a4
        show x1.1.deep + 1 + _ ≤ _
        omega
      rw [if_neg e3] at h
      by_cases e4 : s = "in"
      · rw [if_pos e4] at h
        obtain ⟨x, hx, h⟩ := Option.map_eq_some_iff.mp h
        cases h
        obtain ⟨a, _⟩ := off_some (o := x.1) (r := x.2) hx
        show 1 + _ ≤ _
        omega
      rw [if_neg e4] at h
      by_cases e5 : s ∈ ws
      · rw [if_pos e5] at h
        obtain ⟨x, hx, h⟩ := Option.map_eq_some_iff.mp h
        cases h
        obtain ⟨a, _⟩ := off_some (o := x.1) (r := x.2) hx
        show 1 + _ ≤ _
        omega
      rw [if_neg e5] at h
      obtain ⟨n, hn, h⟩ := Option.map_eq_some_iff.mp h
      cases h
      show 1 + _ ≤ _
      omega
theorem dpt_side {ws : List Str} {f : Nat} : Dpt (sideF ws f) := dpt_comp (dpt_chain (shr_chain (alone_both ws f).1) (dpt_chain (alone_both ws f).1 (dpt_alone ws f)))
/-! ### the signs of a line are short and plain -/
theorem alnum_lt {c : Nat} (h : alnum c = true) : c < 128 := by
  simp only [alnum, small, fig, Bool.or_eq_true, Bool.and_eq_true, decide_eq_true_eq] at h
  omega
theorem signAt_lt {l : List Nat} {s : Str} {r : List Nat} (h : signAt l = some (s, r)) : ∀ c ∈ tl s, c < 128 := by
  unfold signAt at h
  split at h
  all_goals first
    | (simp only [Option.some.injEq, Prod.mk.injEq] at h
       obtain ⟨rfl, rfl⟩ := h
       decide)
    | cases h
theorem sg_tok : ∀ (n : Nat) (l : List Nat) (ss : List Str), l.length ≤ n → signsF l = some ss → ss.length ≤ l.length ∧ ∀ s ∈ ss, (∀ c ∈ tl s, c < 128) ∧ s.length ≤ l.length
  | _, [], ss, _, h => by
    rw [sg_nil] at h
    cases h
    exact ⟨Nat.le_refl _, fun s hs => by cases hs⟩
  | 0, _ :: _, _, h, _ => by simp at h
  | n + 1, c :: r, ss, hl, h => by
    have hl2 : r.length ≤ n := Nat.le_of_succ_le_succ hl
    by_cases h32 : c = 32
    · subst h32
      rw [sg_sp] at h
      obtain ⟨a, b⟩ := sg_tok n r ss hl2 h
      rw [List.length_cons]
      exact ⟨by omega, fun s hs => ⟨(b s hs).1, by have := (b s hs).2; omega⟩⟩
    cases hsa : signAt (c :: r) with
    | some x =>
      obtain ⟨s, r'⟩ := x
      rw [sg_at h32 hsa] at h
      obtain ⟨ss', h', rfl⟩ := Option.map_eq_some_iff.mp h
      have hlen := signAt_len hsa
      obtain ⟨eapp, l1, l2⟩ := signAt_app hsa
      rw [List.length_cons] at hlen
      obtain ⟨a, b⟩ := sg_tok n r' ss' (by omega) h'
      have e := congrArg List.length eapp
      rw [List.length_append, ← len_tl, List.length_cons] at e
      refine ⟨by simp only [List.length_cons]; omega, fun z hz => ?_⟩
      rcases List.mem_cons.mp hz with rfl | hz
      · exact ⟨signAt_lt hsa, by rw [List.length_cons]; omega⟩
      · exact ⟨(b z hz).1, by have := (b z hz).2; rw [List.length_cons]; omega⟩
    | none =>
      by_cases htw : (c :: r).takeWhile alnum = []
      · rw [sg_bad h32 hsa htw] at h
        cases h
      rw [sg_word h32 hsa htw] at h
      obtain ⟨ss', h', rfl⟩ := Option.map_eq_some_iff.mp h
      have hlen := dropW_len htw
      rw [List.length_cons] at hlen
      obtain ⟨a, b⟩ := sg_tok n _ ss' (by omega) h'
      refine ⟨by simp only [List.length_cons]; omega, fun z hz => ?_⟩
      rcases List.mem_cons.mp hz with rfl | hz
      · refine ⟨fun x hx => alnum_lt ?_, ?_⟩
        · exact List.all_eq_true.mp (List.all_takeWhile) x hx
        · rw [len_tl]
          exact tw_le _
      · exact ⟨(b z hz).1, by have := (b z hz).2; rw [List.length_cons]; omega⟩
theorem sg_len {l : List Nat} {ss : List Str} (h : signsF l = some ss) : ss.length ≤ l.length := (sg_tok _ l ss (Nat.le_refl _) h).1
theorem sg_each {l : List Nat} {ss : List Str} (h : signsF l = some ss) : ∀ s ∈ ss, okS s ∧ s.length ≤ l.length := fun s hs => by
  obtain ⟨a, b⟩ := (sg_tok _ l ss (Nat.le_refl _) h).2 s hs
  exact ⟨okS_iff.mpr fun c hc => Nat.lt_of_lt_of_le (a c hc) (by decide), b⟩
end ML
set_option maxHeartbeats 4000000
namespace ML
open PySem PySem.Spec PyProof.Rows L2 TL Gn
section
variable {X : Cx}
theorem call_maxI (hc : X.calm = true) : CallR X (.builtin "max") (fun vs H Q => ∃ (p : Addr) (ns : List Int), vs = [.ref p] ∧ SqL X.K H p (ns.map V.int) ∧ ns ≠ [] ∧ ∀ M, M ∈ ns → (∀ a ∈ ns, a ≤ M) → Q (.int M) H) := by
  intro pins s σ H vs us Q I r h
  obtain ⟨p, ns, rfl, hs, hne, q⟩ := h
  obtain ⟨its, rv, hl, _⟩ := I.list hs
  rw [Vals.ref1 r]
  have hi : IntsAre its ns := Vals.ints rv
  obtain ⟨xs, e⟩ := hi.allInts.items
  have hns : ns = xs.toList.map (·.1) := by
    rw [← hi.numsOf, ← nums_intItems, ← e]
  have hsz : 0 < xs.size := by
    have : 0 < ns.length := List.length_pos_iff.mpr hne
    rw [hns, List.length_map, Array.length_toList] at this
    exact this
  have hl := hl.isList
  rw [e] at hl
  refine max_intList (I.ok.hd hc) hl hsz fun v h' tk hv hk => ?_
  obtain ⟨t, rfl⟩ := intItems_at hv
  obtain ⟨h1, h2⟩ := argBest_gt (numAt xs) (xs.size - 1)
  refine ⟨.int (numAt xs (argBest (fun i j => decide (numAt xs i > numAt xs j)) (xs.size - 1))), H, I.kept hk, ⟨t, rfl⟩, q _ ?_ fun a ha => ?_⟩
  · rw [hns, numAt_eq]
    exact getD_mem (by rw [List.length_map, Array.length_toList]; omega)
  · rw [hns] at ha
    obtain ⟨j, hj, rfl⟩ := mem_getD ha
    rw [List.length_map, Array.length_toList] at hj
    rw [← numAt_eq]
    exact h2 j (by omega)
end
def spLDeep (n : Nat) : Sp := fun vs H Q _ => ∃ (v : V) (t : Tm), vs = [v] ∧ DAt H v t.d ∧ t.deep ≤ n ∧ ∀ H', Ext [] [] H H' → Q (.int (t.deep : Nat)) H'
abbrev It2 := Tm ⊕ Int
def Tm.head : Tm → Str
  | .inn _ => "in" | .ofn _ _ => "of" | .isc _ => "is" | .rst _ _ => "rest" | .pck _ _ _ => "pick" | .bin op _ _ => op.word
def Tm.its : Tm → List It2
  | .inn o => [.inr o] | .ofn n o => [.inr n, .inr o] | .isc c => [.inr c] | .rst a c => [.inl a, .inr c] | .pck a b c => [.inl a, .inl b, .inl c] | .bin _ a b => [.inl a, .inl b]
def itD : It2 → D
  | .inl u => u.d
  | .inr i => .int i
theorem Tm.d_its : ∀ t : Tm, t.d = .tup (.str t.head :: t.its.map itD)
  | .inn _ | .ofn _ _ | .isc _ | .rst _ _ | .pck _ _ _ | .bin _ _ _ => rfl
def kidI : It2 → Option Int
  | .inl u => some (u.deep : Nat)
  | .inr _ => none
theorem Tm.its_deep {n : Nat} : ∀ {t : Tm}, t.deep ≤ n + 1 → ∀ u, Sum.inl u ∈ t.its → u.deep ≤ n
  | .inn _, _, u, h | .ofn _ _, _, u, h | .isc _, _, u, h => by simp [Tm.its] at h
  | .rst a c, h0, u, h => by
    have h0 : a.deep + 1 ≤ n + 1 := h0
    simp [Tm.its] at h
    subst h
    omega
  | .pck a b c, h0, u, h => by
    have h0 : max a.deep (max b.deep c.deep) + 1 ≤ n + 1 := h0
    simp [Tm.its] at h
    rcases h with rfl | rfl | rfl <;> omega
  | .bin op a b, h0, u, h => by
    have h0 : max a.deep b.deep + 1 ≤ n + 1 := h0
    simp [Tm.its] at h
    rcases h with rfl | rfl <;> omega
theorem Tm.deep_max {M : Int} : ∀ {t : Tm}, M ∈ t.its.filterMap kidI ++ [0] → (∀ a ∈ t.its.filterMap kidI ++ [0], a ≤ M) → 1 + M = (t.deep : Nat)
  | .inn _, h, _ | .ofn _ _, h, _ | .isc _, h, _ => by
    simp [Tm.its, kidI] at h
    subst h
    rfl
  | .rst a c, h, g => by
    have e : ((Tm.rst a c).deep : Int) = a.deep + 1 := rfl
    simp [Tm.its, kidI] at h g
    omega
  | .pck a b c, h, g => by
    have e : (Tm.pck a b c).deep = max a.deep (max b.deep c.deep) + 1 := rfl
    simp [Tm.its, kidI] at h g
    rw [e]
    omega
  | .bin op a b, h, g => by
    have e : (Tm.bin op a b).deep = max a.deep b.deep + 1 := rfl
    simp [Tm.its, kidI] at h g
    rw [e]
    omega
theorem Tm.its_len : ∀ {t : Tm}, 1 ≤ t.its.length ∧ t.its.length ≤ 3
  | .inn _ | .ofn _ _ | .isc _ | .rst _ _ | .pck _ _ _ | .bin _ _ _ => by simp [Tm.its]
def spLEq : Sp := fun vs H Q _ => ∃ (z : Str) (pw : Addr) (ws : List Str), vs = [.str z, .ref pw] ∧ okS z ∧ z.length ≤ 100000 ∧ SgL H pw ws ∧ (∀ z ∈ ws, z ≠ "") ∧ (eqF ws (tl z) = none → ∀ H', Ext [] [] H H' → Q .non H') ∧
  ∀ a b, eqF ws (tl z) = some (a, b) → ∀ H' v, Ext [] [] H H' → DAt H' v (.tup [a.d, b.d]) → Q v H'
theorem fnr_none {P : Program} {w : World} {K : PySem.W.Frag} {mg : Str → Option Value} {base : Heap} {B : Around → Prop} {f : Addr} {fd : FuncData} {ps : List Str} {sp : Sp} (no : ∀ vs H Q E, ¬ sp vs H Q E) : FnR P w K mg base B f fd ps sp :=
  ⟨fun vs H Q E h => absurd h (no vs H Q E), fun A outer s H args us vs Q E _ _ _ _ h => absurd h (no vs H Q E)⟩
/-- a def by its name -/
def Dfn (K : PySem.W.Frag) (mg : Str → Option Value) (x : Str) (st : Stmt) (ps : List Str) : Prop := ∃ f fd c, FunC K x x st f fd c ∧ mg x = some (.ref f) ∧ Binds K fd ps []
section
variable {P : Program} {w : World} {K : PySem.W.Frag} {mg : Str → Option Value} {base : Heap} {f c C : Addr} {fd : FuncData}
theorem ldeep_step {n : Nat} (F : FunC K "_law_deep" "_law_deep" sLDeep f fd c) (T : Bl mg) (G : CalR P w K mg base (Rm n) "_law_deep" pLDeep (spLDeep n)) : FnR P w K mg base (Rm (n + 1)) f fd pLDeep (spLDeep (n + 1)) := by
  refine F.okR scLDeep (fun vs H Q E h => ?_) (fun A outer s H vs Q E hr h => ?_)
  · obtain ⟨v, t, rfl, _⟩ := h
    rfl
  obtain ⟨v, t, rfl, ht, hd, q⟩ := h
  refine ⟨_, pss_one (ps_ret (pe_op op_add pe_int (pe_callB (call_maxI rfl) (by rfl) T.max boot_max (pa_cons (pe_op op_cat (pe_lc (own := [("_law_part", 1)]) rfl scLDeep.nd (pi_tup (pe_slice sl_tup (pv 0) (po_some pe_int) po_none)) (blkOk_by (own := [("_law_part", 1)]) (N := nLDeep) (sc := defScope sLDeep) (by decide +kernel)) (fun _ _ _ _ _ => pg_name (i := 1) scLDeep.nd rfl (.inl rfl)) (fun _ _ _ _ _ => pts_one (pt_val (pe_callB call_isY (by rfl) T.isinstance boot_isinstance (pa_cons (pv 1) (pa_cons (pe_bltn (v := .ty "tuple") (by rfl) T.tuple boot_tuple rfl) pa_nil))))) (fun _ _ _ _ _ => pe_calR G hr rfl (pa_cons (pv 1) pa_nil))) (pe_lst (pa_cons pe_int pa_nil))) pa_nil)))), ?_⟩
  rw [t.d_its] at ht
  obtain ⟨p, xs, rfl, hp, ax⟩ := DAt.all ht
  obtain ⟨l1, l3⟩ := t.its_len
  have hl : xs.length = t.its.length + 1 := by rw [ax.1, List.length_cons, List.length_map]
  refine ⟨_, rfl, _, rfl, p, _, rfl, SqT.of hp, ?_, fun p2 hp2 => ?_⟩
  · intro z
    have z1 : HT.sIx xs.length 0 (some ((1 : Nat) : Int)) = 0 := z.1
    rw [HT.sIx_nat, hl] at z1
    omega
  rw [show (some (1 : Int)) = some ((1 : Nat) : Int) from rfl, cut_from]
  have x2 : Ext [] [] H (upd H p2 (.tup (xs.drop 1))) := .new hp2
  have ad : AllD (upd H p2 (.tup (xs.drop 1))) (xs.drop 1) (t.its.map itD) := (ax.drop (n := 1)).ext x2
  have e2 : (upd H p2 (.tup (xs.drop 1))) p2 = some (.tup (xs.drop 1)) := upd_same
  generalize upd H p2 (.tup (xs.drop 1)) = H2 at x2 ad e2 ⊢
  refine ⟨p2, rfl, ⟨_, SqT.of e2⟩, fun D0 hD => ?_⟩
  refine lc_tup (Acc [] [] H2 D0 (fun i ds => ds = ((t.its.take i).filterMap kidI).map D.int)) (acc0 hD rfl) (fun i H3 hi ac => SqT.of (ac.ext.tups _ _ e2)) (fun i x H3 hx ac => ?_) (fun H3 ac => ?_)
  · obtain ⟨dd, hdd, hx2⟩ := ad.get hx
    rw [List.getElem?_map] at hdd
    obtain ⟨it, hit, rfl⟩ := Option.map_eq_some_iff.mp hdd
    have hi : i < 1000000 := by
      have := (List.getElem?_eq_some_iff.mp hit).1
      omega
    cases it with
    | inr k =>
      have hx3 := DAt.intI hx2
      subst hx3
      refine ⟨rfl, _, rfl, _, _, _, false, rfl, .int _, kb, _, rfl, iteF ?_⟩
      refine ac.skip (by simp) .refl fun ds e => ?_
      rw [e, List.take_add_one, hit, List.filterMap_append]
      show _ = (_ ++ []).map D.int
      rw [List.append_nil]
    | inl u =>
      have hu : DAt H2 x u.d := hx2
      obtain ⟨py, ys, rfl, hpy⟩ := tm_ref hu
      refine ⟨rfl, _, rfl, _, _, _, true, rfl, .tup (ac.ext.tups _ _ hpy), kb, _, rfl, iteT ?_⟩
      refine ⟨_, rfl, _, u, rfl, hu.ext ac.ext, Tm.its_deep hd u (List.mem_of_getElem? hit), fun H4 x4 => ?_⟩
      refine ac.step hD (by simp) hi x4 (.int _) fun ds e => ?_
      rw [e, List.take_add_one, hit, List.filterMap_append, List.map_append]
      rfl
  · obtain ⟨⟨ds, ⟨ys, ey, ay⟩, g, _⟩, x3⟩ := ac
    have hl2 : (xs.drop 1).length = t.its.length := by rw [List.length_drop, hl]; rfl
    have g : ds = ((t.its.take (xs.drop 1).length).filterMap kidI).map D.int := g
    rw [hl2, List.take_length] at g
    subst g
    have eys := allD_intI ay
    subst eys
    refine ⟨(by show 1 ≤ sizeLine; decide), fun p5 hp5 => ?_⟩
    have x5 : Ext [] [] H3 (upd H3 p5 (.lst [.int 0])) := .new hp5
    refine ⟨D0, p5, _, [.int 0], rfl, rfl, x5.lst ey, upd_same, ?_, fun p6 hp6 => ?_⟩
    · rw [List.length_map]
      have := List.length_filterMap_le kidI t.its
      exact line100 (by show _ + 1 ≤ 1000000; omega)
    refine ⟨p6, t.its.filterMap kidI ++ [0], rfl, SqL.of (by rw [upd_same, List.map_append]; rfl), by simp, fun M hM hmax => ?_⟩
    refine ⟨_, _, rfl, rfl, ?_⟩
    show Q (.int (1 + M)) _
    rw [Tm.deep_max hM hmax]
    exact q _ (((x2.trans x3).trans x5).trans (.new hp6))
theorem ok_ldeep (F : FunC K "_law_deep" "_law_deep" sLDeep f fd c) (T : Bl mg) (m : mg "_law_deep" = some (.ref f)) (b : Binds K fd pLDeep []) : ∀ n : Nat, CalR P w K mg base (Rm n) "_law_deep" pLDeep (spLDeep n)
  | 0 => ⟨f, fd, fnr_none (fun vs H Q E h => by
    obtain ⟨v, t, _, _, h0, _⟩ := h
    have := t.deep_pos
    omega), m, b, F.kp⟩
  | n + 1 => ⟨f, fd, ldeep_step F T (ok_ldeep F T m b n), m, b, F.kp⟩
theorem ok_lequation (F : FunC K "_law_equation" "_law_equation" sLEquation f fd c) (T : Bl mg) (Gsg : Cal P w K mg base 1 "_law_signs" pLSigns spSigns) (Gside : CalR P w K mg base (Rm 251) "_law_side" pLSide (spLSide (fun ws => sideF ws 41) 0 0)) (Gdeep : CalR P w K mg base (Rm 201) "_law_deep" pLDeep (spLDeep 201)) :
    FnR P w K mg base (Rm 252) f fd pLEquation spLEq := by
  refine F.okR scLEquation (fun vs H Q E h => ?_) (fun A outer s H vs Q E hr h => ?_)
  · obtain ⟨z, pw, ws, rfl, _⟩ := h
    rfl
  obtain ⟨z, pw, ws, rfl, okz, hz, hw, hne, qn, qs⟩ := h
  refine ⟨_, pss_cons (ps_set (i := 2) scLEquation.nd rfl (.inl rfl) (pe_cal Gsg (hr.room.mono (by omega)) rfl (pa_cons (pv 0) pa_nil))) (pss_cons (ps_if (PW.pt (pw_or (pt_cmpR op_isN (pv 2) pe_non (nomark _)) (pw_or1 (pt_cmpR op_gt (pe_callB call_len_seq (by rfl) T.len PySem.boot_len (pa_cons (pv 2) pa_nil)) pe_int (nomark _))))) (pss_one (ps_ret pe_non)) pss_nil) (pss_cons (ps_set (i := 3) scLEquation.nd rfl (.inl rfl) (pe_calR Gside (hr.mono (by omega)) rfl (pa_cons (pv 2) (pa_cons (pv 1) (pa_cons pe_int (pa_cons pe_int pa_nil)))))) (pss_cons (ps_if (PW.pt (pw_or (pt_cmpR op_isN (pv 3) pe_non (nomark _)) (pw_or1 (pt_cmpR (op_neL hr.room.units) (pe_slice sl_list (pe_ix ix_tup (pv 3) pe_int (fun _ _ => rfl)) po_none (po_some pe_int)) (pe_lst (pa_cons pe_str pa_nil)) (nomark _))))) (pss_one (ps_ret pe_non)) pss_nil) (pss_cons (ps_set (i := 4) scLEquation.nd rfl (.inl rfl) (pe_calR Gside (hr.mono (by omega)) rfl (pa_cons (pe_slice sl_list (pe_ix ix_tup (pv 3) pe_int (fun _ _ => rfl)) (po_some pe_int) po_none) (pa_cons (pv 1) (pa_cons pe_int (pa_cons pe_int pa_nil)))))) (pss_cons (ps_if (PW.pt (pw_or (pt_cmpR op_isN (pv 4) pe_non (nomark _)) (pw_or (pt_cmpR (op_neL hr.room.units) (pe_ix ix_tup (pv 4) pe_int (fun _ _ => rfl)) (pe_lst pa_nil) (nomark _)) (pw_or1 (pt_cmpR op_gt (pe_callB (call_max2 rfl) (by rfl) T.max boot_max (pa_cons (pe_calR Gdeep (hr.mono (by omega)) rfl (pa_cons (pe_ix ix_tup (pv 3) pe_int (fun _ _ => rfl)) pa_nil)) (pa_cons (pe_calR Gdeep (hr.mono (by omega)) rfl (pa_cons (pe_ix ix_tup (pv 4) pe_int (fun _ _ => rfl)) pa_nil)) pa_nil))) pe_int (nomark _)))))) (pss_one (ps_ret pe_non)) pss_nil) (pss_one (ps_ret (pe_tup (pa_cons (pe_ix ix_tup (pv 3) pe_int (fun _ _ => rfl)) (pa_cons (pe_ix ix_tup (pv 4) pe_int (fun _ _ => rfl)) pa_nil)))))))))), ?_⟩
  refine ⟨_, rfl, z, rfl, hz, okz, fun e H1 x1 => ?_, fun ss e H1 p x1 hpn hp => ?_⟩
  · refine ⟨_, rfl, rfl, _, rfl, iteDT rfl (iteT ?_)⟩
    exact qn (by unfold eqF; rw [e]; rfl) H1 x1
  refine ⟨_, rfl, rfl, _, rfl, iteDF (fun z => by cases z) ?_⟩
  refine ⟨_, rfl, p, _, rfl, .inl (SqL.of hp), _, _, rfl, rfl, _, rfl, ?_⟩
  have eE : eqF ws (tl z) = if ss.length ≤ 200 then pairF ws ss else none := by unfold eqF; rw [e]; rfl
  by_cases hlen : 200 < ss.length
  · refine iteDT (by rw [List.length_map]; omega) ?_
    exact qn (by rw [eE, if_neg (by omega)]) H1 x1
  refine iteDF (by rw [List.length_map]; omega) ?_
  rw [if_pos (by omega)] at eE
  have sg := sg_each e
  have sgl : SgL H1 p ss := ⟨hp, fun s hs => ⟨(sg s hs).1, Nat.le_trans (sg s hs).2 (by rw [← len_tl]; exact hz)⟩, by omega⟩
  have w1 := hw.ext x1
  rw [eE] at qn qs
  clear eE hp
  refine ⟨_, rfl, _, rfl, ?_⟩
  refine ⟨p, pw, ss, ws, rfl, sgl, w1, hne, ?_⟩
  refine lres_of fun H2 v0 x2 hv => ?_
  have xA := x1.trans x2
  have eP : pairF ws ss = (sideF ws 41 ss).bind fun x => (expect "=" x.2).bind fun r => (sideF ws 41 r).bind fun y => if y.2 = [] ∧ x.1.deep ≤ 5 ∧ y.1.deep ≤ 5 then some (x.1, y.1) else none := rfl
  rw [eP] at qn qs
  have hv : LIn H2 v0 (sideF ws 41 ss) := hv
  rcases hv with ⟨en, rfl⟩ | ⟨t1, l1, pt, pr, v, en, rfl, ep, dv, sr⟩
  · refine ⟨_, rfl, rfl, _, rfl, iteDT rfl (iteT ?_)⟩
    exact qn (by rw [en]; rfl) H2 xA
  rw [en] at qn qs
  refine ⟨_, rfl, rfl, _, rfl, iteDF (fun z => by cases z) ?_⟩
  refine ⟨_, rfl, pt, _, _, _, rfl, rfl, SqT.of ep, atI_nat (j := 1) rfl, _, rfl, pr, _, rfl, SqL.of sr.at_, fun p5 hp5 => ?_⟩
  have x5 : Ext [] [] H2 (upd H2 p5 (.lst (cutV (List.map V.str l1) none (some 1)))) := .new hp5
  have e5 : (upd H2 p5 (.lst (cutV (List.map V.str l1) none (some 1)))) p5 = some (.lst ((l1.take 1).map V.str)) := by rw [upd_same, show (some (1 : Int)) = some ((1 : Nat) : Int) from rfl, cutStr_to]
  generalize upd H2 p5 (.lst (cutV (List.map V.str l1) none (some 1))) = H5 at x5 e5 ⊢
  refine ⟨(by show 1 ≤ sizeLine; decide), fun p6 hp6 => ?_⟩
  have x6 : Ext [] [] H5 (upd H5 p6 (.lst [.str "="])) := .new hp6
  have e6 : (upd H5 p6 (.lst [.str "="])) p6 = some (.lst ([Str.ofString "="].map V.str)) := upd_same
  generalize upd H5 p6 (.lst [.str "="]) = H6 at x6 e6 ⊢
  have xB := (xA.trans x5).trans x6
  refine ⟨p5, p6, l1.take 1, _, rfl, rfl, x6.lst e5, e6, fun z hz => sr.okS z (List.mem_of_mem_take hz), ok1 _, _, rfl, ?_⟩
  by_cases hq : ¬ ∃ r', l1 = Str.ofString "=" :: r'
  · refine iteNDF (fun z => hq (take1.mp z)) ?_
    exact qn (by simp only [Option.bind_some, exp_no hq, Option.bind_none]) H6 xB
  have hq := Classical.not_not.mp hq
  refine iteNDT (take1.mpr hq) ?_
  obtain ⟨tr, rfl⟩ := hq
  simp only [Option.bind_some, exp_eq] at qn qs
  have ep6 := (x5.trans x6).tups _ _ ep
  have sr6 := sr.ext (x5.trans x6)
  have dv6 := dv.ext (x5.trans x6)
  refine ⟨_, rfl, pt, _, _, _, rfl, rfl, SqT.of ep6, atI_nat (j := 1) rfl, _, rfl, pr, _, rfl, SqL.of sr6.at_, fun p7 hp7 => ?_⟩
  have x7 : Ext [] [] H6 (upd H6 p7 (.lst (cutV (List.map V.str (Str.ofString "=" :: tr)) (some 1) none))) := .new hp7
  have s7 : SgL (upd H6 p7 (.lst (cutV (List.map V.str (Str.ofString "=" :: tr)) (some 1) none))) p7 tr := sr6.drop (k := 1) upd_same
  generalize upd H6 p7 (.lst (cutV (List.map V.str (Str.ofString "=" :: tr)) (some 1) none)) = H7 at x7 s7 ⊢
  refine ⟨_, rfl, ?_⟩
  refine ⟨p7, pw, tr, ws, rfl, s7, hw.ext (xB.trans x7), hne, ?_⟩
  refine lres_of fun H8 v8 x8 hv8 => ?_
  have xC := (xB.trans x7).trans x8
  have hv8 : LIn H8 v8 (sideF ws 41 tr) := hv8
  rcases hv8 with ⟨en8, rfl⟩ | ⟨t2, l2, pt2, pr2, v2, en8, rfl, ep2, dv2, sr2⟩
  · refine ⟨_, rfl, rfl, _, rfl, iteDT rfl (iteT ?_)⟩
    exact qn (by rw [en8]; rfl) H8 xC
  rw [en8] at qn qs
  simp only [Option.bind_some] at qn qs
  refine ⟨_, rfl, rfl, _, rfl, iteDF (fun z => by cases z) ?_⟩
  refine ⟨_, rfl, pt2, _, _, _, rfl, rfl, SqT.of ep2, atI_nat (j := 1) rfl, (by show 0 ≤ sizeLine; decide), fun p9 hp9 => ?_⟩
  have x9 : Ext [] [] H8 (upd H8 p9 (.lst [])) := .new hp9
  have e9 : (upd H8 p9 (.lst [])) p9 = some (.lst (List.map V.str [])) := upd_same
  generalize upd H8 p9 (.lst []) = H9 at x9 e9 ⊢
  have xD := xC.trans x9
  refine ⟨pr2, p9, l2, [], rfl, rfl, (sr2.ext x9).at_, e9, sr2.okS, by simp, _, rfl, ?_⟩
  by_cases hnil : ¬ l2 = []
  · refine iteNDF hnil ?_
    exact qn (if_neg fun z => hnil z.1) H9 xD
  have hnil := Classical.not_not.mp hnil
  refine iteNDT hnil ?_
  have k1 := dpt_side _ _ _ en
  have k2 := dpt_side _ _ _ en8
  rw [List.length_cons] at k1
  have x79 := ((x7.trans x8).trans x9)
  refine ⟨_, rfl, pt, _, _, _, rfl, rfl, SqT.of (x79.tups _ _ ep6), atI_nat (j := 0) rfl, v, t1, rfl, dv6.ext x79, by omega, fun HA xE => ?_⟩
  refine ⟨_, rfl, pt2, _, _, _, rfl, rfl, SqT.of ((x9.trans xE).tups _ _ ep2), atI_nat (j := 0) rfl, v2, t2, rfl, dv2.ext (x9.trans xE), by omega, fun HB xF => ?_⟩
  refine ⟨_, _, rfl, _, _, rfl, rfl, _, rfl, ?_⟩
  have xG := (xD.trans xE).trans xF
  by_cases h5 : t1.deep ≤ 5 ∧ t2.deep ≤ 5
  · refine iteDF (by split <;> omega) ?_
    rw [if_pos ⟨hnil, h5⟩] at qs
    refine ⟨_, rfl, pt, _, _, _, rfl, rfl, SqT.of (((x79.trans xE).trans xF).tups _ _ ep6), atI_nat (j := 0) rfl, ?_⟩
    refine ⟨_, rfl, pt2, _, _, _, rfl, rfl, SqT.of (((x9.trans xE).trans xF).tups _ _ ep2), atI_nat (j := 0) rfl, (by show 2 ≤ sizeLine; decide), fun pZ hpZ => ?_⟩
    exact qs t1 t2 rfl _ _ (xG.trans (.new hpZ)) (.mk2 upd_same ((dv6.ext ((x79.trans xE).trans xF)).ext (Ext.new (GT := []) (M := []) hpZ)) ((dv2.ext ((x9.trans xE).trans xF)).ext (Ext.new (GT := []) (M := []) hpZ)))
  · refine iteDT (by split <;> omega) ?_
    exact qn (if_neg fun z => h5 z.2) HB xG
/-! the law's reader, tied -/
theorem lside_tie {k : Nat} {d : Int} {n : Nat} (T : Bl mg) (Ds : Dfn K mg "_law_side" sLSide pLSide) (G : CalR P w K mg base (Rm k) "_law_single" pLSingle (spLPar (fun ws => aloneF ws n) d)) : CalR P w K mg base (Rm (k + 4)) "_law_side" pLSide (spLSide (fun ws => sideF ws n) 0 d) := by
  obtain ⟨f, fd, c, F, m, b⟩ := Ds
  have up : ∀ j, CalR P w K mg base (Rm (k + j)) "_law_single" pLSingle (spLPar (fun ws => aloneF ws n) d) := fun j => by
    obtain ⟨f, fd, F, m, b, kp⟩ := G
    exact ⟨f, fd, F.mono fun A h => h.mono (Nat.le_add_right _ _), m, b, kp⟩
  have G0 : CalR P w K mg base (Rm k) "_law_side" pLSide (fun _ _ _ _ => False) := ⟨f, fd, fnr_none fun _ _ _ _ h => h, m, b, F.kp⟩
  have G3 : CalR P w K mg base (Rm (k + 1)) "_law_side" pLSide (spLSide (fun ws => aloneF ws n) 3 d) := ⟨f, fd, ok_lside3 F T G G0 (fun _ _ _ _ h => h), m, b, F.kp⟩
  have G2 : CalR P w K mg base (Rm (k + 2)) "_law_side" pLSide (spLSide (fun ws => mulF ws n) 2 d) := ⟨f, fd, ok_lside2 F T (up 1) G3 (fun ws => (alone_both ws n).1) (fun _ _ _ _ h => h), m, b, F.kp⟩
  have G1 : CalR P w K mg base (Rm (k + 3)) "_law_side" pLSide (spLSide (fun ws => addF ws n) 1 d) := ⟨f, fd, ok_lside1 F T (up 2) G2 (fun ws => shr_chain (alone_both ws n).1) (fun _ _ _ _ h => h), m, b, F.kp⟩
  exact ⟨f, fd, ok_lside0 F T (up 3) G1 (fun _ _ _ _ h => h), m, b, F.kp⟩
theorem lsingle_tie (T : Bl mg) (Ds : Dfn K mg "_law_side" sLSide pLSide) (D1 : Dfn K mg "_law_single" sLSingle pLSingle) (Dc : Dfn K mg "_law_call" sLCall pLCall) (Gd : Cal P w K mg base 1 "_law_number" pLNumber spDigit) (Go : Cal P w K mg base 2 "_law_offset" pLOffset spLOffset) :
    ∀ n : Nat, n ≤ 41 → CalR P w K mg base (Rm (6 * n + 1)) "_law_single" pLSingle (spLPar (fun ws => aloneF ws n) (41 - (n : Int)))
  | 0, _ => by
    obtain ⟨f, fd, c, F, m, b⟩ := D1
    obtain ⟨f2, fd2, c2, F2, m2, b2⟩ := Ds
    obtain ⟨f3, fd3, c3, F3, m3, b3⟩ := Dc
    have G0 : CalR P w K mg base (Rm 0) "_law_side" pLSide (fun _ _ _ _ => False) := ⟨f2, fd2, fnr_none fun _ _ _ _ h => h, m2, b2, F2.kp⟩
    have G1 : CalR P w K mg base (Rm 0) "_law_call" pLCall (fun _ _ _ _ => False) := ⟨f3, fd3, fnr_none fun _ _ _ _ h => h, m3, b3, F3.kp⟩
    exact ⟨f, fd, ok_lsingle (side := fun _ _ => none) (.inl ⟨by decide, fun ws l => rfl⟩) (fun h => absurd (by decide) h) (fun h => absurd (by decide) h) F T Gd Go G0 G1, m, b, F.kp⟩
  | n + 1, hn => by
    have G := lside_tie T Ds (lsingle_tie T Ds D1 Dc Gd Go n (by omega))
    obtain ⟨f, fd, c, F, m, b⟩ := D1
    obtain ⟨f3, fd3, c3, F3, m3, b3⟩ := Dc
    have ed : (41 : Int) - (n : Int) = 41 - ((n + 1 : Nat) : Int) + 1 := by omega
    rw [ed] at G
    have Gc : CalR P w K mg base (Rm (6 * n + 6)) "_law_call" pLCall (spLCal (fun ws => sideF ws n) (41 - ((n + 1 : Nat) : Int))) := ⟨f3, fd3, ok_lcall (fun _ _ _ _ h => h) F3 T Gd G, m3, b3, F3.kp⟩
    have G' : CalR P w K mg base (Rm (6 * n + 6)) "_law_side" pLSide (spLSide (fun ws => sideF ws n) 0 (41 - ((n + 1 : Nat) : Int) + 1)) := by
      obtain ⟨f, fd, F, m, b, kp⟩ := G
      exact ⟨f, fd, F.mono fun A h => h.mono (by omega), m, b, kp⟩
    exact ⟨f, fd, ok_lsingle (.inr ⟨by omega, fun ws l => alone_eq⟩) (fun _ _ _ _ _ h => h) (fun _ _ _ _ _ h => h) F T Gd Go G' Gc, m, b, F.kp⟩
theorem lside_all (T : Bl mg) (Ds : Dfn K mg "_law_side" sLSide pLSide) (D1 : Dfn K mg "_law_single" sLSingle pLSingle) (Dc : Dfn K mg "_law_call" sLCall pLCall) (Gd : Cal P w K mg base 1 "_law_number" pLNumber spDigit) (Go : Cal P w K mg base 2 "_law_offset" pLOffset spLOffset) :
    CalR P w K mg base (Rm 251) "_law_side" pLSide (spLSide (fun ws => sideF ws 41) 0 0) := lside_tie T Ds (lsingle_tie T Ds D1 Dc Gd Go 41 (Nat.le_refl _))
end
end ML
set_option maxHeartbeats 4000000
namespace ML
open PySem PySem.Spec PyProof.Rows L2 TL Gn
theorem Ext.newM {GT : List Addr} {H H1 H2 : Hp} {p : Addr} (x : Ext GT [] H H1) (y : Ext GT [p] H1 H2) (hp : H p = none) : Ext GT [] H H2 := by
  have z := x.wide.trans y (M := [p])
  refine ⟨fun b o e n _ => z.keep b o e n ?_, z.tups, z.tabs, z.oth, z.dom⟩
  intro hb
  rw [List.mem_singleton] at hb
  rw [hb, hp] at e
  cases e
theorem Ext.gt {GT M : List Addr} {H H1 : Hp} (x : Ext [] M H H1) : Ext GT M H H1 :=
  ⟨x.keep, x.tups, fun p _ ⟨ps, e, t⟩ => ⟨ps, x.oth p ps e (by simp), t⟩, fun b ps e _ => x.oth b ps e (by simp), x.dom⟩
theorem SgL.extG {GT : List Addr} {H H' : Hp} {p : Addr} {l : List Str} (s : SgL H p l) (x : Ext GT [] H H') : SgL H' p l := ⟨x.lst s.at_, s.ok, s.few⟩
/-- an equation of a line, or None -/
def spEq (GT : List Addr) : Sp := fun vs H Q _ => ∃ (z : Str) (pw : Addr) (ws : List Str), vs = [.str z, .ref pw] ∧ okS z ∧ z.length ≤ 100000 ∧ SgL H pw ws ∧ (∀ z ∈ ws, z ≠ "") ∧ Tbs GT H ∧ (eqF ws (tl z) = none → ∀ H', Ext GT [] H H' → Q .non H') ∧
  ∀ a b, eqF ws (tl z) = some (a, b) → ∀ H' v, Ext GT [] H H' → DAt H' v (.tup [a.d, b.d]) → Q v H'
section
variable {P : Program} {w : World} {K : PySem.W.Frag} {mg : Str → Option Value} {base : Heap} {f c C fi : Addr} {fd fdi : FuncData} {GT : List Addr} {tp : Addr}
theorem ok_equation (F : FunC K "equation_of" "equation_of" sEquationOf f fd c) (T : Bl mg) (Gv : Gc K mg) (R : RdC K C) (Gsg : Cal P w K mg base 1 "signs_of" pSignsOf spSigns) (Mk1 : Mk K C fi) (Fi : FnOk P w K mg base CX0 1 fi fdi pReaderInit (spRInit C)) (mC : mg "Reader" = some (.ref C)) (bI : Binds K fdi pReaderInit [])
    (Gcompare : CalM P w K mg base 212 C "compare" pReaderCompare (spPar C 0 fun ws => sideF ws 41)) (Gneed : CalM P w K mg base 3 C "need" pReaderNeed (spNeed C)) (Geq : Cal P w K mg base 15 "are_equations" pAreEquations (spEqs GT)) : FnOk P w K mg base CX0 213 f fd pEquationOf (spEq GT) := by
  refine F.ok scEquationOf (fun vs H Q E h => ?_) (fun A outer s H vs Q E hr h => ?_)
  · obtain ⟨z, pw, ws, rfl, _⟩ := h
    rfl
  obtain ⟨z, pw, ws, rfl, okz, hz, hw, hne, tt, qn, qs⟩ := h
  have hMOSTSIGNS := Gv.mostSigns.choose_spec
  refine ⟨_, pss_cons (ps_set (i := 2) scEquationOf.nd rfl (.inl rfl) (pe_cal Gsg (hr.mono (by omega)) rfl (pa_cons (pv 0) pa_nil))) (pss_cons (ps_if (PW.pt (pw_or (pt_cmpR op_isN (pv 2) pe_non (nomark _)) (pw_or1 (pt_cmpR op_gt (pe_callB call_len_seq (by rfl) T.len PySem.boot_len (pa_cons (pv 2) pa_nil)) (pe_glob (v := .int 200) (by rfl) hMOSTSIGNS ⟨_, rfl⟩) (nomark _))))) (pss_one (ps_ret pe_non)) pss_nil) (pss_cons (ps_set (i := 3) scEquationOf.nd rfl (.inl rfl) (pe_make Mk1 Fi (hr.mono (by omega)) rfl mC bI .nil pass0 (pa_cons (pv 2) (pa_cons (pv 1) pa_nil)))) (pss_cons (ps_set (i := 4) scEquationOf.nd rfl (.inl rfl) (pe_calM R.cls Gcompare hr (pv 3) (pa_cons pe_int pa_nil))) (pss_cons (ps_expr (pe_calM R.cls Gneed (hr.mono (by omega)) (pv 3) (pa_cons pe_str pa_nil))) (pss_cons (ps_set (i := 5) scEquationOf.nd rfl (.inl rfl) (pe_calM R.cls Gcompare hr (pv 3) (pa_cons pe_int pa_nil))) (pss_cons (ps_if (PW.pt (pw_or (pt_val (pe_fld (pv 3) rfl)) (pw_or1 (pt_cmpR op_ne (pe_fld (pv 3) rfl) (pe_callB call_len_seq (by rfl) T.len PySem.boot_len (pa_cons (pv 2) pa_nil)) (nomark _))))) (pss_one (ps_ret pe_non)) pss_nil) (pss_one (ps_ret (pe_ifExp (pt_val (pe_cal Geq (hr.mono (by omega)) rfl (pa_cons (pe_tup (pa_cons (pe_tup (pa_cons (pv 4) (pa_cons (pv 5) pa_nil))) pa_nil)) (pa_cons (pe_callB call_len_seq (by rfl) T.len PySem.boot_len (pa_cons (pv 1) pa_nil)) pa_nil)))) (pe_tup (pa_cons (pv 4) (pa_cons (pv 5) pa_nil))) pe_non))))))))), ?_⟩
  refine ⟨_, rfl, z, rfl, hz, okz, fun e H1 x1 => ?_, fun ss e H1 p x1 hpn hp => ?_⟩
  · refine ⟨_, rfl, rfl, _, rfl, iteDT rfl (iteT ?_)⟩
    exact qn (by unfold eqF; rw [e]; rfl) H1 x1.gt
  refine ⟨_, rfl, rfl, _, rfl, iteDF (fun z => by cases z) ?_⟩
  refine ⟨_, rfl, p, _, rfl, .inl (SqL.of hp), _, _, rfl, rfl, _, rfl, ?_⟩
  have eE : eqF ws (tl z) = if ss.length ≤ 200 then pairF ws ss else none := by unfold eqF; rw [e]; rfl
  by_cases hlen : 200 < ss.length
  · refine iteDT (by rw [List.length_map]; omega) ?_
    exact qn (by rw [eE, if_neg (by omega)]) H1 x1.gt
  refine iteDF (by rw [List.length_map]; omega) ?_
  rw [if_pos (by omega)] at eE
  have sg := sg_each e
  have w1 := hw.ext x1
  rw [eE] at qn qs
  clear eE
  have eP : pairF ws ss = (sideF ws 41 ss).bind fun x => (expect "=" x.2).bind fun r => (sideF ws 41 r).bind fun y => if y.2 = [] ∧ x.1.deep ≤ 5 ∧ y.1.deep ≤ 5 then some (x.1, y.1) else none := rfl
  rw [eP] at qn qs
  refine ⟨_, rfl, _, rfl, fun pr dx hpr hdx hne2 => ?_⟩
  have hpr2 : (upd H1 dx (.own pr)) pr = none := by rw [upd_ne (fun z => hne2 z.symm)]; exact hpr
  have xm : Ext [] [] H1 (upd (upd H1 dx (.own pr)) pr (.ins C dx [])) := (Ext.new hdx).trans (.new hpr2)
  refine ⟨pr, dx, p, pw, ss, ws, rfl, upd_same, xm.lst hp, xm.lst w1.at_, by omega, fun s hs => Nat.le_trans (sg s hs).2 (by rw [← len_tl]; exact hz), fun H2 r2 x2 => ⟨rfl, ?_⟩⟩
  have xA : Ext [] [pr] H1 H2 := xm.wide.trans x2
  have hprH : H pr = none := x1.fresh hpr
  have rp2 : RP C H2 pr p pw ss ws 0 (some ss) := ⟨false, r2, .inr ⟨rfl, by rw [List.drop_zero], Nat.zero_le _⟩⟩
  generalize upd (upd H1 dx (.own pr)) pr (.ins C dx []) = HM at xm x2
  clear r2
  obtain ⟨d2, b2, e2⟩ := rp2.at_
  refine ⟨_, rfl, pr, d2, _, rfl, e2, rfl, ?_⟩
  refine ⟨pr, p, pw, ss, ws, 0, some ss, rfl, rp2, hne, fun v3 H3 k3 x3 _ r3 d3 => ?_⟩
  have es : (some ss).bind (sideF ws 41) = sideF ws 41 ss := rfl
  have r3 : RP C H3 pr p pw ss ws k3 ((sideF ws 41 ss).map (·.2)) := r3
  have d3 : ∀ x, sideF ws 41 ss = some x → DAt H3 v3 x.1.d := d3
  obtain ⟨d4, b4, e4⟩ := r3.at_
  refine ⟨_, rfl, pr, d4, _, rfl, e4, rfl, ?_⟩
  dsimp only [tCons, tC, tNil, List.cons_append, List.nil_append]
  refine need_of (s := "=") r3 (by decide) (fun H4 k4 x4 _ r4 => ?_)
  obtain ⟨d5, b5, e5⟩ := r4.at_
  refine ⟨_, rfl, pr, d5, _, rfl, e5, rfl, ?_⟩
  refine ⟨pr, p, pw, ss, ws, k4, _, rfl, r4, hne, fun v5 H5 k5 x5 _ r5 dd5 => ?_⟩
  have xB : Ext [] [pr] H1 H5 := ((xA.trans x3).trans x4).trans x5
  have xC : Ext GT [] H H5 := Ext.newM x1.gt xB.gt hprH
  obtain ⟨bb, rs, hb⟩ := r5
  obtain ⟨d6, e6⟩ := rs.at_
  refine ⟨_, rfl, pr, C, d6, _, _, rfl, e6, R.cls, R.broken, rf_broken, _, rfl, ?_⟩
  have bad : (((sideF ws 41 ss).map (·.2)).bind (expect "=")).bind (sideF ws 41) = none → ((sideF ws 41 ss).bind fun x => (expect "=" x.2).bind fun r => (sideF ws 41 r).bind fun y => if y.2 = [] ∧ x.1.deep ≤ 5 ∧ y.1.deep ≤ 5 then some (x.1, y.1) else none) = none := fun h => by
    cases e1 : sideF ws 41 ss with
    | none => rfl
    | some x =>
      rw [e1] at h
      have h : (expect "=" x.2).bind (sideF ws 41) = none := h
      show ((expect "=" x.2).bind fun r => _) = none
      cases e2 : expect "=" x.2 with
      | none => rfl
      | some r =>
        rw [e2] at h
        have h : sideF ws 41 r = none := h
        show ((sideF ws 41 r).bind fun y => _) = none
        rw [h]
        rfl
  rcases hb with ⟨rfl, hb⟩ | ⟨rfl, hb, hk⟩
  · refine iteT (iteT ?_)
    exact qn (bad (Option.map_eq_none_iff.mp hb)) H5 xC
  refine iteF ?_
  obtain ⟨y, hy, ey⟩ := Option.map_eq_some_iff.mp hb
  obtain ⟨r1, hr1, hy2⟩ := Option.bind_eq_some_iff.mp hy
  obtain ⟨q1, hq1, hr2⟩ := Option.bind_eq_some_iff.mp hr1
  obtain ⟨x, hx, rfl⟩ := Option.map_eq_some_iff.mp hq1
  have eG : ((sideF ws 41 ss).bind fun x => (expect "=" x.2).bind fun r => (sideF ws 41 r).bind fun y => if y.2 = [] ∧ x.1.deep ≤ 5 ∧ y.1.deep ≤ 5 then some (x.1, y.1) else none) = if y.2 = [] ∧ x.1.deep ≤ 5 ∧ y.1.deep ≤ 5 then some (x.1, y.1) else none := by
    simp only [hx, Option.bind_some, hr2, hy2]
  rw [eG] at qn qs
  refine ⟨_, rfl, pr, C, d6, _, _, rfl, e6, R.cls, R.place, rf_place, _, rfl, p, _, rfl, .inl (SqL.of rs.sg), rfl, _, rfl, ?_⟩
  by_cases hk2 : ¬ k5 = ss.length
  · refine iteNDF (fun z => hk2 (by rw [List.length_map] at z; injection z with z; omega)) ?_
    refine qn (if_neg fun z => hk2 ?_) H5 xC
    have := z.1
    rw [ey] at this
    have := List.drop_eq_nil_iff.mp this
    omega
  have hk2 := Classical.not_not.mp hk2
  refine iteNDT (by rw [List.length_map, hk2]) ?_
  have hy0 : y.2 = [] := by rw [ey, hk2, List.drop_length]
  have o1 := ok_side _ _ _ hx
  have o2 := ok_side _ _ _ hy2
  have dx5 := ((d3 x hx).ext x4).ext x5
  have dy5 := dd5 y hy
  refine ⟨_, rfl, _, rfl, (by show 2 ≤ sizeLine; decide), fun pa hpa => ⟨(by show 1 ≤ sizeLine; decide), fun pb hpb => ?_⟩⟩
  have ya : Ext GT [] H5 (upd H5 pa (.tup [v3, v5])) := .new hpa
  have yb : Ext GT [] (upd H5 pa (.tup [v3, v5])) (upd (upd H5 pa (.tup [v3, v5])) pb (.tup [.ref pa])) := .new hpb
  have da : DAt (upd (upd H5 pa (.tup [v3, v5])) pb (.tup [.ref pa])) (.ref pa) (.tup [x.1.d, y.1.d]) := .mk2 (yb.tups _ _ upd_same) ((dx5.ext ya).ext yb) ((dy5.ext ya).ext yb)
  refine ⟨_, rfl, pw, _, rfl, .inl (SqL.of ((ya.trans yb).lst rs.wd)), ?_⟩
  have xD := (xC.trans ya).trans yb
  refine ⟨.ref pb, [(x.1, y.1)], ws.length, by rw [List.length_map]; rfl, ?_, ?_, (by show 1 ≤ 6; decide), tt.ext xD, fun H6 x6 => ?_⟩
  · exact .ofAll upd_same (.cons da .nil)
  · intro e' he'
    rw [List.mem_singleton.mp he']
    exact ⟨o1, o2⟩
  have ed : decide (∀ e ∈ [(x.1, y.1)], e.1.deep ≤ 5 ∧ e.2.deep ≤ 5) = decide (x.1.deep ≤ 5 ∧ y.1.deep ≤ 5) := by simp
  rw [ed]
  refine ⟨_, rfl, ?_⟩
  have xE := xD.trans x6
  refine iteD (fun hd => ?_) (fun hd => ?_)
  · rw [if_pos ⟨hy0, hd⟩] at qs
    refine ⟨_, rfl, _, rfl, (by show 2 ≤ sizeLine; decide), fun pz hpz => ?_⟩
    have yz : Ext GT [] H6 (upd H6 pz (.tup [v3, v5])) := .new hpz
    exact qs x.1 y.1 rfl _ _ (xE.trans yz) (.mk2 upd_same ((((dx5.ext ya).ext yb).ext x6).ext yz) ((((dy5.ext ya).ext yb).ext x6).ext yz))
  · exact qn (if_neg fun z => hd z.2) H6 xE
end
end ML
set_option maxHeartbeats 4000000
namespace ML
open PySem PySem.Spec PyProof.Rows L2 TL Gn
/-! ### a text split at one sign -/
theorem splitC_ne (s : Nat) : ∀ l : List Nat, splitC s l ≠ []
  | [] => by simp [splitC]
  | c :: r => by
    unfold splitC
    split
    · simp
    · have := splitC_ne s r
      split <;> simp
theorem spl_C (s : Nat) : ∀ (l acc : List Nat), ∃ h t, splitC s l = h :: t ∧ spl [s] 0 acc l = (acc ++ h) :: t
  | [], acc => ⟨[], [], rfl, by rw [spl_nil, List.append_nil]⟩
  | c :: r, acc => by
    by_cases e : c = s
    · subst e
      obtain ⟨h, t, e1, e2⟩ := spl_C c r []
      refine ⟨[], splitC c r, by simp [splitC], ?_⟩
      rw [spl_hit (by simp [TL.pre]), show [c].length - 1 = 0 from rfl, e2, e1, List.append_nil, List.nil_append]
    · obtain ⟨h, t, e1, e2⟩ := spl_C s r (acc ++ [c])
      refine ⟨c :: h, t, ?_, ?_⟩
      · unfold splitC
        rw [if_neg e, e1]
      · rw [spl_miss (by simp [TL.pre, e]), e2, List.append_assoc]
        rfl
theorem split_C {z y : Str} {s : Nat} (hy : tl y = [s]) (hs : s < 256) : Txt.split z y = (splitC s (tl z)).map S := by
  have h := split_spl z y (by rw [hy]; simp) (kind_ok (by
    rw [Array.all_eq_true_iff_forall_mem]
    intro x hx
    have : x ∈ tl y := by simpa [tl] using hx
    rw [hy, List.mem_singleton] at this
    simp [this, hs]))
  rw [hy] at h
  obtain ⟨h1, t, e1, e2⟩ := spl_C s (tl z) []
  rw [e2, List.nil_append, ← e1] at h
  have := congrArg (List.map S) h
  rw [List.map_map] at this
  rw [← this, show S ∘ tl = id from funext S_tl, List.map_id]
theorem splitC_len (s : Nat) : ∀ l : List Nat, (splitC s l).length ≤ l.length + 1
  | [] => by simp [splitC]
  | c :: r => by
    have ih := splitC_len s r
    unfold splitC
    split
    · simp only [List.length_cons]; omega
    · split
      · simp
      · rename_i h t e
        rw [e] at ih
        simp only [List.length_cons] at ih ⊢
        omega
theorem splitC_mem (s : Nat) : ∀ (l : List Nat), ∀ p ∈ splitC s l, (∀ c ∈ p, c ∈ l) ∧ p.length ≤ l.length
  | [], p, h => by
    simp only [splitC, List.mem_singleton] at h
    subst h
    exact ⟨fun c hc => hc, Nat.le_refl _⟩
  | c :: r, p, h => by
    unfold splitC at h
    split at h
    · rcases List.mem_cons.mp h with rfl | h
      · exact ⟨fun c hc => by (cases hc), Nat.zero_le _⟩
      · obtain ⟨a, b⟩ := splitC_mem s r p h
        exact ⟨fun x hx => List.mem_cons_of_mem _ (a x hx), by rw [List.length_cons]; omega⟩
    · split at h
      · rw [List.mem_singleton.mp h]
        exact ⟨fun x hx => by rw [List.mem_singleton.mp hx]; exact List.mem_cons_self, by simp⟩
      · rename_i h1 t e
        rcases List.mem_cons.mp h with rfl | h
        · obtain ⟨a, b⟩ := splitC_mem s r h1 (by rw [e]; exact List.mem_cons_self)
          refine ⟨fun x hx => ?_, by simp only [List.length_cons]; omega⟩
          rcases List.mem_cons.mp hx with rfl | hx
          · exact List.mem_cons_self
          · exact List.mem_cons_of_mem _ (a x hx)
        · obtain ⟨a, b⟩ := splitC_mem s r p (by rw [e]; exact List.mem_cons_of_mem _ h)
          exact ⟨fun x hx => List.mem_cons_of_mem _ (a x hx), by rw [List.length_cons]; omega⟩
theorem splitC_ok {s : Nat} {z : Str} (h : okS z) : ∀ p ∈ splitC s (tl z), okS (S p) ∧ (S p).length ≤ z.length := fun p hp => by
  obtain ⟨a, b⟩ := splitC_mem s (tl z) p hp
  exact ⟨okS_iff.mpr fun c hc => okS_iff.mp h c (a c hc), by rw [len_tl, len_tl]; exact b⟩
theorem tl_sp : tl (" " : Str) = [32] := by decide
theorem tl_nl : tl ("\n" : Str) = [10] := by decide
theorem S_inj {a b : List Nat} (h : S a = S b) : a = b := congrArg tl h
end ML
set_option maxHeartbeats 4000000
namespace ML
open PySem PySem.Spec PyProof.Rows L2 TL Gn
def spName (GT : List Addr) : Sp := fun vs H Q _ => ∃ (z : Str) (pw : Addr) (ws : List Str), vs = [.str z, .ref pw] ∧ okS z ∧ z.length ≤ 100000 ∧ SgL H pw ws ∧ Tbs GT H ∧ (nameF ws (tl z) = none → ∀ H', Ext GT [] H H' → Q .non H') ∧
  ∀ a v f, nameF ws (tl z) = some (a, v, f) → ∀ H' v0, Ext GT [] H H' → DAt H' v0 (.tup [.str a, .tup [.int (v : Nat), .int (f : Nat)]]) → Q v0 H'
def spToldL (GT : List Addr) : Sp := fun vs H Q _ => ∃ (z : Str) (pw : Addr) (ws : List Str), vs = [.str z, .ref pw] ∧ okS z ∧ z.length ≤ 100000 ∧ SgL H pw ws ∧ Tbs GT H ∧ (toldF ws (tl z) = none → ∀ H', Ext GT [] H H' → Q .non H') ∧
  ∀ l, toldF ws (tl z) = some l → ∀ H' v0, Ext GT [] H H' → DAt H' v0 (toldD l) → Q v0 H'
theorem name_parts {ws : List Str} {l : List Nat} {a b c d e : List Nat} (h : splitC 32 l = [a, b, c, d, e]) : nameF ws l = if S a = "name" ∧ S d = "from" ∧ isWordF (S b) = true ∧ S b ∉ ws then (match digitF (S c) 2 3 with
      | none => none
      | some v => (digitF (S e) 0 (v - 1)).map fun f => (S b, v.toNat, f.toNat)) else none := by
  unfold nameF
  rw [h] <;> rfl
theorem name_len {ws : List Str} {l : List Nat} (h : (splitC 32 l).length ≠ 5) : nameF ws l = none := by
  unfold nameF
  split
  · rename_i e
    rw [e] at h
    exact absurd rfl h
  · rfl
theorem ifq {t ta tb : TE} {σ : L2.St} {H : Hp} {Q : VK} (h : ∀ Q' : VK, (∀ b H', (if b = true then ta σ H' Q else tb σ H' Q) → Q' (.bl b) H') → t σ H Q') : tIf (tB t) ta tb σ H Q := h _ fun b H' q => ⟨b, rfl, by cases b <;> exact q⟩
theorem rising_snoc : ∀ {l : List Nat} {i a b : Nat}, l[i]? = some a → l[i + 1]? = some b → rising (l.take (i + 1 + 1)) = (rising (l.take (i + 1)) && decide (a < b))
  | [], i, a, b, h, _ => by simp at h
  | [x], i, a, b, _, h => by simp at h
  | x :: y :: r, 0, a, b, h1, h2 => by
    cases h1
    cases h2
    simp [rising]
  | x :: y :: r, i + 1, a, b, h1, h2 => by
    have ih := rising_snoc (l := y :: r) (i := i) h1 h2
    simp only [List.take_succ_cons] at ih ⊢
    cases i with
    | zero =>
      simp only [rising, ih] at *
      simp only [List.take_succ_cons, rising, ih, Bool.and_assoc]
    | succ i =>
      simp only [List.take_succ_cons, rising, ih, Bool.and_assoc] at *
theorem rising_take : ∀ {l : List Nat} (n : Nat), rising l = true → rising (l.take n) = true
  | [], n, _ => by simp [rising]
  | [x], n, _ => by cases n <;> simp [rising]
  | x :: y :: r, 0, _ => rfl
  | x :: y :: r, 1, _ => rfl
  | x :: y :: r, n + 2, h => by
    simp only [rising, Bool.and_eq_true] at h
    have ih := rising_take (l := y :: r) (n + 1) h.2
    simp only [List.take_succ_cons] at ih ⊢
    simp only [rising, Bool.and_eq_true]
    exact ⟨h.1, ih⟩
section
variable {P : Program} {w : World} {K : PySem.W.Frag} {mg : Str → Option Value} {base : Heap} {f c C fi : Addr} {fd fdi : FuncData} {GT : List Addr} {tp : Addr}
theorem ok_name (F : FunC K "name_of" "name_of" sNameOf f fd c) (T : Bl mg) (Gw : Cal P w K mg base 2 "is_word" pIsWord (spIsWord GT)) (Gd : Cal P w K mg base 1 "digit" pDigit spDigit) : FnOk P w K mg base CX0 3 f fd pNameOf (spName GT) := by
  refine F.ok scNameOf (fun vs H Q E h => ?_) (fun A outer s H vs Q E hr h => ?_)
  · obtain ⟨z, pw, ws, rfl, _⟩ := h
    rfl
  obtain ⟨z, pw, ws, rfl, okz, hz, hw, tt, qn, qs⟩ := h
  refine ⟨_, pss_cons (ps_set (i := 2) scNameOf.nd rfl (.inl rfl) (pe_split (pv 0) pe_str)) (pss_cons (ps_if (PW.pt (pw_or (pt_cmpR op_ne (pe_callB call_len_seq (by rfl) T.len PySem.boot_len (pa_cons (pv 2) pa_nil)) pe_int (nomark _)) (pw_or (pt_cmpR op_ne (pe_ix ix_list (pv 2) pe_int (fun _ _ => rfl)) pe_str (nomark _)) (pw_or (pt_cmpR op_ne (pe_ix ix_list (pv 2) pe_int (fun _ _ => rfl)) pe_str (nomark _)) (pw_or (pt_not (pt_val (pe_cal Gw (hr.mono (by omega)) rfl (pa_cons (pe_ix ix_list (pv 2) pe_int (fun _ _ => rfl)) pa_nil)))) (pw_or1 (pt_cmpR op_in_seq (pe_ix ix_list (pv 2) pe_int (fun _ _ => rfl)) (pv 1) (by rfl)))))))) (pss_one (ps_ret pe_non)) pss_nil) (pss_cons (ps_set (i := 3) scNameOf.nd rfl (.inl rfl) (pe_cal Gd (hr.mono (by omega)) rfl (pa_cons (pe_ix ix_list (pv 2) pe_int (fun _ _ => rfl)) (pa_cons pe_int (pa_cons pe_int pa_nil))))) (pss_cons (ps_set (i := 4) scNameOf.nd rfl (.inl rfl) (pe_ifExp (pt_cmpR op_notN (pv 3) pe_non (nomark _)) (pe_cal Gd (hr.mono (by omega)) rfl (pa_cons (pe_ix ix_list (pv 2) pe_int (fun _ _ => rfl)) (pa_cons pe_int (pa_cons (pe_op op_sub (pv 3) pe_int) pa_nil)))) pe_non)) (pss_one (ps_ret (pe_ifExp (pt_cmpR op_isN (pv 4) pe_non (nomark _)) pe_non (pe_tup (pa_cons (pe_ix ix_list (pv 2) pe_int (fun _ _ => rfl)) (pa_cons (pe_tup (pa_cons (pv 3) (pa_cons (pv 4) pa_nil))) pa_nil))))))))), ?_⟩
  refine ⟨_, rfl, ⟨_, rfl⟩, z, _, rfl, rfl, (by decide), (by exact line100 (by omega)), fun p hp => ?_⟩
  rw [split_C tl_sp (by decide)]
  have x1 : Ext GT [] H (upd H p (.lst (((splitC 32 (tl z)).map S).map V.str))) := .new hp
  have e1 : (upd H p (.lst (((splitC 32 (tl z)).map S).map V.str))) p = some (.lst (((splitC 32 (tl z)).map S).map V.str)) := upd_same
  generalize upd H p (.lst (((splitC 32 (tl z)).map S).map V.str)) = H1 at x1 e1 ⊢
  have pok := splitC_ok (s := 32) okz
  refine ⟨_, rfl, p, _, rfl, .inl (SqL.of e1), rfl, _, rfl, ?_⟩
  by_cases h5 : ¬ (splitC 32 (tl z)).length = 5
  · refine iteNDF (fun h => h5 (by rw [List.length_map, List.length_map] at h; injection h with h; omega)) (iteT ?_)
    exact qn (name_len h5) H1 x1
  have h5 := Classical.not_not.mp h5
  refine iteNDT (by rw [List.length_map, List.length_map, h5]; rfl) ?_
  obtain ⟨a, b, c1, d, e, hs⟩ : ∃ a b c d e, splitC 32 (tl z) = [a, b, c, d, e] := by
    match splitC 32 (tl z), h5 with
    | [a, b, c, d, e], _ => exact ⟨a, b, c, d, e, rfl⟩
  rw [hs] at e1 pok
  rw [name_parts hs] at qn qs
  refine ⟨_, rfl, p, _, _, _, rfl, rfl, SqL.of e1, atI_nat (j := 0) rfl, rfl, _, rfl, ?_⟩
  by_cases ha : ¬ S a = Str.ofString "name"
  · refine iteNDF (fun h => ha (by injection h)) (iteT ?_)
    exact qn (if_neg fun z => ha z.1) H1 x1
  have ha := Classical.not_not.mp ha
  refine iteNDT (by rw [ha]) ?_
  refine ⟨_, rfl, p, _, _, _, rfl, rfl, SqL.of e1, atI_nat (j := 3) rfl, rfl, _, rfl, ?_⟩
  by_cases hd : ¬ S d = Str.ofString "from"
  · refine iteNDF (fun h => hd (by injection h)) (iteT ?_)
    exact qn (if_neg fun z => hd z.2.1) H1 x1
  have hd := Classical.not_not.mp hd
  refine iteNDT (by rw [hd]) ?_
  have lb := pok b (by simp)
  refine ⟨_, rfl, p, _, _, _, rfl, rfl, SqL.of e1, atI_nat (j := 1) rfl, .str (S b), rfl, tt.ext x1, .inl ⟨S b, rfl, by omega, fun H2 x2 => ?_⟩⟩
  have xA := x1.trans x2
  have e2 := x2.lst e1
  refine ⟨_, rfl, ?_⟩
  cases hb : isWordF (S b) with
  | false =>
    refine iteT (iteT ?_)
    exact qn (if_neg fun z => by rw [hb] at z; exact absurd z.2.2.1 (by decide)) H2 xA
  | true =>
    refine iteF ?_
    have w2 := hw.extG xA
    refine ⟨_, rfl, p, _, _, _, rfl, rfl, SqL.of e2, atI_nat (j := 1) rfl, _, rfl, pw, _, rfl, .inl (SqL.of w2.at_), rfl, ?_, _, rfl, ?_⟩
    · simp [flatV]
    show if (inV (V.str (S b)) (ws.map V.str)) = true then _ else _
    rw [inV_str]
    by_cases hm : S b ∈ ws
    · refine iteDT hm ?_
      exact qn (if_neg fun z => z.2.2.2 hm) H2 xA
    refine iteDF hm ?_
    rw [if_pos ⟨ha, hd, hb, hm⟩] at qn qs
    have lc := pok c1 (by simp)
    have le := pok e (by simp)
    refine ⟨_, rfl, p, _, _, _, rfl, rfl, SqL.of e2, atI_nat (j := 2) rfl, S c1, 2, 3, rfl, by omega, ?_⟩
    cases hv : digitF (S c1) 2 3 with
    | none =>
      rw [hv] at qn
      refine ⟨_, rfl, rfl, _, rfl, iteNDT rfl ?_⟩
      refine ⟨_, rfl, rfl, _, rfl, iteDT rfl ?_⟩
      exact qn rfl H2 xA
    | some v =>
      rw [hv] at qn qs
      simp only at qn qs
      have hr := digit_rng hv
      refine ⟨_, rfl, rfl, _, rfl, iteNDF (fun z => by cases z) ?_⟩
      refine ⟨_, rfl, p, _, _, _, rfl, rfl, SqL.of e2, atI_nat (j := 4) rfl, _, rfl, _, _, rfl, rfl, S e, 0, v - 1, rfl, by omega, ?_⟩
      cases hf : digitF (S e) 0 (v - 1) with
      | none =>
        rw [hf] at qn
        refine ⟨_, rfl, rfl, _, rfl, iteDT rfl ?_⟩
        exact qn rfl H2 xA
      | some g =>
        rw [hf] at qs
        have hg := digit_rng hf
        refine ⟨_, rfl, rfl, _, rfl, iteDF (fun z => by cases z) ?_⟩
        refine ⟨_, rfl, p, _, _, _, rfl, rfl, SqL.of e2, atI_nat (j := 1) rfl, _, rfl, _, rfl, (by show 2 ≤ sizeLine; decide), fun pa hpa => ⟨(by show 2 ≤ sizeLine; decide), fun pb hpb => ?_⟩⟩
        have ya : Ext GT [] H2 (upd H2 pa (.tup [.int v, .int g])) := .new hpa
        refine qs (S b) v.toNat g.toNat rfl _ _ ((xA.trans ya).trans (.new hpb)) (.mk2 upd_same (.str _) ?_)
        rw [show ((v.toNat : Nat) : Int) = v by omega, show ((g.toNat : Nat) : Int) = g by omega]
        exact DAt.ext (Ext.new (GT := GT) (M := []) hpb) (.mk2 upd_same (.int _) (.int _))
theorem ok_toldL (F : FunC K "told_line" "told_line" sToldLine f fd c) (T : Bl mg) (TB : LamX.TabB base mg c tp) (hP : tp ∈ GT) : FnOk P w K mg base CX0 2 f fd pToldLine (spToldL GT) := by
  refine F.ok scToldLine (fun vs H Q E h => ?_) (fun A outer s H vs Q E hr h => ?_)
  · obtain ⟨z, pw, ws, rfl, _⟩ := h
    rfl
  obtain ⟨z, pw, ws, rfl, okz, hz, hw, tt, qn, qs⟩ := h
  refine ⟨_, pss_cons (ps_set (i := 2) scToldLine.nd rfl (.inl rfl) (pe_split (pv 0) pe_str)) (pss_cons (ps_if (PW.pt (pw_or (pt_cmpR op_ne (pe_ix ix_list (pv 2) pe_int (fun _ _ => rfl)) pe_str (nomark _)) (pw_or (pt_cmpR op_lt (pe_callB call_len_seq (by rfl) T.len PySem.boot_len (pa_cons (pv 2) pa_nil)) pe_int (nomark _)) (pw_or1 (pt_not (pt_val (pe_allG (own := [("part", 4)]) (k := 0) hr rfl scToldLine.nd (by rfl) T.all TB rfl (gblk_by (N := nToldLine) (sc := defScope sToldLine) (by decide +kernel)) (pi_list (pe_slice sl_list (pv 2) (po_some pe_int) po_none)) (fun A' s' H' cl C' code bi fp hr' => pg_name (i := 4) scToldLine.nd rfl (.inl rfl)) (fun A' s' H' cl C' code bi fp hr' => pe_cmpR (op_in_seqK (K := K)) (pv 4) (pv 1) (by rfl))))))))) (pss_one (ps_ret pe_non)) pss_nil) (pss_cons (ps_set (i := 3) scToldLine.nd rfl (.inl rfl) (pe_callTy call_tuple_of (by rfl) T.tuple boot_tuple (pa_cons (pe_lc (own := [("part", 4)]) rfl scToldLine.nd (pi_list (pe_slice sl_list (pv 2) (po_some pe_int) po_none)) (blkOk_by (own := [("part", 4)]) (N := nToldLine) (sc := defScope sToldLine) (by decide +kernel)) (fun _ _ _ _ _ => pg_name (i := 4) scToldLine.nd rfl (.inl rfl)) (fun _ _ _ _ _ => pts_nil) (fun _ _ _ _ _ => pe_bmK (K := K) PySem.F.plainAttrs_list PySem.F.slot_list_index PySem.F.type_list_index (mt_indexK (K := K)) (pv 1) (pa_cons (pv 4) pa_nil))) pa_nil))) (pss_one (ps_ret (pe_ifExp (pt_val (pe_allG (own := [("one", 5), ("other", 6)]) (g := gTup K 2 (gCons (gName 5) (gCons (gName 6) gNil))) (k := 0) hr rfl scToldLine.nd (by rfl) T.all TB rfl (gblk_by (N := nToldLine) (sc := defScope sToldLine) (by decide +kernel)) (RZ.pi_zipA (by rfl) T.zip (pa_cons (pv 3) (pa_cons (pe_slice sl_tup (pv 3) (po_some pe_int) po_none) pa_nil))) (fun A' s' H' cl C' code bi fp hr' => pg_tup rfl (pgs_cons (pg_name (i := 5) scToldLine.nd rfl (.inl rfl)) (pgs_cons (pg_name (i := 6) scToldLine.nd rfl (.inl rfl)) pgs_nil))) (fun A' s' H' cl C' code bi fp hr' => pe_cmpR op_lt (pv 5) (pv 6) (nomark _)))) (pv 3) pe_non))))), ?_⟩
  refine ⟨_, rfl, ⟨_, rfl⟩, z, _, rfl, rfl, (by decide), (by exact line100 (by omega)), fun p hp => ?_⟩
  rw [split_C tl_sp (by decide)]
  have x1 : Ext GT [] H (upd H p (.lst (((splitC 32 (tl z)).map S).map V.str))) := .new hp
  have e1 : (upd H p (.lst (((splitC 32 (tl z)).map S).map V.str))) p = some (.lst (((splitC 32 (tl z)).map S).map V.str)) := upd_same
  generalize upd H p (.lst (((splitC 32 (tl z)).map S).map V.str)) = H1 at x1 e1 ⊢
  have pok := splitC_ok (s := 32) okz
  have plen := splitC_len 32 (tl z)
  rw [← len_tl] at plen
  obtain ⟨a, r, hs⟩ : ∃ a r, splitC 32 (tl z) = a :: r := by
    cases h : splitC 32 (tl z) with
    | nil => exact absurd h (splitC_ne _ _)
    | cons a r => exact ⟨a, r, rfl⟩
  rw [hs] at e1 pok plen
  have eT : toldF ws (tl z) = if S a = "tells" ∧ r ≠ [] ∧ (∀ x ∈ r, S x ∈ ws) ∧ rising (r.map fun x => ws.idxOf (S x)) = true then some (r.map fun x => ws.idxOf (S x)) else none := by
    unfold toldF
    rw [hs]
  rw [eT] at qn qs
  refine ⟨_, rfl, p, _, _, _, rfl, rfl, SqL.of e1, atI_nat (j := 0) rfl, rfl, _, rfl, ?_⟩
  by_cases ha : ¬ S a = Str.ofString "tells"
  · refine iteNDF (fun h => ha (by injection h)) (iteT ?_)
    exact qn (if_neg fun z => ha z.1) H1 x1
  have ha := Classical.not_not.mp ha
  refine iteNDT (by rw [ha]) ?_
  refine ⟨_, rfl, p, _, rfl, .inl (SqL.of e1), _, _, rfl, rfl, _, rfl, ?_⟩
  cases r with
  | nil =>
    refine iteDT (by show ((1 : Nat) : Int) < 2; decide) (iteT ?_)
    exact qn (if_neg fun z => z.2.1 rfl) H1 x1
  | cons b r =>
    refine iteDF (by rw [List.length_map, List.length_map, List.length_cons, List.length_cons]; omega) ?_
    refine not_q fun Q' hQ => ?_
    refine ⟨_, rfl, _, rfl, p, _, rfl, SqL.of e1, fun p2 hp2 => ?_⟩
    have ec : cutV (((a :: b :: r).map S).map V.str) (some 1) none = ((b :: r).map S).map V.str := by
      rw [show (some (1 : Int)) = some ((1 : Nat) : Int) from rfl, cutStr_from]
      rfl
    rw [ec]
    have x2 : Ext GT [] H1 (upd H1 p2 (.lst (((b :: r).map S).map V.str))) := .new hp2
    have e2 : (upd H1 p2 (.lst (((b :: r).map S).map V.str))) p2 = some (.lst (((b :: r).map S).map V.str)) := upd_same
    generalize upd H1 p2 (.lst (((b :: r).map S).map V.str)) = H2 at x2 e2 ⊢
    have xA := x1.trans x2
    have t2 := tt.ext xA
    refine ⟨p2, rfl, ⟨_, SqL.of e2⟩, ?_⟩
    refine allG_lst (xs := ((b :: r).map S).map V.str) (fun i H' => Ext GT [] H H' ∧ Ext GT [] H2 H' ∧ ∀ x ∈ (b :: r).take i, S x ∈ ws) (t2 tp hP) (fun H3 htb => ⟨xA.trans (Ext.tabbed htb (t2 tp hP) hP), Ext.tabbed htb (t2 tp hP) hP, by simp⟩) (fun i H' hi hv => SqL.of (hv.2.1.lst e2)) (fun x => by rfl) (fun i x H' hi hv => ?_) (fun H3 hv => ?_)
    · obtain ⟨xv, yv, hall⟩ := hv
      rw [List.getElem?_map] at hi
      obtain ⟨sx, hsx, rfl⟩ := Option.map_eq_some_iff.mp hi
      rw [List.getElem?_map] at hsx
      obtain ⟨lx, hlx, rfl⟩ := Option.map_eq_some_iff.mp hsx
      have w3 := hw.extG xv
      refine ⟨_, rfl, _, rfl, pw, _, rfl, .inl (SqL.of w3.at_), rfl, ?_, _, rfl, ?_⟩
      · simp [flatV]
      show if (inV (V.str (S lx)) (ws.map V.str)) = true then _ else _
      rw [inV_str]
      refine iteD (fun hm => ⟨xv, yv, ?_⟩) (fun hm => ?_)
      · intro x hx
        rw [List.take_add_one, hlx] at hx
        rcases List.mem_append.mp hx with z | z
        · exact hall x z
        · rw [List.mem_singleton.mp z]
          exact hm
      · refine hQ _ _ (iteT ?_)
        exact qn (if_neg fun z => hm (z.2.2.1 lx (List.mem_of_getElem? hlx))) H' xv
    · obtain ⟨xv, yv, hall⟩ := hv
      rw [List.length_map, List.length_map, List.take_length] at hall
      refine hQ _ _ (iteF ?_)
      have e3 := (x2.trans yv).lst e1
      have w3 := hw.extG xv
      refine ⟨_, rfl, _, rfl, p, _, rfl, SqL.of e3, fun p4 hp4 => ?_⟩
      rw [ec]
      have x4 : Ext GT [] H3 (upd H3 p4 (.lst (((b :: r).map S).map V.str))) := .new hp4
      have e4 : (upd H3 p4 (.lst (((b :: r).map S).map V.str))) p4 = some (.lst (((b :: r).map S).map V.str)) := upd_same
      generalize upd H3 p4 (.lst (((b :: r).map S).map V.str)) = H4 at x4 e4 ⊢
      have w4 := w3.extG x4
      refine ⟨p4, rfl, ⟨_, SqL.of e4⟩, fun D0 hD => ?_⟩
      refine lc_list (Acc GT [] H4 D0 (fun i ds => ds = ((b :: r).take i).map fun x => D.int (ws.idxOf (S x) : Nat))) (acc0 hD rfl) (fun i H5 hi ac => SqL.of (ac.ext.lst e4)) (fun i x H5 hx ac => ?_) (fun H5 ac => ?_)
      · rw [List.getElem?_map] at hx
        obtain ⟨sx, hsx, rfl⟩ := Option.map_eq_some_iff.mp hx
        rw [List.getElem?_map] at hsx
        obtain ⟨lx, hlx, rfl⟩ := Option.map_eq_some_iff.mp hsx
        have hm := hall lx (List.mem_of_getElem? hlx)
        have hi : i < 1000000 := by
          have := (List.getElem?_eq_some_iff.mp hlx).1
          simp only [List.length_cons] at this plen
          omega
        have w5 := w4.extG ac.ext
        refine ⟨rfl, _, rfl, .inl ⟨rfl, _, SqL.of w5.at_⟩, _, rfl, pw, _, _, ws.idxOf (S lx), _, rfl, rfl, SqL.of w5.at_, rfl, ?_, (by rw [List.getElem?_map, idx_at hm]; rfl), ?_, ?_, ?_⟩
        · simp [flatV]
        · simp [eqV]
        · intro m z' hmm hz
          rw [List.getElem?_map] at hz
          obtain ⟨y, hy, rfl⟩ := Option.map_eq_some_iff.mp hz
          have : y ≠ S lx := fun z => idx_first hmm (by rw [hy, z])
          simp [eqV, this]
        exact ac.step hD (by simp) hi .refl (.int _) fun ds e => map_Gs (f := fun x => D.int (ws.idxOf (S x) : Nat)) hlx e
      · obtain ⟨⟨ds, ⟨ys, ey, ay⟩, g, _⟩, x5⟩ := ac
        have g : ds = ((b :: r).take (((b :: r).map S).map V.str).length).map fun x => D.int (ws.idxOf (S x) : Nat) := g
        rw [List.length_map, List.length_map, List.take_length] at g
        subst g
        obtain ⟨tl0, htl⟩ : ∃ tl0 : List Nat, tl0 = (b :: r).map fun x => ws.idxOf (S x) := ⟨_, rfl⟩
        have ey2 : ys = tl0.map fun (i : Nat) => V.int i := by
          have := allD_intI (zs := tl0.map fun (i : Nat) => (i : Int)) (H := H5) (xs := ys) (by rw [htl, List.map_map, List.map_map]; exact ay)
          rw [this, List.map_map]
          rfl
        subst ey2
        have tlen : tl0.length = r.length + 1 := by rw [htl, List.length_map]; rfl
        rw [← htl] at qn qs
        refine ⟨D0, _, rfl, .inl ⟨SqL.of ey, fun pt hpt => ?_⟩⟩
        have x6 : Ext GT [] H5 (upd H5 pt (.tup (tl0.map fun (i : Nat) => V.int i))) := .new hpt
        have e6 : (upd H5 pt (.tup (tl0.map fun (i : Nat) => V.int i))) pt = some (.tup (tl0.map fun (i : Nat) => V.int i)) := upd_same
        generalize upd H5 pt (.tup (tl0.map fun (i : Nat) => V.int i)) = H6 at x6 e6 ⊢
        have xB := (((xv.trans x4).trans x5).trans x6)
        have dT : ∀ H', Ext GT [] H6 H' → DAt H' (.ref pt) (toldD tl0) := fun H' x => .ofAll (x.tups _ _ e6) (by
          have := allD_int (H := H') (zs := tl0.map fun (i : Nat) => (i : Int))
          rw [List.map_map, List.map_map] at this
          exact this)
        dsimp only [gName, tRet]
        refine ifq fun Q2 hQ2 => ?_
        refine ⟨_, rfl, _, rfl, _, rfl, pt, _, rfl, SqT.of e6, ?_, fun p7 hp7 => ?_⟩
        · intro z
          have z1 : HT.sIx (tl0.map fun (i : Nat) => V.int i).length 0 (some ((1 : Nat) : Int)) = 0 := z.1
          rw [HT.sIx_nat, List.length_map, tlen] at z1
          omega
        have ec7 : cutV (tl0.map fun (i : Nat) => V.int i) (some 1) none = (tl0.drop 1).map fun (i : Nat) => V.int i := by
          rw [show (some (1 : Int)) = some ((1 : Nat) : Int) from rfl, cut_from, List.map_drop]
        rw [ec7]
        have x7 : Ext GT [] H6 (upd H6 p7 (.tup ((tl0.drop 1).map fun (i : Nat) => V.int i))) := .new hp7
        have e7 : (upd H6 p7 (.tup ((tl0.drop 1).map fun (i : Nat) => V.int i))) p7 = some (.tup ((tl0.drop 1).map fun (i : Nat) => V.int i)) := upd_same
        generalize upd H6 p7 (.tup ((tl0.drop 1).map fun (i : Nat) => V.int i)) = H7 at x7 e7 ⊢
        have xC := xB.trans x7
        have t7 := tt.ext xC
        refine ⟨pt, p7, _, _, rfl, .inr ⟨SqT.of (x7.tups _ _ e6), SqT.of e7, ?_⟩⟩
        refine allG_zipT (xs := tl0.map fun (i : Nat) => V.int i) (ys := (tl0.drop 1).map fun (i : Nat) => V.int i) (fun i H' => Ext GT [] H7 H' ∧ rising (tl0.take (i + 1)) = true) (t7 tp hP)
          (fun H2 htb => ⟨Ext.tabbed htb (t7 tp hP) hP, by cases tl0 <;> rfl⟩) (fun i H' hi hv => ⟨SqT.of ((x7.trans hv.1).tups _ _ e6), SqT.of (hv.1.tups _ _ e7)⟩) (by rw [List.length_map, List.length_map, List.length_drop]; omega) (fun x y => by rfl)
          (fun i H' T o hv hn => ⟨hv.1.trans (.new hn), hv.2⟩) (fun i x y H' hx hy hv => ?_) (fun H' hv => ?_)
        · obtain ⟨y7, hri⟩ := hv
          rw [List.getElem?_map] at hx hy
          obtain ⟨a1, ha1, rfl⟩ := Option.map_eq_some_iff.mp hx
          obtain ⟨b1, hb1, rfl⟩ := Option.map_eq_some_iff.mp hy
          rw [List.getElem?_drop, Nat.add_comm] at hb1
          refine ⟨_, rfl, _, rfl, _, _, rfl, rfl, _, rfl, ?_⟩
          refine iteD (fun hlt => ⟨y7, ?_⟩) (fun hlt => ?_)
          · rw [rising_snoc ha1 hb1, hri]
            simp
            omega
          · refine hQ2 _ _ (iteF ?_)
            refine qn (if_neg fun z => ?_) H' (xC.trans y7)
            have := rising_take (i + 1 + 1) z.2.2.2
            rw [rising_snoc ha1 hb1] at this
            simp only [Bool.and_eq_true, decide_eq_true_eq] at this
            omega
        · obtain ⟨y7, hri⟩ := hv
          rw [List.length_map, List.length_drop, tlen, Nat.add_sub_cancel, List.take_of_length_le (by omega)] at hri
          refine hQ2 _ _ (iteT ?_)
          exact ⟨_, rfl, qs tl0 (if_pos ⟨ha, by simp, hall, hri⟩) H' (.ref pt) (xC.trans y7) (dT _ (x7.trans y7))⟩
end
end ML
set_option maxHeartbeats 4000000
namespace ML
open PySem PySem.Spec PyProof.Rows L2 TL Gn
structure BTc (K : PySem.W.Frag) (mg : Str → Option Value) (C fI : Addr) : Prop where
  oc : OexC K C
  ic : PySem.W.findIn K (.ref C) "__init__" = some (some (.ref fI))
  ti : PySem.W.typeIn K (.ref fI) = some (.type "function")
  m : mg "BadText" = some (.ref C)
  nl : PySem.W.findIn K (.ref C) "line" = some none
def spBTI (C : Addr) : Sp := fun vs H Q _ => ∃ (a : Addr) (k : Int), vs = [.ref a, .int k] ∧ H a = some (exo a C none) ∧ ∀ dx, H dx = none → dx ≠ a → Q .non (upd (upd H dx (exd dx [(Str.ofString "line", .int k)])) a (exo a C (some dx)))
/-- BadText(k) is let out -/
def EBT (GT : List Addr) (C : Addr) (k : Int) (H : Hp) (E : XK) : Prop := ∀ d H', Ext GT [] H H' → H' d = some (.xd [(Str.ofString "line", .int k)]) → E (.ref C) (some d) H'
theorem ebt_rd {GT : List Addr} {C : Addr} {k : Int} {H : Hp} {E : XK} (e : EBT GT C k H E) : ([V.int k] : List V).length ≤ 1000 ∧ ∀ a, H a = none → spBTI C (.ref a :: ([V.int k] ++ [])) (upd H a (exo a C none))
    (fun v H2 => v = .non ∧ ∃ (d : Addr) (fs : List (Str × V)), H2 a = some (exo a C (some d)) ∧ H2 d = some (exd d fs) ∧ H d = none ∧ E (.ref C) (some d) (upd (del H2 a) d (.xd fs))) (fun _ _ _ => False) := by
  refine ⟨(by show 1 ≤ 1000; decide), fun a ha => ⟨a, k, rfl, upd_same, fun dx hdx hne => ⟨rfl, dx, [(Str.ofString "line", .int k)], upd_same, ?_, ?_, ?_⟩⟩⟩
  · rw [upd_ne hne, upd_same]
  · rw [upd_ne hne] at hdx
    exact hdx
  · rw [upd_ne hne] at hdx
    refine e dx _ (.same fun b o hb => ?_) upd_same
    have n1 : b ≠ a := ne_of_none hb ha
    have n2 : b ≠ dx := ne_of_none hb hdx
    rw [upd_ne n2, del_ne n1, upd_ne n1, upd_ne n2, upd_ne n1]
    exact hb
structure LnL (H : Hp) (p : Addr) (ls : List (List Nat)) : Prop where
  at_ : H p = some (.lst ((ls.map S).map V.str))
  ok : ∀ l ∈ ls, okS (S l) ∧ l.length ≤ 100000
  few : ls.length ≤ 100000
theorem LnL.ext {GT : List Addr} {H H' : Hp} {p : Addr} {ls : List (List Nat)} (l : LnL H p ls) (x : Ext GT [] H H') : LnL H' p ls := ⟨x.lst l.at_, l.ok, l.few⟩
def spReq (GT : List Addr) (C : Addr) : Sp := fun vs H Q E => ∃ (pl pw : Addr) (ls : List (List Nat)) (k : Nat) (ws : List Str), vs = [.ref pl, .int k, .ref pw] ∧ LnL H pl ls ∧ SgL H pw ws ∧ (∀ z ∈ ws, z ≠ "") ∧ Tbs GT H ∧ k ≤ 100001 ∧
  (∀ j, eqsF ws k (ls.drop k) [] = .inl j → EBT GT C j H E) ∧ ∀ es, eqsF ws k (ls.drop k) [] = .inr es → ∀ H' v, Ext GT [] H H' → DAt H' v (eqsD es) → Q v H'
section
variable {P : Program} {w : World} {K : PySem.W.Frag} {mg : Str → Option Value} {base : Heap} {f c C fi : Addr} {fd fdi : FuncData} {GT : List Addr} {tp : Addr}
theorem ok_btinit (F : FunC K "__init__" "BadText.__init__" sBadtextInit f fd c) (B : BTc K mg C f) : FnOk P w K mg base CX0 1 f fd pBadtextInit (spBTI C) := by
  refine F.ok scBadtextInit (fun vs H Q E h => ?_) (fun A outer s H vs Q E hr h => ?_)
  · obtain ⟨a, k, rfl, _⟩ := h
    rfl
  obtain ⟨a, k, rfl, ha, q⟩ := h
  refine ⟨_, pss_one (ps_ost (pv 0) (pv 1)), ?_⟩
  refine ⟨_, rfl, _, rfl, a, C, rfl, B.oc, B.nl, .inl ⟨ha, fun dx hdx hne => q dx hdx hne⟩⟩
theorem ok_readEqs (F : FunC K "read_equations" "read_equations" sReadEquations f fd c) (T : Bl mg) (B : BTc K mg C fi) (Fbt : FnOk P w K mg base CX0 1 fi fdi pBadtextInit (spBTI C)) (bBt : Binds K fdi pBadtextInit []) (Geq : Cal P w K mg base 213 "equation_of" pEquationOf (spEq GT)) : FnOk P w K mg base (L2.CX P w) 214 f fd pReadEquations (spReq GT C) := by
  refine F.okX scReadEquations (fun vs H Q E h => ?_) (fun A outer s H vs Q E hr h => ?_)
  · obtain ⟨pl, pw, ls, k, ws, rfl, _⟩ := h
    rfl
  obtain ⟨pl, pw, ls, k, ws, rfl, hl, hw, hne, tt, hk, qe, qs⟩ := h
  refine ⟨_, pss_cons (ps_set (i := 3) scReadEquations.nd rfl (.inl rfl) (pe_lst pa_nil)) (pss_cons (ps_for (passes_of rfl) rfl (pi_range2 (by rfl) T.range (pa_cons (pv 1) (pa_cons (pe_callB call_len_seq (by rfl) T.len PySem.boot_len (pa_cons (pv 0) pa_nil)) pa_nil))) (pg_name (i := 4) scReadEquations.nd rfl (.inl rfl)) (pss_cons (ps_set (i := 5) scReadEquations.nd rfl (.inl rfl) (pe_cal Geq (hr.mono (by omega)) rfl (pa_cons (pe_ix ix_list (pv 0) (pv 4) (fun _ _ => rfl)) (pa_cons (pv 2) pa_nil)))) (pss_cons (ps_if (PW.pt (pw_or (pt_cmpR op_isN (pv 5) pe_non (nomark _)) (pw_or1 (pt_cmpR op_eq (pe_callB call_len_seq (by rfl) T.len PySem.boot_len (pa_cons (pv 3) pa_nil)) pe_int (nomark _))))) (pss_one (ps_raise rfl (takes_of rfl rfl rfl rfl) (pmk_oex B.oc B.ic B.ti Fbt (hr.mono (by omega)) bBt .nil pass0 rfl B.m (pa_cons (pv 4) pa_nil)))) pss_nil) (pss_one (ps_expr (pe_bm PySem.F.plainAttrs_list PySem.F.slot_list_append PySem.F.type_list_append mt_append (pv 3) (pa_cons (pv 5) pa_nil))))))) (pss_one (ps_ret (pe_callTy call_tuple_of (by rfl) T.tuple boot_tuple (pa_cons (pv 3) pa_nil))))), ?_⟩
  refine ⟨(by show 0 ≤ sizeLine; decide), fun pf hpf => ?_⟩
  have x1 : Ext GT [] H (upd H pf (.lst [])) := .new hpf
  have few := hl.few
  refine ⟨_, rfl, _, rfl, pl, _, rfl, .inl (SqL.of ((hl.ext x1).at_)), k, ls.length, by rw [List.length_map, List.length_map], ⟨by omega, by omega, by omega, by omega⟩, ?_⟩
  rw [show ((ls.length : Int) - (k : Int)).toNat = ls.length - k by omega]
  refine for_range (lo := (k : Int)) (n := ls.length - k) (fun i σ' H' => ∃ (es : List (Tm × Tm)) (a4 a5 : Option V), σ' = [some (.ref pl), some (.int k), some (.ref pw), some (.ref pf), a4, a5] ∧ Ext GT [] H H' ∧ LAt H' pf (es.map fun e => D.tup [e.1.d, e.2.d]) ∧ es.length ≤ 6 ∧
    eqsF ws k (ls.drop k) [] = eqsF ws (k + i) (ls.drop (k + i)) es) ⟨[], none, none, rfl, x1, ⟨[], upd_same, .nil⟩, by decide, rfl⟩ (fun i σ' H' hi hv => ?_) (fun σ' H' hv => ?_)
  · obtain ⟨es, a4, a5, rfl, x2, la, h6, hq⟩ := hv
    have hlt : k + i < ls.length := by omega
    obtain ⟨l, hl1⟩ : ∃ l, ls[k + i]? = some l := ⟨_, List.getElem?_eq_getElem hlt⟩
    have ed : ls.drop (k + i) = l :: ls.drop (k + i + 1) := by
      obtain ⟨h1, e1⟩ := List.getElem?_eq_some_iff.mp hl1
      rw [List.drop_eq_getElem_cons h1, e1]
    rw [ed] at hq
    have eS : eqsF ws (k + i) (l :: ls.drop (k + i + 1)) es = match eqF ws l with
      | none => .inl (k + i)
      | some e => if es.length = 6 then .inl (k + i) else eqsF ws (k + i + 1) (ls.drop (k + i + 1)) (es ++ [e]) := rfl
    rw [eS] at hq
    have hl2 := hl.ext x2
    have hw2 := hw.extG x2
    obtain ⟨okl, lenl⟩ := hl.ok l (List.mem_of_getElem? hl1)
    have bad : eqsF ws k (ls.drop k) [] = .inl (k + i) → ∀ H3, Ext GT [] H H3 → EBT GT C ((k : Int) + (i : Int)) H3 E := fun e H3 x3 d H4 x4 e4 => qe (k + i) e d H4 (x3.trans x4) (by rw [e4]; rfl)
    refine ⟨_, rfl, _, rfl, pl, _, _, _, rfl, rfl, SqL.of hl2.at_, (atI_nat (j := k + i) (by rw [List.getElem?_map, List.getElem?_map, hl1]; rfl)), _, rfl, ?_⟩
    refine ⟨S l, pw, ws, rfl, okl, by rw [len_tl]; exact lenl, hw2, hne, tt.ext x2, fun e H3 x3 => ?_, fun a b e H3 v x3 dv => ?_⟩
    · have e : eqF ws l = none := e
      rw [e] at hq
      refine ⟨_, rfl, rfl, _, rfl, iteDT rfl (iteT ?_)⟩
      exact ⟨_, rfl, ebt_rd (bad hq H3 (x2.trans x3))⟩
    · have e : eqF ws l = some (a, b) := e
      rw [e] at hq
      have hvn : v ≠ .non := fun z => by
        rw [z] at dv
        cases dv
      refine ⟨_, rfl, rfl, _, rfl, iteDF hvn ?_⟩
      obtain ⟨ys, ey, ay⟩ := la.ext x3
      have ly : ys.length = es.length := by rw [ay.1, List.length_map]
      refine ⟨_, rfl, pf, _, rfl, .inl (SqL.of ey), rfl, _, rfl, ?_⟩
      by_cases e6 : es.length = 6
      · refine iteDT (by rw [ly, e6]; rfl) ?_
        simp only [e6, if_true] at hq
        exact ⟨_, rfl, ebt_rd (bad hq H3 (x2.trans x3))⟩
      · refine iteDF (fun z => e6 (by injection z with z; omega)) ?_
        simp only [e6, if_false] at hq
        refine ⟨_, rfl, .inl ⟨rfl, _, SqL.of ey⟩, _, rfl, pf, _, _, rfl, rfl, ey, Nat.lt_of_lt_of_le (by omega : ys.length < 1000000) (by decide), ?_⟩
        refine ⟨es ++ [(a, b)], _, _, rfl, (x2.trans x3).mutN hpf, ?_, by rw [List.length_append, List.length_singleton]; omega, ?_⟩
        · rw [List.map_append]
          exact ⟨_, upd_same, (ay.snoc dv).put ey⟩
        · rw [hq]
          rfl
  · obtain ⟨es, a4, a5, rfl, x2, ⟨ys, ey, ay⟩, h6, hq⟩ := hv
    have ed : ls.drop (k + (ls.length - k)) = [] := List.drop_eq_nil_of_le (by omega)
    rw [ed] at hq
    have hq : eqsF ws k (ls.drop k) [] = .inr es := hq.trans (by cases (k + (ls.length - k)) <;> rfl)
    refine ⟨_, rfl, pf, ys, rfl, .inl ⟨SqL.of ey, fun pt hpt => ?_⟩⟩
    exact qs es hq _ _ (x2.trans (.new hpt)) (.new hpt ay)
end
end ML
set_option maxHeartbeats 4000000
namespace ML
open PySem PySem.Spec PyProof.Rows L2 TL Gn
/-! ### lines, in plain -/
theorem parts_len (x : Str) (w : Nat) : ∀ (cuts : List Nat) (a : Nat), (StrLaws.partsFrom x w a cuts).length = cuts.length + 1
  | [], _ => rfl
  | c :: r, a => by
    show (StrLaws.partsFrom x w (c + w) r).length + 1 = _
    rw [parts_len x w r]
    rfl
theorem count_C {z y : Str} {s : Nat} (hy : tl y = [s]) (hs : s < 256) : Txt.count z y = (((splitC s (tl z)).length - 1 : Nat) : Int) := by
  have hne : tl y ≠ [] := by rw [hy]; simp
  obtain ⟨f, g, hn⟩ := StrLaws.occ_tight z y (len1 hne)
  have key := parts_spl hne _ 0 f (Nat.zero_le _) g hn
  rw [List.drop_zero, hy] at key
  obtain ⟨h1, t, e1, e2⟩ := spl_C s (tl z) []
  rw [e2, List.nil_append, ← e1] at key
  have := congrArg List.length key
  rw [List.length_map, parts_len] at this
  unfold Txt.count
  rw [← this]
  rfl
theorem splitC_snoc (s : Nat) : ∀ l : List Nat, splitC s (l ++ [s]) = splitC s l ++ [[]]
  | [] => by simp [splitC]
  | c :: r => by
    have ih := splitC_snoc s r
    show splitC s (c :: (r ++ [s])) = _
    by_cases e : c = s
    · simp [splitC, e, ih]
    · cases h : splitC s r with
      | nil => exact absurd h (splitC_ne _ _)
      | cons a t => simp [splitC, e, ih, h]
theorem splitC_last (s c : Nat) (h : c ≠ s) : ∀ l : List Nat, (splitC s (l ++ [c])).getLast? ≠ some []
  | [] => by simp [splitC, h]
  | d :: r => by
    have ih := splitC_last s c h r
    show (splitC s (d :: (r ++ [c]))).getLast? ≠ _
    cases hr : splitC s (r ++ [c]) with
    | nil => exact absurd hr (splitC_ne _ _)
    | cons a t =>
      rw [hr] at ih
      by_cases e : d = s
      · simp only [splitC, e, if_true, hr]
        rw [List.getLast?_cons_cons]
        exact ih
      · simp only [splitC, e, if_false, hr]
        cases t with
        | nil => simp
        | cons b t =>
          rw [List.getLast?_cons_cons] at ih ⊢
          exact ih
theorem sw_name {z : Str} : Txt.startswith z "name " = nameP (tl z) := by
  unfold Txt.startswith nameP
  have e5 : tl ("name " : Str) = [110, 97, 109, 101, 32] := by decide
  have l5 : ("name " : Str).length = 5 := by decide
  rw [StrLaws.subAt_eq, Bool.eq_iff_iff, Bool.and_eq_true, decide_eq_true_iff, beq_iff_eq, beq_iff_eq, l5, show ("name " : Str).cps.toList = [110, 97, 109, 101, 32] from e5, show z.cps.toList = tl z from rfl, List.drop_zero]
  constructor
  · exact fun h => h.2
  · intro h
    refine ⟨?_, h⟩
    have := congrArg List.length h
    rw [List.length_take, ← len_tl] at this
    simp only [List.length_cons, List.length_nil] at this
    omega
theorem isWord_ok {z : Str} (h : isWordF z = true) : okS z ∧ z.length ≤ 8 ∧ z ≠ "" := by
  cases e : tl z with
  | nil =>
    unfold isWordF at h
    rw [e] at h
    cases h
  | cons c r =>
    rw [isWord_cons e] at h
    simp only [Bool.and_eq_true, decide_eq_true_eq] at h
    obtain ⟨h1, _, _, h4⟩ := h
    refine ⟨okS_iff.mpr fun x hx => ?_, ?_, fun z0 => ?_⟩
    · rw [e] at hx
      exact Nat.lt_of_lt_of_le (alnum_lt (List.all_eq_true.mp h4 x hx)) (by decide)
    · rw [len_tl, e]
      exact h1
    · rw [z0, show tl ("" : Str) = [] by decide] at e
      cases e
theorem name_some {ws : List Str} {l : List Nat} {a : Str} {v f : Nat} (h : nameF ws l = some (a, v, f)) : isWordF a = true ∧ a ∉ ws ∧ 2 ≤ v ∧ v ≤ 3 ∧ f < v := by
  unfold nameF at h
  split at h
  · split at h
    · rename_i hc
      split at h
      · cases h
      · rename_i v0 hv
        obtain ⟨f0, hf, h⟩ := Option.map_eq_some_iff.mp h
        cases h
        have h1 := digit_rng hv
        have h2 := digit_rng hf
        exact ⟨hc.2.2.1, hc.2.2.2, by omega, by omega, by omega⟩
    · cases h
  · cases h
theorem rising_pw : ∀ {l : List Nat}, rising l = true → l.Pairwise (· < ·)
  | [], _ => .nil
  | [x], _ => by simp
  | x :: y :: r, h => by
    simp only [rising, Bool.and_eq_true, decide_eq_true_eq] at h
    have ih := rising_pw h.2
    refine .cons (fun z hz => ?_) ih
    rcases List.mem_cons.mp hz with rfl | hz
    · exact h.1
    · exact Nat.lt_trans h.1 ((List.pairwise_cons.mp ih).1 z hz)
theorem pw_len {n : Nat} : ∀ {l : List Nat} (k : Nat), l.Pairwise (· < ·) → (∀ i ∈ l, k ≤ i ∧ i < n) → l.length ≤ n - k
  | [], k, _, _ => Nat.zero_le _
  | x :: r, k, h, hb => by
    obtain ⟨h1, h2⟩ := List.pairwise_cons.mp h
    have hx := hb x List.mem_cons_self
    have := pw_len (n := n) (l := r) (x + 1) h2 fun i hi => ⟨h1 i hi, (hb i (List.mem_cons_of_mem _ hi)).2⟩
    rw [List.length_cons]
    omega
theorem told_some {ws : List Str} {l : List Nat} {t : List Nat} (h : toldF ws l = some t) (h3 : ws.length ≤ 3) : ToldOk ws.length t := by
  unfold toldF at h
  split at h
  · cases h
  · rename_i a r _
    split at h
    · rename_i hc
      obtain ⟨_, hne, hm, hr⟩ := hc
      cases h
      have hb : ∀ i ∈ r.map fun x => ws.idxOf (S x), i < ws.length := fun i hi => by
        obtain ⟨x, hx, rfl⟩ := List.mem_map.mp hi
        exact List.idxOf_lt_length_of_mem (hm x hx)
      have hp := rising_pw hr
      exact ⟨by simp [hne], hb, hp, by have := pw_len (n := ws.length) 0 hp (fun i hi => ⟨Nat.zero_le _, hb i hi⟩); omega⟩
    · cases h
theorem eq_some {ws : List Str} {l : List Nat} {a b : Tm} (h : eqF ws l = some (a, b)) : a.ok ws.length ∧ b.ok ws.length ∧ a.deep ≤ 5 ∧ b.deep ≤ 5 := by
  unfold eqF at h
  obtain ⟨ss, _, h⟩ := Option.bind_eq_some_iff.mp h
  split at h
  · unfold pairF at h
    obtain ⟨x, hx, h⟩ := Option.bind_eq_some_iff.mp h
    obtain ⟨r, hr, h⟩ := Option.bind_eq_some_iff.mp h
    obtain ⟨y, hy, h⟩ := Option.bind_eq_some_iff.mp h
    split at h
    · rename_i hc
      cases h
      exact ⟨ok_side _ _ _ hx, ok_side _ _ _ hy, hc.2.1, hc.2.2⟩
    · cases h
  · cases h
theorem eqs_some {ws : List Str} : ∀ {ls : List (List Nat)} {k : Nat} {es fs : List (Tm × Tm)}, eqsF ws k ls es = .inr fs → es.length ≤ 6 → (∀ e ∈ es, e.1.ok ws.length ∧ e.2.ok ws.length ∧ e.1.deep ≤ 5 ∧ e.2.deep ≤ 5) →
    fs.length ≤ 6 ∧ ∀ e ∈ fs, e.1.ok ws.length ∧ e.2.ok ws.length ∧ e.1.deep ≤ 5 ∧ e.2.deep ≤ 5
  | [], k, es, fs, h, h6, he => by
    cases h
    exact ⟨h6, he⟩
  | l :: r, k, es, fs, h, h6, he => by
    unfold eqsF at h
    split at h
    · cases h
    · rename_i e hl
      split at h
      · cases h
      · rename_i hn
        refine eqs_some h (by rw [List.length_append, List.length_singleton]; omega) fun x hx => ?_
        rcases List.mem_append.mp hx with z | z
        · exact he x z
        · rw [List.mem_singleton.mp z]
          exact eq_some (a := e.1) (b := e.2) hl
end ML
set_option maxHeartbeats 4000000
namespace ML
open PySem PySem.Spec PyProof.Rows L2 TL Gn
def spRm (GT : List Addr) (C : Addr) : Sp := fun vs H Q E => ∃ v : V, vs = [v] ∧ Tbs GT H ∧ ((v = .non ∨ ∃ i, v = .int i) ∧ EBT GT C 0 H E ∨ ∃ z : Str, v = .str z ∧ okS z ∧ z.length ≤ 90000 ∧ (∀ k, readF (tl z) = .inl k → EBT GT C k H E) ∧
  ∀ m ws, readF (tl z) = .inr (m, ws) → ∀ H' v', Ext GT [] H H' → DAt H' v' (.tup [m.d, wordsD ws]) → Q v' H')
theorem cutS_init {z : Str} {l0 : List Nat} {c : Nat} (h : tl z = l0 ++ [c]) : cutS z none (some (-1)) = S l0 := by
  have hl : z.length = l0.length + 1 := by rw [len_tl, h, List.length_append]; rfl
  have e : HT.sIx z.length z.length (some (-1)) = l0.length := by
    show (if ((-1 : Int)) < 0 then ((-1 : Int) + (z.length : Int)).toNat else min (-1 : Int).toNat z.length) = _
    rw [if_pos (by decide)]
    omega
  unfold cutS
  rw [e, HT.sIx_none, Nat.sub_zero, List.drop_zero, show z.cps.toList = tl z from rfl, h, List.take_left' (l₁ := l0) rfl]
theorem letters_eq {l : List Nat} {a b : List Nat} (h : splitC 32 l = [a, b]) : lettersF l = if S a = "letters" then (digitF (S b) 1 3).map Int.toNat else none := by
  unfold lettersF
  rw [h]
theorem letters_len {l : List Nat} (h : (splitC 32 l).length ≠ 2) : lettersF l = none := by
  unfold lettersF
  split
  · rename_i e
    rw [e] at h
    exact absurd rfl h
  · rfl
section
variable {P : Program} {w : World} {K : PySem.W.Frag} {mg : Str → Option Value} {base : Heap} {f c C fi fre : Addr} {fd fdi fdre : FuncData} {GT : List Addr} {tp : Addr}
theorem ok_readMill (F : FunC K "read_mill" "read_mill" sReadMill f fd c) (T : Bl mg) (Gv : Gc K mg) (B : BTc K mg C fi) (Fbt : FnOk P w K mg base CX0 1 fi fdi pBadtextInit (spBTI C)) (bBt : Binds K fdi pBadtextInit []) (Gd : Cal P w K mg base 1 "digit" pDigit spDigit) (Gnm : Cal P w K mg base 3 "name_of" pNameOf (spName GT))
    (Gtl : Cal P w K mg base 2 "told_line" pToldLine (spToldL GT)) (Gnd : Cal P w K mg base 16 "need_mill" pNeedMill (spNeedMill GT)) (Fre : FnOk P w K mg base (L2.CX P w) 214 fre fdre pReadEquations (spReq GT C)) (mre : mg "read_equations" = some (.ref fre)) (bre : Binds K fdre pReadEquations []) (kre : PySem.W.keepIn K (.ref fre) = true) :
    FnOk P w K mg base (L2.CX P w) 215 f fd pReadMill (spRm GT C) := by
  refine F.okX scReadMill (fun vs H Q E h => ?_) (fun A outer s H vs Q E hr h => ?_)
  · obtain ⟨v, rfl, _⟩ := h
    rfl
  obtain ⟨v, rfl, tt, h⟩ := h
  have hMOSTNAMES := Gv.mostNames.choose_spec
  refine ⟨_, pss_cons (ps_if (PW.pt (pw_or (pt_not (pt_val (pe_callB call_isY (by rfl) T.isinstance boot_isinstance (pa_cons (pv 0) (pa_cons (pe_bltn (v := .ty "str") (by rfl) T.str boot_str rfl) pa_nil))))) (pw_or1 (pt_not (pt_truth (pv 0) (by intro _; rfl)))))) (pss_one (ps_raise rfl (takes_of rfl rfl rfl rfl) (pmk_oex B.oc B.ic B.ti Fbt (hr.mono (by omega)) bBt .nil pass0 rfl B.m (pa_cons pe_int pa_nil)))) pss_nil) (pss_cons (ps_if (pt_cmpR op_ne (pe_ix ix_str (pv 0) (pe_un un_neg pe_int) (fun _ _ => rfl)) pe_str (nomark _)) (pss_one (ps_raise rfl (takes_of rfl rfl rfl rfl) (pmk_oex B.oc B.ic B.ti Fbt (hr.mono (by omega)) bBt .nil pass0 rfl B.m (pa_cons (pe_m1 PySem.F.slot_str_count PySem.F.type_str_count mt_count (pv 0) pe_str) pa_nil)))) pss_nil) (pss_cons (ps_set (i := 1) scReadMill.nd rfl (.inl rfl) (pe_split (pe_slice sl_str (pv 0) po_none (po_some (pe_un un_neg pe_int))) pe_str)) (pss_cons (ps_set (i := 2) scReadMill.nd rfl (.inl rfl) (pe_split (pe_ix ix_list (pv 1) pe_int (fun _ _ => rfl)) pe_str)) (pss_cons (ps_set (i := 3) scReadMill.nd rfl (.inl rfl) (pe_ifExp (PW.pt (pw_and (pt_cmpR op_eq (pe_callB call_len_seq (by rfl) T.len PySem.boot_len (pa_cons (pv 2) pa_nil)) pe_int (nomark _)) (pw_and1 (pt_cmpR op_eq (pe_ix ix_list (pv 2) pe_int (fun _ _ => rfl)) pe_str (nomark _))))) (pe_cal Gd (hr.mono (by omega)) rfl (pa_cons (pe_ix ix_list (pv 2) pe_int (fun _ _ => rfl)) (pa_cons pe_int (pa_cons pe_int pa_nil)))) pe_non)) (pss_cons (ps_if (pt_cmpR op_isN (pv 3) pe_non (nomark _)) (pss_one (ps_raise rfl (takes_of rfl rfl rfl rfl) (pmk_oex B.oc B.ic B.ti Fbt (hr.mono (by omega)) bBt .nil pass0 rfl B.m (pa_cons pe_int pa_nil)))) pss_nil) (pss_cons (ps_par3 (i := 4) (j := 5) (l := 6) rfl scReadMill.nd rfl rfl rfl (by decide) (by decide) (by decide) rfl rfl rfl (pa_cons pe_int (pa_cons (pe_lst pa_nil) (pa_cons (pe_lst pa_nil) pa_nil))) rfl) (pss_cons (ps_while (passes_of rfl) (PW.pt (pw_and (pt_cmpR op_lt (pv 4) (pe_callB call_len_seq (by rfl) T.len PySem.boot_len (pa_cons (pv 1) pa_nil)) (nomark _)) (pw_and1 (pt_val (pe_m1 PySem.F.slot_str_startswith PySem.F.type_str_startswith mt_startswith (pe_ix ix_list (pv 1) (pv 4) (fun _ _ => rfl)) pe_str))))) (pss_cons (ps_set (i := 7) scReadMill.nd rfl (.inl rfl) (pe_cal Gnm (hr.mono (by omega)) rfl (pa_cons (pe_ix ix_list (pv 1) (pv 4) (fun _ _ => rfl)) (pa_cons (pv 5) pa_nil)))) (pss_cons (ps_if (PW.pt (pw_or (pt_cmpR op_isN (pv 7) pe_non (nomark _)) (pw_or1 (pt_cmpR op_eq (pe_callB call_len_seq (by rfl) T.len PySem.boot_len (pa_cons (pv 5) pa_nil)) (pe_glob (v := .int 3) (by rfl) hMOSTNAMES ⟨_, rfl⟩) (nomark _))))) (pss_one (ps_raise rfl (takes_of rfl rfl rfl rfl) (pmk_oex B.oc B.ic B.ti Fbt (hr.mono (by omega)) bBt .nil pass0 rfl B.m (pa_cons (pv 4) pa_nil)))) pss_nil) (pss_cons (ps_expr (pe_bm PySem.F.plainAttrs_list PySem.F.slot_list_append PySem.F.type_list_append mt_append (pv 5) (pa_cons (pe_ix ix_tup (pv 7) pe_int (fun _ _ => rfl)) pa_nil))) (pss_cons (ps_expr (pe_bm PySem.F.plainAttrs_list PySem.F.slot_list_append PySem.F.type_list_append mt_append (pv 6) (pa_cons (pe_ix ix_tup (pv 7) pe_int (fun _ _ => rfl)) pa_nil))) (pss_one (ps_aug (i := 4) scReadMill.nd rfl (.inl rfl) pe_int ip_add))))))) (pss_cons (ps_set (i := 8) scReadMill.nd rfl (.inl rfl) (pe_ifExp (PW.pt (pw_and (pt_cmpR op_lt (pv 4) (pe_callB call_len_seq (by rfl) T.len PySem.boot_len (pa_cons (pv 1) pa_nil)) (nomark _)) (pw_and1 (pt_truth (pv 5) (by intro _; rfl))))) (pe_cal Gtl (hr.mono (by omega)) rfl (pa_cons (pe_ix ix_list (pv 1) (pv 4) (fun _ _ => rfl)) (pa_cons (pv 5) pa_nil))) pe_non)) (pss_cons (ps_if (pt_cmpR op_isN (pv 8) pe_non (nomark _)) (pss_one (ps_raise rfl (takes_of rfl rfl rfl rfl) (pmk_oex B.oc B.ic B.ti Fbt (hr.mono (by omega)) bBt .nil pass0 rfl B.m (pa_cons (pv 4) pa_nil)))) pss_nil) (pss_cons (ps_set (i := 9) scReadMill.nd rfl (.inl rfl) (pe_callS Fre hr rfl mre kre bre (fun σ => passAt (takes_of rfl rfl rfl rfl) σ) (pa_cons (pv 1) (pa_cons (pe_op op_add (pv 4) pe_int) (pa_cons (pv 5) pa_nil))))) (pss_cons (ps_set (i := 10) scReadMill.nd rfl (.inl rfl) (pe_tup (pa_cons (pv 3) (pa_cons (pe_callTy call_tuple_of (by rfl) T.tuple boot_tuple (pa_cons (pv 6) pa_nil)) (pa_cons (pv 8) (pa_cons (pv 9) pa_nil)))))) (pss_cons (ps_expr (pe_cal Gnd (hr.mono (by omega)) rfl (pa_cons (pv 10) pa_nil))) (pss_one (ps_ret (pe_tup (pa_cons (pv 10) (pa_cons (pe_callTy call_tuple_of (by rfl) T.tuple boot_tuple (pa_cons (pv 5) pa_nil)) pa_nil))))))))))))))))), ?_⟩
  rcases h with ⟨hv, q⟩ | ⟨z, rfl, okz, hz, qe, qs⟩
  · rcases hv with rfl | ⟨i, rfl⟩
    · exact ⟨_, rfl, _, _, _, false, rfl, .non, kb, _, rfl, iteT (iteT (ebt_rd q))⟩
    · exact ⟨_, rfl, _, _, _, false, rfl, .int _, kb, _, rfl, iteT (iteT (ebt_rd q))⟩
  refine ⟨_, rfl, _, _, _, true, rfl, .str _, kb, _, rfl, iteF ?_⟩
  by_cases h0 : tl z = []
  · refine ⟨_, rfl, false, ⟨line100 (by omega), by rw [len_tl, h0]; rfl⟩, iteT ?_⟩
    exact ebt_rd (qe 0 (by rw [h0]; rfl))
  have hz0 : z.length ≠ 0 := fun e => h0 (List.eq_nil_of_length_eq_zero (by rw [← len_tl]; exact e))
  refine ⟨_, rfl, true, ⟨line100 (by omega), by
    symm
    rw [bne_iff_ne]
    intro e
    exact hz0 (by omega)⟩, iteF ?_⟩
  obtain ⟨l0, c0, el⟩ : ∃ l0 c0, tl z = l0 ++ [c0] := ⟨_, _, (List.dropLast_concat_getLast h0).symm⟩
  refine ⟨_, rfl, _, rfl, z, _, _, rfl, rfl, line100 (by omega), (by rw [show z.cps.toList = tl z from rfl, el]; exact atI_last _ _), rfl, _, rfl, ?_⟩
  have nl_eq : ("\n" : Str) = ⟨#[10]⟩ := by decide +kernel
  by_cases hc : ¬ c0 = 10
  · refine iteNDF (fun h => hc (by rw [nl_eq] at h; injection h with h; injection h with h; simpa using h)) ?_
    refine ⟨_, rfl, ⟨_, rfl⟩, z, _, rfl, rfl, ?_⟩
    rw [count_C tl_nl (by decide)]
    refine ebt_rd (qe ((splitC 10 (tl z)).length - 1) ?_)
    unfold readF
    rw [if_neg h0, if_pos (by rw [el]; exact splitC_last 10 c0 hc l0)]
  have hc := Classical.not_not.mp hc
  subst hc
  refine iteNDT (by rw [nl_eq]) ?_
  have eR : readF (tl z) = match splitC 10 l0 with
      | [] => .inl 0
      | h :: r => match lettersF h with
        | none => .inl 0
        | some k => restOfF k 1 r [] [] := by
    unfold readF
    rw [if_neg h0, el, splitC_snoc, if_neg (by simp), List.dropLast_concat] <;> rfl
  rw [eR] at qe qs
  clear eR
  refine ⟨_, rfl, _, rfl, _, rfl, z, rfl, line100 (by omega), ⟨_, rfl⟩, ?_⟩
  rw [cutS_init el]
  have sl0 : (S l0).length ≤ 90000 := by
    have : z.length = l0.length + 1 := by rw [len_tl, el, List.length_append]; rfl
    rw [len_tl]
    show l0.length ≤ _
    omega
  have ok0 : okS (S l0) := okS_iff.mpr fun c hc => okS_iff.mp okz c (by rw [el]; exact List.mem_append_left _ hc)
  refine ⟨_, _, rfl, rfl, (by decide), line100 (by omega), fun pl hpl => ?_⟩
  rw [split_C tl_nl (by decide), tl_S]
  have x1 : Ext GT [] H (upd H pl (.lst (((splitC 10 l0).map S).map V.str))) := .new hpl
  have lL : LnL (upd H pl (.lst (((splitC 10 l0).map S).map V.str))) pl (splitC 10 l0) := ⟨upd_same, fun l hl => by
    have := splitC_ok (s := 10) ok0 l hl
    exact ⟨this.1, by have h2 := this.2; rw [len_tl] at h2; have h3 : l.length ≤ _ := h2; omega⟩, by have := splitC_len 10 l0; rw [len_tl] at sl0; have sl1 : l0.length ≤ 90000 := sl0; omega⟩
  generalize upd H pl (.lst (((splitC 10 l0).map S).map V.str)) = H1 at x1 lL ⊢
  obtain ⟨h, r, hs⟩ : ∃ h r, splitC 10 l0 = h :: r := by
    cases e : splitC 10 l0 with
    | nil => exact absurd e (splitC_ne _ _)
    | cons a r => exact ⟨a, r, rfl⟩
  rw [hs] at lL qe qs
  simp only at qe qs
  have t1 := tt.ext x1
  obtain ⟨okh, lenh⟩ := lL.ok h (by simp)
  refine ⟨_, rfl, pl, _, _, _, rfl, rfl, SqL.of lL.at_, atI_nat (j := 0) rfl, ⟨_, rfl⟩, _, _, rfl, rfl, (by decide), (by exact line100 (by rw [len_tl]; show h.length + 2 ≤ _; omega)), fun pp hpp => ?_⟩
  rw [split_C tl_sp (by decide), tl_S]
  have x2 : Ext GT [] H1 (upd H1 pp (.lst (((splitC 32 h).map S).map V.str))) := .new hpp
  have e2 : (upd H1 pp (.lst (((splitC 32 h).map S).map V.str))) pp = some (.lst (((splitC 32 h).map S).map V.str)) := upd_same
  generalize upd H1 pp (.lst (((splitC 32 h).map S).map V.str)) = H2 at x2 e2 ⊢
  have xA := x1.trans x2
  have lL2 := lL.ext x2
  have t2 := tt.ext xA
  refine ⟨_, rfl, pp, _, rfl, .inl (SqL.of e2), rfl, _, rfl, ?_⟩
  by_cases h2 : ¬ (splitC 32 h).length = 2
  · refine iteDF (fun z => h2 (by rw [List.length_map, List.length_map] at z; injection z with z; omega)) ?_
    refine ⟨_, rfl, rfl, _, rfl, iteDT rfl ?_⟩
    exact ebt_rd (fun d H4 x4 e4 => qe 0 (by rw [letters_len h2]) d H4 (xA.trans x4) (by rw [e4]; rfl))
  have h2 := Classical.not_not.mp h2
  refine iteDT (by rw [List.length_map, List.length_map, h2]; rfl) ?_
  obtain ⟨pa, pb, hp2⟩ : ∃ a b, splitC 32 h = [a, b] := by
    match splitC 32 h, h2 with
    | [a, b], _ => exact ⟨a, b, rfl⟩
  have eL := letters_eq hp2
  rw [hp2] at e2
  have pok := splitC_ok (s := 32) okh
  rw [tl_S, hp2] at pok
  refine ⟨_, rfl, pp, _, _, _, rfl, rfl, SqL.of e2, atI_nat (j := 0) rfl, rfl, _, rfl, ?_⟩
  by_cases hpa : ¬ S pa = Str.ofString "letters"
  · refine iteDF (fun z => hpa (by injection z)) ?_
    refine ⟨_, rfl, rfl, _, rfl, iteDT rfl ?_⟩
    exact ebt_rd (fun d H4 x4 e4 => qe 0 (by rw [eL, if_neg hpa]) d H4 (xA.trans x4) (by rw [e4]; rfl))
  have hpa := Classical.not_not.mp hpa
  refine iteDT (by rw [hpa]) ?_
  rw [if_pos hpa] at eL
  refine ⟨_, rfl, pp, _, _, _, rfl, rfl, SqL.of e2, atI_nat (j := 1) rfl, S pb, 1, 3, rfl, ?_, ?_⟩
  · have h3 := (pok pb (by simp)).2
    rw [len_tl (S h)] at h3
    have h4 : (S pb).length ≤ h.length := h3
    omega
  cases hdg : digitF (S pb) 1 3 with
  | none =>
    rw [hdg] at eL
    refine ⟨_, rfl, rfl, _, rfl, iteDT rfl ?_⟩
    exact ebt_rd (fun d H4 x4 e4 => qe 0 (by rw [show lettersF h = none from eL]) d H4 (xA.trans x4) (by rw [e4]; rfl))
  | some kd =>
  rw [hdg] at eL
  have eL : lettersF h = some kd.toNat := eL
  have hkd := digit_rng hdg
  rw [eL] at qe qs
  simp only at qe qs
  refine ⟨_, rfl, rfl, _, rfl, iteDF (fun z => by cases z) ?_⟩
  refine ⟨(by show 0 ≤ sizeLine; decide), fun pw hpw => ⟨(by show 0 ≤ sizeLine; decide), fun pn hpn => ?_⟩⟩
  refine ⟨_, _, _, rfl, ?_⟩
  have kc : ((kd.toNat : Nat) : Int) = kd := by omega
  have nwn : pw ≠ pn := ne_of_none (o := .lst []) upd_same hpn
  have hpn2 : H2 pn = none := (Ext.new (GT := GT) (M := []) hpw).fresh hpn
  have lsd : (h :: r).drop 1 = r := rfl
  have fewl := lL.few
  refine ⟨fun m σ' H' => ∃ (k : Nat) (o7 : Option V) (ws : List Str) (ns : List (Nat × Nat)), σ' = [some (.str z), some (.ref pl), some (.ref pp), some (.int kd), some (.int (k : Nat)), some (.ref pw), some (.ref pn), o7, none, none, none] ∧ m = (h :: r).length - k ∧ 1 ≤ k ∧ k ≤ (h :: r).length ∧ Ext GT [] H2 H' ∧ H' pw = some (.lst (ws.map V.str)) ∧
    LAt H' pn (ns.map fun n => D.tup [.int n.1, .int n.2]) ∧ ws.length = ns.length ∧ ws.length ≤ 3 ∧ (∀ z ∈ ws, isWordF z = true) ∧ (∀ n ∈ ns, 2 ≤ n.1 ∧ n.1 ≤ 3 ∧ n.2 < n.1) ∧ restOfF kd.toNat 1 r [] [] = restOfF kd.toNat k ((h :: r).drop k) ws ns,
    ⟨_, 1, none, [], [], rfl, rfl, Nat.le_refl _, by simp, (Ext.new hpw).trans (.new hpn), ?_, ⟨[], upd_same, .nil⟩, rfl, by decide, by simp, by simp, rfl⟩, ?_⟩
  · rw [upd_ne nwn]
    exact upd_same
  rintro m σ' H3 ⟨k, o7, ws, ns, rfl, rfl, hk1, hk2, x3, hW, hN, hlen, h3, hword, hnm, hq⟩
  have lL3 := lL2.ext x3
  have t3 := t2.ext x3
  have xB := xA.trans x3
  have hSg : SgL H3 pw ws := ⟨hW, fun z hz => by obtain ⟨a, b, _⟩ := isWord_ok (hword z hz); exact ⟨a, by omega⟩, by omega⟩
  refine ⟨_, rfl, _, rfl, pl, _, rfl, .inl (SqL.of lL3.at_), _, _, rfl, rfl, _, rfl, ?_⟩
  have raise : restOfF kd.toNat 1 r [] [] = .inl k → ∀ H4, Ext GT [] H3 H4 → EBT GT C (k : Nat) H4 E := fun e H4 x4 d H5 x5 e5 => qe k e d H5 ((xB.trans x4).trans x5) e5
  by_cases hk : ¬ k < (h :: r).length
  · refine iteDF (by rw [List.length_map, List.length_map]; omega) (iteF ?_)
    have ed : (h :: r).drop k = [] := List.drop_eq_nil_of_le (by omega)
    rw [ed] at hq
    have hq : restOfF kd.toNat 1 r [] [] = .inl k := hq.trans (by cases k <;> rfl)
    refine ⟨_, rfl, _, rfl, pl, _, rfl, .inl (SqL.of lL3.at_), _, _, rfl, rfl, _, rfl, ?_⟩
    refine iteDF (by rw [List.length_map, List.length_map]; omega) (iteF ?_)
    refine ⟨_, rfl, rfl, _, rfl, iteDT rfl ?_⟩
    exact ⟨_, rfl, ebt_rd (raise hq H3 .refl)⟩
  have hk := Classical.not_not.mp hk
  refine iteDT (by rw [List.length_map, List.length_map]; omega) ?_
  obtain ⟨l, hl1⟩ : ∃ l, (h :: r)[k]? = some l := ⟨_, List.getElem?_eq_getElem hk⟩
  have ed : (h :: r).drop k = l :: (h :: r).drop (k + 1) := by
    obtain ⟨h1, e1⟩ := List.getElem?_eq_some_iff.mp hl1
    rw [List.drop_eq_getElem_cons h1, e1]
  rw [ed] at hq
  obtain ⟨okl, lenl⟩ := lL.ok l (List.mem_of_getElem? hl1)
  have atl : (((h :: r).map S).map V.str)[k]? = some (.str (S l)) := by rw [List.getElem?_map, List.getElem?_map, hl1]; rfl
  have eS : restOfF kd.toNat k (l :: (h :: r).drop (k + 1)) ws ns = if nameP l then (match nameF ws l with
      | none => .inl k
      | some (w, v, f) => if ws.length = 3 then .inl k else restOfF kd.toNat (k + 1) ((h :: r).drop (k + 1)) (ws ++ [w]) (ns ++ [(v, f)]))
    else if ws = [] then .inl k else match toldF ws l with
      | none => .inl k
      | some told => match eqsF ws (k + 1) ((h :: r).drop (k + 1)) [] with
        | .inl j => .inl j
        | .inr es => .inr (⟨kd.toNat, ns, told, es⟩, ws) := rfl
  rw [eS] at hq
  refine ⟨_, rfl, _, rfl, pl, _, _, _, rfl, rfl, SqL.of lL3.at_, atI_nat atl, ⟨_, rfl⟩, S l, _, rfl, rfl, _, rfl, ?_⟩
  rw [sw_name, tl_S]
  cases hnp : nameP l with
  | true =>
    rw [hnp] at hq
    simp only [if_true] at hq
    refine iteT ⟨_, fun _ _ h => h, ?_⟩
    refine ⟨_, rfl, _, rfl, pl, _, _, _, rfl, rfl, SqL.of lL3.at_, atI_nat atl, _, rfl, ?_⟩
    refine ⟨S l, pw, ws, rfl, okl, by rw [len_tl]; exact lenl, hSg, t3, fun e H4 x4 => ?_, fun a v f e H4 v0 x4 dv => ?_⟩
    · have e : nameF ws l = none := e
      rw [e] at hq
      refine ⟨_, rfl, rfl, _, rfl, iteDT rfl (iteT ?_)⟩
      exact ⟨_, rfl, ebt_rd (raise hq H4 x4)⟩
    · have e : nameF ws l = some (a, v, f) := e
      rw [e] at hq
      simp only at hq
      have hvn : v0 ≠ .non := fun z => by
        rw [z] at dv
        cases dv
      refine ⟨_, rfl, rfl, _, rfl, iteDF hvn ?_⟩
      have hW4 := x4.lst hW
      refine ⟨_, rfl, pw, _, rfl, .inl (SqL.of hW4), rfl, _, rfl, ?_⟩
      by_cases e3 : ws.length = 3
      · refine iteDT (by rw [List.length_map, e3]; rfl) ?_
        rw [if_pos e3] at hq
        exact ⟨_, rfl, ebt_rd (raise hq H4 x4)⟩
      refine iteDF (fun z => e3 (by rw [List.length_map] at z; injection z with z; omega)) ?_
      rw [if_neg e3] at hq
      obtain ⟨w1, w2, w3, w4, w5⟩ := name_some e
      obtain ⟨pt, u1, u2, rfl, hpt, d1, d2⟩ := DAt.tup2 dv
      have d1 := d1.strI
      subst d1
      have hwl : (ws.map V.str).length < sizeLine := by rw [List.length_map]; exact Nat.lt_of_lt_of_le (by omega : ws.length < 1000000) (by decide)
      refine ⟨_, rfl, .inl ⟨rfl, _, SqL.of hW4⟩, _, rfl, pt, _, _, _, rfl, rfl, SqT.of hpt, atI_nat (j := 0) rfl, pw, _, _, rfl, rfl, hW4, hwl, ?_⟩
      have y5 : Ext GT [pw] H4 (upd H4 pw (.lst (ws.map V.str ++ [.str a]))) := Ext.put hW4
      have e5 : (upd H4 pw (.lst (ws.map V.str ++ [.str a]))) pw = some (.lst (ws.map V.str ++ [.str a])) := upd_same
      have y5b : Ext GT [] H2 (upd H4 pw (.lst (ws.map V.str ++ [.str a]))) := (x3.trans x4).mutN hpw
      generalize upd H4 pw (.lst (ws.map V.str ++ [.str a])) = H5 at y5 e5 y5b ⊢
      obtain ⟨ys, ey, ay⟩ := (hN.ext x4).extM y5 (by simp; exact fun z => nwn z.symm)
      have ly : ys.length = ns.length := by rw [ay.1, List.length_map]
      refine ⟨_, rfl, .inl ⟨rfl, _, SqL.of ey⟩, _, rfl, pt, _, _, _, rfl, rfl, SqT.of (y5.tups _ _ hpt), atI_nat (j := 1) rfl, pn, _, _, rfl, rfl, ey, Nat.lt_of_lt_of_le (by omega : ys.length < 1000000) (by decide), ?_⟩
      refine ⟨_, rfl, _, _, rfl, rfl, _, by omega, k + 1, _, ws ++ [a], ns ++ [(v, f)], rfl, rfl, by omega, by omega, y5b.mutN hpn2, ?_, ?_, by rw [List.length_append, List.length_append, hlen]; rfl, by rw [List.length_append, List.length_singleton]; omega, ?_, ?_, hq⟩
      · rw [upd_ne nwn, List.map_append]
        exact e5
      · rw [List.map_append]
        exact ⟨_, upd_same, (ay.snoc (d2.ext y5)).put ey⟩
      · intro x hx
        rcases List.mem_append.mp hx with z | z
        · exact hword x z
        · rw [List.mem_singleton.mp z]
          exact w1
      · intro x hx
        rcases List.mem_append.mp hx with z | z
        · exact hnm x z
        · rw [List.mem_singleton.mp z]
          exact ⟨w3, w4, w5⟩
  | false =>
    rw [hnp] at hq
    simp only [if_false, Bool.false_eq_true] at hq
    refine iteF ?_
    refine ⟨_, rfl, _, rfl, pl, _, rfl, .inl (SqL.of lL3.at_), _, _, rfl, rfl, _, rfl, ?_⟩
    refine iteDT (by rw [List.length_map, List.length_map]; omega) ?_
    by_cases hw0 : ws = []
    · refine ⟨_, rfl, false, .inl ⟨_, SqL.of hW, by rw [hw0]; rfl⟩, iteF ?_⟩
      rw [if_pos hw0] at hq
      refine ⟨_, rfl, rfl, _, rfl, iteDT rfl ?_⟩
      exact ⟨_, rfl, ebt_rd (raise hq H3 .refl)⟩
    refine ⟨_, rfl, true, .inl ⟨_, SqL.of hW, by cases ws with | nil => exact absurd rfl hw0 | cons a b => rfl⟩, iteT ?_⟩
    rw [if_neg hw0] at hq
    refine ⟨_, rfl, _, rfl, pl, _, _, _, rfl, rfl, SqL.of lL3.at_, atI_nat atl, _, rfl, ?_⟩
    refine ⟨S l, pw, ws, rfl, okl, by rw [len_tl]; exact lenl, hSg, t3, fun e H4 x4 => ?_, fun told e H4 vt x4 dt => ?_⟩
    · have e : toldF ws l = none := e
      rw [e] at hq
      refine ⟨_, rfl, rfl, _, rfl, iteDT rfl ?_⟩
      exact ⟨_, rfl, ebt_rd (raise hq H4 x4)⟩
    have e : toldF ws l = some told := e
    rw [e] at hq
    simp only at hq
    have hvn : vt ≠ .non := fun z => by
      rw [z] at dt
      cases dt
    refine ⟨_, rfl, rfl, _, rfl, iteDF hvn ?_⟩
    refine ⟨_, rfl, _, rfl, _, _, rfl, rfl, _, rfl, ?_⟩
    refine ⟨pl, pw, h :: r, k + 1, ws, rfl, lL3.ext x4, hSg.extG x4, fun z hz => (isWord_ok (hword z hz)).2.2, t3.ext x4, by omega, fun j ej => ?_, fun es ee H5 ve x5 de => ?_⟩
    · rw [ej] at hq
      exact fun d H6 x6 e6 => qe j hq d H6 ((xB.trans x4).trans x6) e6
    rw [ee] at hq
    simp only at hq
    have xC := (xB.trans x4).trans x5
    obtain ⟨ys, ey, ay⟩ := hN.ext (x4.trans x5)
    have hW5 := (x4.trans x5).lst hW
    refine ⟨_, rfl, _, rfl, pn, ys, rfl, .inl ⟨SqL.of ey, fun pt hpt => ?_⟩⟩
    have x6 : Ext GT [] H5 (upd H5 pt (.tup ys)) := .new hpt
    have d6 : DAt (upd H5 pt (.tup ys)) (.ref pt) (namesD ns) := .new hpt ay
    refine ⟨_, rfl, _, rfl, (by show 4 ≤ sizeLine; decide), fun pm hpm => ?_⟩
    have x7 : Ext GT [] (upd H5 pt (.tup ys)) (upd (upd H5 pt (.tup ys)) pm (.tup [.int kd, .ref pt, vt, ve])) := .new hpm
    have okM : Mill.ok ⟨kd.toNat, ns, told, es⟩ := by
      have hts := told_some e h3
      have hes := eqs_some ee (by decide) (by simp)
      have hn1 : 1 ≤ ns.length := by
        rw [← hlen]
        cases ws with
        | nil => exact absurd rfl hw0
        | cons a b => exact Nat.succ_le_succ (Nat.zero_le _)
      rw [hlen] at hts hes
      exact ⟨⟨by show 1 ≤ kd.toNat; omega, by show kd.toNat ≤ 3; omega⟩, ⟨hn1, by show ns.length ≤ 3; omega, hnm⟩, hts, fun e he => ⟨(hes.2 e he).1, (hes.2 e he).2.1⟩, hes.1, fun e he => (hes.2 e he).2.2⟩
    have dM : DAt (upd (upd H5 pt (.tup ys)) pm (.tup [.int kd, .ref pt, vt, ve])) (.ref pm) (Mill.d ⟨kd.toNat, ns, told, es⟩) := .mk4 upd_same (by rw [show (((⟨kd.toNat, ns, told, es⟩ : Mill).letters : Nat) : Int) = kd from kc]; exact .int _) (d6.ext x7) ((((dt.ext x5)).ext x6).ext x7) ((de.ext x6).ext x7)
    have xD := (xC.trans x6).trans x7
    generalize upd (upd H5 pt (.tup ys)) pm (.tup [.int kd, .ref pt, vt, ve]) = H7 at x7 dM xD ⊢
    refine ⟨_, rfl, .ref pm, ⟨kd.toNat, ns, told, es⟩, rfl, dM, okM, tt.ext xD, fun H8 x8 => ?_⟩
    refine ⟨_, rfl, _, rfl, pw, _, rfl, .inl ⟨SqL.of ((x6.trans (x7.trans x8)).lst hW5), fun pv hpv => ⟨(by show 2 ≤ sizeLine; decide), fun pz hpz => ?_⟩⟩⟩
    have x9 : Ext GT [] H8 (upd H8 pv (.tup (ws.map V.str))) := .new hpv
    have x10 : Ext GT [] (upd H8 pv (.tup (ws.map V.str))) (upd (upd H8 pv (.tup (ws.map V.str))) pz (.tup [.ref pm, .ref pv])) := .new hpz
    refine qs _ ws hq _ _ (((xD.trans x8).trans x9).trans x10) (.mk2 upd_same (((dM.ext x8).ext x9).ext x10) ?_)
    exact DAt.ext x10 (.ofAll upd_same allD_str)
end
end ML
set_option maxHeartbeats 6400000
namespace ML
open PySem PySem.Spec PyProof.Rows L2
section
variable {P : Program} {w : World} {A : Around} {E : Value → Shared → Prop} {s : Shared}
/-- the new set object -/
abbrev s0 (w : World) : Obj := { cls := .type "set", dict := none, data := .set #[] 0 (.fresh 0 0 (!w.params.followText "set-order")) }
/-- set(x), x a list or a tuple: what stays is the walk that adds -/
theorem set_call {l : Addr} {T : String} {items : Array Value} {nl : Nat} {od : Option Addr} {osl : Array (Option Value)} (hol : s.heap.get? l = some { cls := .type T, dict := od, data := .seq items nl, slots := osl }) (hsls : isSubtype (.type T) (.type "set") = pure false) (hslf : isSubtype (.type T) (.type "frozenset") = pure false)
    (hne : (Value.type T == Value.type "dict") = false) {Q : Value → Shared → Prop} {Z : Shared → Prop}
    (hZ : ∀ s', Z s' → Q (.ref s.heap.objs.size) s')
    (loop : wpAny (model P w) A.in1.in1 (pyIter (.ref l)) (fun it s2 => codeAny (model P w) A.in1.in1 (.builtin "set.update.loop" ⟨[.ref s.heap.objs.size, it], []⟩) (wants (fun _ s' => Z s') E) s2) E { s with heap := s.heap.push (s0 w) }) :
    wpAny (model P w) A (call (.type "set") [.ref l]) Q E s := by
  obtain ⟨c, tl, hmro⟩ := F.called_set.mro
  have hmade := F.called_set.made
  have hsub := F.called_set.sub
  refine wpAny_call (codeAny_of_tree ?_)
  show wpAny _ _ (callAny (.type "set") _) _ _ _
  refine wpAny_pure ⟨Code.quiet_builtin _ (by decide +kernel), codeAny_builtin F.entry_type_call ?_⟩
  rw [Around.under_plain (weight_type_call_type "set" [.ref l] []) rfl]
  have h1 := F.called_set.notType
  have h2 := F.called_set.canCreate
  have hct := F.typeCall_set_1 (.ref l)
  repeat (any_goals (first | assumption | wp_step))
  refine codeAny_mono (code_set_led1 (.ref l) (E := E) (Q₁ := fun obj s₁ => obj = .ref s.heap.objs.size ∧ s₁ = { s with heap := s.heap.push (s0 w) }) ⟨rfl, rfl⟩) fun r s₁ hr => ?_
  cases r with
  | error e => exact hr
  | ok fl =>
    cases fl with
    | ret obj =>
      obtain ⟨rfl, rfl⟩ := hr
      have hS : (s.heap.push (s0 w)).get? s.heap.objs.size = some (s0 w) := Heap.get?_push_size _ rfl
      have hT : Shared.TypeIs { s with heap := s.heap.push (s0 w) } (.ref s.heap.objs.size) "set" := ⟨_, hS, rfl⟩
      have hli := F.called_set.init.lookup
      have hbi := F.called_set.init.bind (.ref s.heap.objs.size)
      repeat (any_goals (first | assumption | wp_step))
      refine codeAny_mono (codeAny_call_builtin (R := wants (fun r s₂ => r = .none ∧ Z s₂) E) F.called_set.init.plain F.entry_set_init (check_set_init_1 hT ?_)) fun r₂ s₂ hr₂ => ?_
      · have hol' : (s.heap.push (s0 w)).get? l = some { cls := .type T, dict := od, data := .seq items nl, slots := osl } := Heap.get?_push_of_some _ hol
        unfold Builtin.«set.__init__» noKeywords Builtin.Frozenset.updateFrom
        generalize hPI : pyIter = PI
        wp_walk
        subst hPI
        refine wpAny_mono loop (fun it s2 h => wpAny_bind (wpAny_runValue (codeAny_mono h fun r s3 hr => ?_))) (fun e s' h => h)
        cases r with
        | error e => exact hr
        | ok fl =>
          cases fl with
          | ret u =>
            show wpAny _ _ _ _ _ _
            refine wpAny_pure ?_
            show wpAny _ _ (ret Value.none) _ _ _
            exact wpAny_pure ⟨rfl, hr⟩
          | _ => exact hr.elim
      · cases r₂ with
        | error e => exact hr₂
        | ok fl₂ =>
          cases fl₂ with
          | ret r =>
            obtain ⟨rfl, hz⟩ := hr₂
            repeat (any_goals (first | assumption | wp_step))
            exact hZ _ hz
          | _ => exact hr₂.elim
    | _ => exact hr.elim
end
end ML
set_option maxHeartbeats 6400000
namespace ML
open PySem PySem.Spec PyProof.Rows L2
/-- how many distinct texts -/
def du : List Str → Nat
  | [] => 0
  | x :: r => (if x ∈ r then 0 else 1) + du r
theorem du_le : ∀ l : List Str, du l ≤ l.length
  | [] => Nat.le_refl _
  | x :: r => by
    have := du_le r
    unfold du
    rw [List.length_cons]
    split <;> omega
theorem du_nodup : ∀ {l : List Str}, du l = l.length ↔ l.Nodup
  | [] => by simp [du]
  | x :: r => by
    have ih := du_nodup (l := r)
    have h := du_le r
    rw [List.nodup_cons]
    unfold du
    rw [List.length_cons]
    by_cases hx : x ∈ r
    · rw [if_pos hx]
      constructor
      · intro e; omega
      · rintro ⟨z, _⟩; exact absurd hx z
    · rw [if_neg hx]
      constructor
      · intro e; exact ⟨hx, ih.mp (by omega)⟩
      · rintro ⟨_, z⟩
        have := ih.mpr z
        omega
section
variable {P : Program} {w : World} {A : Around} {E : Value → Shared → Prop} {s : Shared}
/-- the walk that adds texts: what was added is told from the last on -/
theorem set_strs {R : Result → Shared → Prop} {I : Addr} {fp wr : List Addr} {G : Array GenState → Array GenState → Prop} {n : Nat} {Pv : Nat → Value → Prop} {St : Nat → Shared → Prop} (W : WalksS P w A.in1 I fp wr G n Pv St) (S : Addr) (hSf : S ∉ fp) (xs : List Str) (hsz : xs.length = n) (hn1 : n ≤ 1000)
    (hval : ∀ i v, Pv i v → ∃ x t, xs[i]? = some x ∧ v = .str x t) :
    ∀ (k i : Nat) (s : Shared), n - i = k → i ≤ n → St i s → s.heap.SetOf (PySem.strKind P w) S (fun k' => decide (k' ∈ (xs.take i).reverse)) (du (xs.take i).reverse) →
      (∀ s', Moved (S :: wr) G s s' → s'.heap.SetOf (PySem.strKind P w) S (fun k' => decide (k' ∈ xs.reverse)) (du xs.reverse) → R (.ok (.ret .none)) s') →
      codeAny (model P w) A (.builtin "set.update.loop" ⟨[.ref S, .ref I], []⟩) R s := by
  have hSw : S ∉ wr := fun h => hSf (W.sub _ h)
  intro k
  induction k with
  | zero =>
    intro i s hk hi hst hS hR
    obtain rfl : i = n := by omega
    refine codeAny_builtin PyProof.Rows.F.entry_set_update_loop ?_
    rw [Around.under_plainId PyProof.Rows.F.plain_set_update_loop _]
    refine wpAny_bind (W.done s _ _ hst fun s' hm => ?_)
    refine wpAny_pure (hR s' (hm.mono fun b hb => List.mem_cons_of_mem _ hb) ?_)
    obtain ⟨o, es, ep, t, ho, rest⟩ := hS
    rw [← hsz, List.take_length] at rest
    exact ⟨o, es, ep, t, hm.heap S _ hSw ho, rest⟩
  | succ k ih =>
    intro i s hk hi hst hS hR
    have hlt : i < n := by omega
    refine codeAny_builtin PyProof.Rows.F.entry_set_update_loop ?_
    rw [Around.under_plainId PyProof.Rows.F.plain_set_update_loop _]
    refine wpAny_bind (W.item i s _ _ hlt hst fun v s' hP hst' hm => ?_)
    obtain ⟨x, t, hx, rfl⟩ := hval i v hP
    have hS' : s'.heap.SetOf (PySem.strKind P w) S (fun k' => decide (k' ∈ (xs.take i).reverse)) (du (xs.take i).reverse) := by
      obtain ⟨o, es, ep, tb, ho, rest⟩ := hS
      exact ⟨o, es, ep, tb, hm.heap S _ hSw ho, rest⟩
    have hdu := du_le (xs.take i).reverse
    rw [List.length_reverse, List.length_take] at hdu
    show wpAny _ A.in1 (holding [Value.str x t] (setAdd S (.str x t)) >>= _) _ _ s'
    refine wpAny_bind (wpAny_holding ?_)
    unfold setAdd
    refine wpAny_holding ?_
    refine wpAny_bind ((PySem.strKind P w).pyHash (k := x) (strKind_is _ _ _ _) ?_)
    refine wpAny_setAddHashed_of (knd := PySem.strKind P w) (s := { s' with toks := s'.toks + 1 }) (strKind_is _ _ _ _) rfl hS' (by unfold scanBound; omega) fun h' hsb hS2 => ?_
    have et : (xs.take (i + 1)).reverse = x :: (xs.take i).reverse := by
      rw [List.take_add_one, hx]
      simp
    have hSi : h'.SetOf (PySem.strKind P w) S (fun k' => decide (k' ∈ (xs.take (i + 1)).reverse)) (du (xs.take (i + 1)).reverse) := by
      rw [et]
      refine SetOf_congr hS2 (fun k' => ?_) ?_
      · simp [Bool.or_comm]
      · rw [show du (x :: (xs.take i).reverse) = (if x ∈ (xs.take i).reverse then 0 else 1) + du (xs.take i).reverse from rfl]
        by_cases hm : x ∈ (xs.take i).reverse
        · rw [if_pos hm, if_pos (decide_eq_true hm), Nat.zero_add]
        · rw [if_neg hm, if_neg (by simp only [decide_eq_true_eq]; exact hm), Nat.add_comm]
    refine wpAny_pure ⟨plainId_quiet PyProof.Rows.F.plain_set_update_loop _, ih (i + 1) _ (by omega) hlt (W.frame _ s' _ _ hst' (Nat.le_succ _) fun b hb o e => ?_) hSi fun s'' hm'' hS'' => ?_⟩
    · rw [hsb.2 b (fun h : b = S => hSf (by rw [← h]; exact hb))]; exact e
    · refine hR s'' (Moved.trans W.gtrans ((hm.mono fun b hb => List.mem_cons_of_mem _ hb).then_heap (Nat.le_succ _) fun b o hb e => ?_) hm'') hS''
      rw [hsb.2 b (fun h : b = S => hb (by rw [h]; exact List.mem_cons_self))]; exact e
end
section
variable {X : Cx}
/-- len(set(xs)), xs a tuple of texts -/
def tLenSetT (K : PySem.W.Frag) (ta : TE) : TE := fun σ H Q => ta σ H fun x H1 => ∃ l, ∃ xs : List Str, x = .ref l ∧ SqT K H1 l (xs.map V.str) ∧ xs.length ≤ 1000 ∧ Q (.int (du xs.reverse : Nat)) H1
theorem pe_lenSetT {a : Expr} {ta : TE} {p p2 q pos : Pos} (hc : X.calm = true) (hg : Gl X "len") (hm : X.mg "len" = none) (hg2 : Gl X "set") (hm2 : X.mg "set" = none) (ha : PE X a ta)
    (na : starEach [a] X.env = (false, eval a X.env) :: starEach [] X.env := by rfl) : PE X (.Call (.Name "len" p) [.Call (.Name "set" p2) [a] [] q] [] pos) (tLenSetT X.K ta) := by
  refine ⟨fun pins s σ H Q I h => ?_⟩
  refine Call_ (ld_blt I hg hm PySem.boot_len ?_)
  refine PyProof.Rows.callWith_builtin1 (PyProof.Rows.args_cons ?_ rfl) rfl rfl
  refine Call_ (ld_blt I hg2 hm2 boot_set ?_)
  refine PyProof.Rows.callWith_type1 (PyProof.Rows.args_cons (thn (ha.run pins s σ H _ I h) fun v s1 ⟨x, H1, I1, r1, q1⟩ => PyProof.Rows.args_nil ?_) na) na rfl
  obtain ⟨l, xs, rfl, hq, h1, q1⟩ := q1
  cases r1
  obtain ⟨its, r, pl, hz⟩ := I1.tuple hq
  have hlen : its.toArray.size = xs.length := by rw [List.size_toArray, ← r.length, List.length_map]
  have hval : ∀ (i : Nat) (v : Value), its.toArray[i]? = some v → ∃ x t, xs[i]? = some x ∧ v = .str x t := fun i v hv => by
    have hv : its[i]? = some v := by simpa using hv
    have hi : i < xs.length := by rw [← hlen, List.size_toArray]; exact (List.getElem?_eq_some_iff.mp hv).1
    obtain ⟨t, e⟩ := SS.strs_at (strsAre_of r) i v hv
    refine ⟨xs[i], t, List.getElem?_eq_getElem hi, ?_⟩
    rw [e, List.getD_eq_getElem?_getD, List.getElem?_eq_getElem hi]
    rfl
  have fin : ∀ (h' : Heap) (tk : Nat), h'.SetOf (PySem.strKind X.prog X.w) s1.heap.objs.size (fun k' => decide (k' ∈ xs.reverse)) (du xs.reverse) → (∀ b o, s1.heap.get? b = some o → h'.get? b = some o) →
      wpAny (model X.prog X.w) X.A (spliced (backTo pos (starEach [] X.env))) (fun vs s₂ => wpAny (model X.prog X.w) X.A (call (.builtin "len") (Value.ref s1.heap.objs.size :: vs)) (EP X pins σ Q) X.xe s₂) X.xe { s1 with heap := h', toks := tk } := fun h' tk hS hk => by
    refine PyProof.Rows.args_nil ?_
    obtain ⟨o, es, ep, t, ho, hex, hd, _, _, _, hf, hn⟩ := hS
    have I2 : Inv X pins σ H1 { s1 with heap := h', toks := tk } := I1.kept hk
    have hdu := du_le xs.reverse
    rw [List.length_reverse] at hdu
    refine call_len_set ho hex hd hf (by rw [hn]; omega) ⟨.int (du xs.reverse : Nat), H1, I2.tok _, ⟨_, by rw [hn]⟩, q1⟩
  obtain ⟨ol, hol, hcl, nl, hdl⟩ := pl
  obtain ⟨ocls, odict, odata, oslots⟩ := ol
  simp only at hcl hdl
  subst hcl hdl
  refine set_call (T := "tuple") (Z := fun s' => ∃ h' tk, s' = { s1 with heap := h', toks := tk } ∧ h'.SetOf (PySem.strKind X.prog X.w) s1.heap.objs.size (fun k' => decide (k' ∈ xs.reverse)) (du xs.reverse) ∧ ∀ b o, s1.heap.get? b = some o → h'.get? b = some o) hol F.sub_tuple_set F.sub_tuple_frozenset (by decide) (fun s' ⟨h', tk, e, hS, hk⟩ => by rw [e]; exact fin h' tk hS hk) ?_
  have hS : (s1.heap.push (s0 X.w)).get? s1.heap.objs.size = some (s0 X.w) := Heap.get?_push_size _ rfl
  have hl1 : (s1.heap.push (s0 X.w)).IsTuple l its.toArray := ⟨_, Heap.get?_push_of_some _ hol, rfl, nl, rfl⟩
  refine wpAny_pyIter_tuple hl1 ?_
  have hlS : l < s1.heap.objs.size := Heap.lt_size hol
  have hh3 : X.A.in1.in1.in1.handled = none := by simp [I1.ok.hd hc]
  have hneI : l ≠ (s1.heap.push (s0 X.w)).objs.size := by
    rw [Heap.size_push]
    exact Nat.ne_of_lt (Nat.lt_succ_of_lt hlS)
  have hSf : s1.heap.objs.size ∉ [(s1.heap.push (s0 X.w)).objs.size, l] := by
    rw [Heap.size_push]
    simp only [List.mem_cons, List.not_mem_nil, or_false, not_or]
    exact ⟨Nat.ne_of_lt (Nat.lt_succ_self _), Nat.ne_of_gt hlS⟩
  refine set_strs ((Walks.tuple hh3 _ l hneI its.toArray).toS) s1.heap.objs.size hSf xs hlen.symm (by omega) hval (its.toArray.size - 0) 0 _ (by omega) (Nat.zero_le _) ⟨⟨_, Heap.get?_push_size _ rfl, rfl, rfl⟩, (hl1.push _)⟩ ?_ ?_
  · exact PyProof.Rows.SetOf_congr ((PyProof.Rows.setObjOf_fresh (knd := PySem.strKind X.prog X.w) _).setOf (Heap.get?_push_of_some _ hS) (by unfold scanBound; omega)) (fun k => by simp) rfl
  · intro s' hm hS'
    obtain ⟨h', g', d', tk', os'⟩ := s'
    have eg : g' = s1.gens := hm.gens
    have ed : d' = s1.drawn := hm.drawn
    have eo : os' = s1.os := hm.os
    subst eg; subst ed; subst eo
    refine ⟨h', tk', rfl, hS', fun b o e => ?_⟩
    have hb := Heap.lt_size e
    have hb1 : b ≠ s1.heap.objs.size := Nat.ne_of_lt hb
    have hb2 : b ≠ (s1.heap.push (s0 X.w)).objs.size := by
      rw [Heap.size_push]
      exact Nat.ne_of_lt (Nat.lt_succ_of_lt hb)
    exact hm.heap b o (by simp only [List.mem_cons, List.not_mem_nil, or_false, not_or]; exact ⟨hb1, hb2⟩) (Heap.get?_push_of_some _ (Heap.get?_push_of_some _ e))
/-- set(xs), xs a list of ints -/
def rSetL (K : PySem.W.Frag) (w : World) : List V → Hp → VK → Prop := fun vs H Q => ∃ (p : Addr) (ns : List Int), vs = [.ref p] ∧ SqL K H p (ns.map V.int) ∧ ns.length ≤ 1000 ∧ ∀ a c, H a = none → c ≤ ns.length → Q (.ref a) (upd H a (SetO w a (fun j => decide (j ∈ ns)) c))
theorem cr_setL (hc : X.calm = true) : CallR X (.type "set") (rSetL X.K X.w) := by
  intro pins s1 σ H vs us Q I1 r h
  obtain ⟨l, ns, rfl, hq, h1, q⟩ := h
  rw [Vals.ref1 r]
  obtain ⟨its, rv, pl, hz⟩ := I1.list hq
  have hit : IntsAre its ns := Vals.ints rv
  have hlen : its.toArray.size = ns.length := by rw [List.size_toArray, ← rv.length, List.length_map]
  have hn : H s1.heap.objs.size = none := I1.hok.fresh (Nat.le_refl _)
  have pl := pl.isList
  obtain ⟨ol, hol, hcl, nl, hdl⟩ := pl
  obtain ⟨ocls, odict, odata, oslots⟩ := ol
  simp only at hcl hdl
  subst hcl hdl
  refine set_call (T := "list") (Z := fun s' => ∃ h' tk c, s' = { s1 with heap := h', toks := tk } ∧ SetR X.w h' s1.heap.objs.size (fun j => decide (j ∈ ns)) c ∧ c ≤ ns.length ∧ ∀ b o, s1.heap.get? b = some o → h'.get? b = some o) hol F.sub_list_set F.sub_list_frozenset (by decide) (fun s' ⟨h', tk, c, e, hS, hcn, hk⟩ => by
    rw [e]
    exact ⟨.ref s1.heap.objs.size, upd H s1.heap.objs.size (SetO X.w s1.heap.objs.size (fun j => decide (j ∈ ns)) c), I1.laid (t' := tk) hk (Nat.le_refl _) (setO_new hS), rfl, q _ c hn hcn⟩) ?_
  have hS : (s1.heap.push (s0 X.w)).get? s1.heap.objs.size = some (s0 X.w) := Heap.get?_push_size _ rfl
  have hl1 : (s1.heap.push (s0 X.w)).IsList l its.toArray := ⟨_, Heap.get?_push_of_some _ hol, rfl, nl, rfl⟩
  refine wpAny_pyIter_list hl1 ?_
  have hlS : l < s1.heap.objs.size := Heap.lt_size hol
  have hh3 : X.A.in1.in1.in1.handled = none := by simp [I1.ok.hd hc]
  have hneI : l ≠ (s1.heap.push (s0 X.w)).objs.size := by
    rw [Heap.size_push]
    exact Nat.ne_of_lt (Nat.lt_succ_of_lt hlS)
  have hSf : s1.heap.objs.size ∉ [(s1.heap.push (s0 X.w)).objs.size, l] := by
    rw [Heap.size_push]
    simp only [List.mem_cons, List.not_mem_nil, or_false, not_or]
    exact ⟨Nat.ne_of_lt (Nat.lt_succ_self _), Nat.ne_of_gt hlS⟩
  have hval : ∀ (i : Nat) (v : Value), its.toArray[i]? = some v → ∃ k t, ns[i]? = some k ∧ v = .int k t := fun i v hv => by
    have hv : its[i]? = some v := by simpa using hv
    have hi : i < ns.length := by rw [← hlen, List.size_toArray]; exact (List.getElem?_eq_some_iff.mp hv).1
    obtain ⟨t, e⟩ := PyProof.Rows.IntsAre.int_at hit i v hv
    refine ⟨ns[i], t, List.getElem?_eq_getElem hi, ?_⟩
    rw [e, List.getD_eq_getElem?_getD, List.getElem?_eq_getElem hi]
    rfl
  refine set_update_ints ((Walks.list hh3 _ l hneI its.toArray).toS) s1.heap.objs.size hSf ns hlen (by unfold scanBound; omega) hval (its.toArray.size - 0) 0 _ (by omega) (Nat.zero_le _) ⟨⟨_, Heap.get?_push_size _ rfl, rfl, rfl⟩, (hl1.push _)⟩ ?_ ?_
  · exact ⟨0, Nat.le_refl _, setR_new_at (Heap.get?_push_of_some _ hS)⟩
  · intro s' c' hm hc' hS'
    obtain ⟨h', g', d', tk', os'⟩ := s'
    have eg : g' = s1.gens := hm.gens
    have ed : d' = s1.drawn := hm.drawn
    have eo : os' = s1.os := hm.os
    subst eg; subst ed; subst eo
    refine ⟨h', tk', c', rfl, hS', by omega, fun b o e => ?_⟩
    have hb := Heap.lt_size e
    have hb1 : b ≠ s1.heap.objs.size := Nat.ne_of_lt hb
    have hb2 : b ≠ (s1.heap.push (s0 X.w)).objs.size := by
      rw [Heap.size_push]
      exact Nat.ne_of_lt (Nat.lt_succ_of_lt hb)
    exact hm.heap b o (by simp only [List.mem_cons, List.not_mem_nil, or_false, not_or]; exact ⟨hb1, hb2⟩) (Heap.get?_push_of_some _ (Heap.get?_push_of_some _ e))
end
end ML
set_option maxHeartbeats 4000000
namespace ML
open PySem PySem.Spec PyProof.Rows L2 TL Gn
section
variable {X : Cx} {C : Addr} {bmB : List Value} {B newId initId : String}
/-- X(), X an own exception class without own __init__ -/
theorem pmk_own0 {x : Str} {p pos : Pos} (F : ExcBaseFacts B newId initId bmB) (q : PySem.W.excIn X.K C bmB newId = true) (gC : X.mg x = some (.ref C)) (kC : PySem.W.keepIn X.K (.ref C) = true) (r : Raises X (.ref C)) (hg : Gl X x)
    (hdb : (x == ("__debug__" : Str)) = false := by decide) : PMk X (.Call (.Name x p) [] [] pos) (fun _ H Q => Q (.ref C) none H) := by
  intro pins s σ H Q I h
  refine wpAny_Call_Name_kw (ld_glob I hg gC ?_ hdb)
  refine PySem.W.callWith_K0 I.kIn kC ?_
  show wpAny _ _ (call (.ref C) []) _ _ _
  obtain ⟨bm, N, nm, qn, bs, hdct, sn, sub, ab, col, dd, k0, k1, k2, k3, k5, mN, hC, hN, hni, T⟩ := exc_obj I.kIn q
  refine wpAny_call_exc_subT F T hC hN hni (fun h' e hm => ?_) (Nat.zero_le _)
  exact mk_of I hm r h (I.hok.gone hm.new)
end
structure BWc (K : PySem.W.Frag) (mg : Str → Option Value) (C : Addr) : Prop where
  q : PySem.W.excIn K C [.type "ValueError", .type "Exception", .type "BaseException", .type "object"] "ValueError.__new__" = true
  m : mg "BadWords" = some (.ref C)
  kp : PySem.W.keepIn K (.ref C) = true
  exC : PySem.W.subIn K (.ref C) (.type "BaseException") = some true
  tyC : PySem.W.typeIn K (.ref C) = some (.type "type")
/-- BadWords() is let out -/
def EBW (GT : List Addr) (C : Addr) (H : Hp) (E : XK) : Prop := ∀ H', Ext GT [] H H' → E (.ref C) none H'
/-- words that fit -/
structure GoodW (H : Hp) (v : V) (n : Nat) (ws : List Str) : Prop where
  at_ : ∃ p, v = .ref p ∧ H p = some (.tup (ws.map V.str))
  len : ws.length = n
  few : n ≤ 3
  word : ∀ z ∈ ws, isWordF z = true
  nodup : ws.Nodup
/-- values that do not fit -/
inductive BadW (H : Hp) (n : Nat) : V → Prop
  | non : BadW H n .non
  | lst {p : Addr} {xs : List V} (e : H p = some (.lst xs)) : BadW H n (.ref p)
  | len {p : Addr} {xs : List V} (e : H p = some (.tup xs)) (h : xs.length ≠ n) : BadW H n (.ref p)
  | item {p : Addr} {xs : List V} (e : H p = some (.tup xs)) (h : ∀ x ∈ xs, (∃ z : Str, x = .str z ∧ z.length ≤ 100000) ∨ ∃ i, x = .int i) (b : ∃ x ∈ xs, (∃ i, x = .int i) ∨ ∃ z : Str, x = .str z ∧ isWordF z = false) : BadW H n (.ref p)
  | dup {p : Addr} {ws : List Str} (e : H p = some (.tup (ws.map V.str))) (h : ∀ z ∈ ws, isWordF z = true) (hl : ws.length ≤ 1000) (d : ¬ ws.Nodup) : BadW H n (.ref p)
def spNW (GT : List Addr) (C : Addr) : Sp := fun vs H Q E => ∃ (vm v : V) (m : Mill), vs = [vm, v] ∧ DAt H vm m.d ∧ Tbs GT H ∧ ((∃ ws, GoodW H v m.names.length ws ∧ ∀ H', Ext GT [] H H' → Q .non H') ∨ BadW H m.names.length v ∧ EBW GT C H E)
section
variable {P : Program} {w : World} {K : PySem.W.Frag} {mg : Str → Option Value} {base : Heap} {f c C : Addr} {fd : FuncData} {GT : List Addr} {tp : Addr}
theorem ok_needWords (F : FunC K "need_words" "need_words" sNeedWords f fd c) (T : Bl mg) (W : BWc K mg C) (TB : LamX.TabB base mg c tp) (hP : tp ∈ GT) (Gw : Cal P w K mg base 2 "is_word" pIsWord (spIsWord GT)) : FnOk P w K mg base (L2.CX P w) 4 f fd pNeedWords (spNW GT C) := by
  refine F.okX scNeedWords (fun vs H Q E h => ?_) (fun A outer s H vs Q E hr h => ?_)
  · obtain ⟨vm, v, m, rfl, _⟩ := h
    rfl
  obtain ⟨vm, v, m, rfl, hm, tt, h⟩ := h
  refine ⟨_, pss_cons (ps_if (PW.pt (pw_or (pt_not (pt_val (pe_callB call_isY (by rfl) T.isinstance boot_isinstance (pa_cons (pv 1) (pa_cons (pe_bltn (v := .ty "tuple") (by rfl) T.tuple boot_tuple rfl) pa_nil))))) (pw_or (pt_cmpR op_ne (pe_callB call_len_seq (by rfl) T.len PySem.boot_len (pa_cons (pv 1) pa_nil)) (pe_callB call_len_seq (by rfl) T.len PySem.boot_len (pa_cons (pe_ix ix_tup (pv 0) pe_int (fun _ _ => rfl)) pa_nil)) (nomark _)) (pw_or1 (pt_not (pt_val (pe_allG (own := [("word", 2)]) (k := 2) hr rfl scNeedWords.nd (by rfl) T.all TB rfl (gblk_by (N := nNeedWords) (sc := defScope sNeedWords) (by decide +kernel)) (pi_tup (pv 1)) (fun A' s' H' cl C' code bi fp hr' => pg_name (i := 2) scNeedWords.nd rfl (.inl rfl)) (fun A' s' H' cl C' code bi fp hr' => pe_cal Gw hr' rfl (pa_cons (pv 2) pa_nil))))))))) (pss_one (ps_raise rfl (takes_of rfl rfl rfl rfl) (pmk_own0 PySem.F.excBase_ValueError W.q W.m W.kp (raises_own W.exC W.tyC) rfl))) pss_nil) (pss_one (ps_if (pt_cmpR op_ne (pe_lenSetT rfl (by rfl) T.len (by rfl) T.set (pv 1)) (pe_callB call_len_seq (by rfl) T.len PySem.boot_len (pa_cons (pv 1) pa_nil)) (nomark _)) (pss_one (ps_raise rfl (takes_of rfl rfl rfl rfl) (pmk_own0 PySem.F.excBase_ValueError W.q W.m W.kp (raises_own W.exC W.tyC) rfl))) pss_nil)), ?_⟩
  obtain ⟨p, a, b, d, e, rfl, hp, ha, hb, hd, he⟩ := DAt.tup4 hm
  obtain ⟨pb, xb, rfl, hpb, ab⟩ := DAt.all hb
  have elb : xb.length = m.names.length := by rw [ab.1, List.length_map]
  have split : (v = .non ∧ EBW GT C H E) ∨ (∃ pv xs, v = .ref pv ∧ H pv = some (.lst xs) ∧ EBW GT C H E) ∨ (∃ pv xs, v = .ref pv ∧ H pv = some (.tup xs) ∧ ((xs.length ≠ m.names.length ∧ EBW GT C H E) ∨ (xs.length = m.names.length ∧ (((∀ x ∈ xs, (∃ z : Str, x = .str z ∧ z.length ≤ 100000) ∨ ∃ i, x = .int i) ∧ (∃ x ∈ xs, (∃ i, x = .int i) ∨ ∃ z : Str, x = .str z ∧ isWordF z = false) ∧ EBW GT C H E) ∨
      ∃ ws : List Str, xs = ws.map V.str ∧ (∀ z ∈ ws, isWordF z = true) ∧ ws.length ≤ 1000 ∧ (ws.Nodup → ∀ H', Ext GT [] H H' → Q .non H') ∧ (¬ ws.Nodup → EBW GT C H E))))) := by
    rcases h with ⟨ws, g, q⟩ | ⟨b, q⟩
    · obtain ⟨pv, rfl, hv⟩ := g.at_
      refine .inr (.inr ⟨pv, _, rfl, hv, .inr ⟨by rw [List.length_map, g.len], .inr ⟨ws, rfl, g.word, by have := g.few; have := g.len; omega, fun _ => q, fun z => absurd g.nodup z⟩⟩⟩)
    · cases b with
      | non => exact .inl ⟨rfl, q⟩
      | lst e => exact .inr (.inl ⟨_, _, rfl, e, q⟩)
      | len e h => exact .inr (.inr ⟨_, _, rfl, e, .inl ⟨h, q⟩⟩)
      | @item pv xs e h b =>
        by_cases hl : xs.length = m.names.length
        · exact .inr (.inr ⟨_, _, rfl, e, .inr ⟨hl, .inl ⟨h, b, q⟩⟩⟩)
        · exact .inr (.inr ⟨_, _, rfl, e, .inl ⟨hl, q⟩⟩)
      | @dup pv ws e h hl d =>
        by_cases hl2 : (ws.map V.str).length = m.names.length
        · exact .inr (.inr ⟨_, _, rfl, e, .inr ⟨hl2, .inr ⟨ws, rfl, h, hl, fun z => absurd z d, fun _ => q⟩⟩⟩)
        · exact .inr (.inr ⟨_, _, rfl, e, .inl ⟨hl2, q⟩⟩)
  rcases split with ⟨rfl, q⟩ | ⟨pv, xs, rfl, hv, q⟩ | ⟨pv, xs, rfl, hv, hx⟩
  · exact ⟨_, rfl, _, _, _, false, rfl, .non, kb, _, rfl, iteT (iteT (q H .refl))⟩
  · exact ⟨_, rfl, _, _, _, false, rfl, .lst hv, kb, _, rfl, iteT (iteT (q H .refl))⟩
  refine ⟨_, rfl, _, _, _, true, rfl, .tup hv, kb, _, rfl, iteF ?_⟩
  refine ⟨_, rfl, pv, _, rfl, .inr (SqT.of hv), _, rfl, p, _, _, _, rfl, rfl, SqT.of hp, atI_nat (j := 1) rfl, pb, _, rfl, .inr (SqT.of hpb), rfl, _, rfl, ?_⟩
  rcases hx with ⟨hl, q⟩ | ⟨hl, hx⟩
  · refine iteNDF (fun z => hl (by rw [elb] at z; injection z with z; omega)) (iteT (q H .refl))
  refine iteNDT (by rw [elb, hl]) ?_
  refine not_q fun Q' hQ => ?_
  refine ⟨_, rfl, pv, rfl, ⟨_, SqT.of hv⟩, ?_⟩
  rcases hx with ⟨hall, hbad, q⟩ | ⟨ws, rfl, hw, h1000, qn, qe⟩
  · refine allG_tup (xs := xs) (fun i H' => Ext GT [] H H' ∧ ∀ x ∈ xs.take i, ∃ z : Str, x = .str z ∧ isWordF z = true) (tt tp hP) (fun H2 htb => ⟨Ext.tabbed htb (tt tp hP) hP, by simp⟩) (fun i H' hi hv2 => SqT.of (hv2.1.tups _ _ hv)) (fun x => by rfl) (fun i x H' hi hv2 => ?_) (fun H' hv2 => ?_)
    · obtain ⟨x1, hin⟩ := hv2
      rcases hall x (List.mem_of_getElem? hi) with ⟨z, rfl, hz⟩ | ⟨j, rfl⟩
      · refine ⟨_, rfl, .str z, rfl, tt.ext x1, .inl ⟨z, rfl, by omega, fun H2 x2 => ⟨_, rfl, ?_⟩⟩⟩
        cases hwz : isWordF z with
        | true =>
          refine iteT ⟨x1.trans x2, fun x hx => ?_⟩
          rw [List.take_add_one, hi] at hx
          rcases List.mem_append.mp hx with z1 | z1
          · exact hin x z1
          · rw [List.mem_singleton.mp z1]
            exact ⟨z, rfl, hwz⟩
        | false => exact iteF (hQ _ _ (iteT (q _ (x1.trans x2))))
      · refine ⟨_, rfl, .int j, rfl, tt.ext x1, .inr ⟨⟨j, rfl⟩, ⟨_, rfl, ?_⟩⟩⟩
        exact iteF (hQ _ _ (iteT (q _ x1)))
    · obtain ⟨x1, hin⟩ := hv2
      rw [List.take_length] at hin
      obtain ⟨x, hx, hb⟩ := hbad
      obtain ⟨z, rfl, hz⟩ := hin x hx
      rcases hb with ⟨j, hj⟩ | ⟨z2, hz2, hz3⟩
      · cases hj
      · cases hz2
        rw [hz] at hz3
        cases hz3
  · refine allG_tup (xs := ws.map V.str) (fun i H' => Ext GT [] H H') (tt tp hP) (fun H2 htb => Ext.tabbed htb (tt tp hP) hP) (fun i H' hi hv2 => SqT.of (hv2.tups _ _ hv)) (fun x => by rfl) (fun i x H' hi x1 => ?_) (fun H' x1 => ?_)
    · rw [List.getElem?_map] at hi
      obtain ⟨z, hz, rfl⟩ := Option.map_eq_some_iff.mp hi
      have hwz := hw z (List.mem_of_getElem? hz)
      refine ⟨_, rfl, .str z, rfl, tt.ext x1, .inl ⟨z, rfl, by have := (isWord_ok hwz).2.1; omega, fun H2 x2 => ⟨_, rfl, ?_⟩⟩⟩
      rw [hwz]
      exact iteT (x1.trans x2)
    · refine hQ _ _ (iteF ?_)
      have hv1 := x1.tups _ _ hv
      refine ⟨_, rfl, pv, ws, rfl, SqT.of hv1, h1000, _, rfl, pv, _, rfl, .inr (SqT.of hv1), rfl, _, rfl, ?_⟩
      have hdn : du ws.reverse = ws.length ↔ ws.Nodup := by
        rw [← List.length_reverse, du_nodup]
        exact (List.reverse_perm ws).nodup_iff
      by_cases hn : ws.Nodup
      · refine iteNDT (by rw [hdn.mpr hn, List.length_map]) ?_
        exact qn hn H' x1
      · refine iteNDF (fun z => hn (hdn.mp (by rw [List.length_map] at z; injection z with z; omega))) ?_
        exact qe hn H' x1
end
end ML
set_option maxHeartbeats 4000000
namespace ML
open PySem PySem.Spec PyProof.Rows L2 TL Gn
abbrev numS (n : Nat) : Str := Str.ofString (toString (n : Int))
def l0F (m : Mill) : Str := ("letters " : Str) ++ numS m.letters
def nameLF (w : Str) (n : Nat × Nat) : Str := ("name " : Str) ++ w ++ (" " : Str) ++ numS n.1 ++ (" from " : Str) ++ numS n.2
def tellF (ws : List Str) (told : List Nat) : Str := ("tells " : Str) ++ Txt.join " " (told.map fun i => ws.getD i (Str.ofString ""))
def eqLF (ws : List Str) (e : Tm × Tm) : Str := W ws e.1 0 ++ (" = " : Str) ++ W ws e.2 0
def linesF (m : Mill) (ws : List Str) : List Str := [l0F m] ++ (ws.zip m.names).map (fun x => nameLF x.1 x.2) ++ [tellF ws m.told] ++ m.eqs.map (eqLF ws)
def textF (m : Mill) (ws : List Str) : Str := Txt.join "" ((linesF m ws).map fun l => l ++ ("\n" : Str))
def spWr (GT : List Addr) (C : Addr) : Sp := fun vs H Q E => ∃ (vm v : V) (m : Mill), vs = [vm, v] ∧ DAt H vm m.d ∧ m.ok ∧ Tbs GT H ∧ ((∃ ws, GoodW H v m.names.length ws ∧ ∀ H', Ext GT [] H H' → Q (.str (textF m ws)) H') ∨ BadW H m.names.length v ∧ EBW GT C H E)
theorem snocS (L : List Str) (x : Str) : some (HO.lst ((L ++ [x]).map V.str)) = some (HO.lst (L.map V.str ++ [V.str x])) := by
  rw [List.map_append]
  rfl
theorem sum_le {n : Nat} : ∀ {l : List Str}, (∀ z ∈ l, z.length ≤ n) → (l.map (·.length)).sum ≤ l.length * n
  | [], _ => by simp
  | x :: r, h => by
    have := sum_le (l := r) fun z hz => h z (List.mem_cons_of_mem _ hz)
    have := h x List.mem_cons_self
    simp only [List.map_cons, List.sum_cons, List.length_cons, Nat.succ_mul]
    omega
theorem join_len (y : Str) (l : List Str) (h : (l.map (·.length)).sum + l.length * y.length ≤ 1000000) : (Txt.join y l).length ≤ 1000000 := by
  rw [join_eq]
  refine Nat.le_trans ?_ h
  clear h
  induction l with
  | nil => exact Nat.zero_le _
  | cons a r ih =>
    cases r with
    | nil => simp [Str.join]
    | cons b r =>
      show (a ++ y ++ Str.join y (b :: r)).length ≤ _
      rw [len_app, len_app]
      simp only [List.map_cons, List.sum_cons, List.length_cons, Nat.succ_mul] at ih ⊢
      omega
theorem join_len2 (y : Str) : ∀ l : List Str, (Txt.join y l).length ≤ (l.map (·.length)).sum + l.length * y.length
  | [] => by rw [join_eq]; exact Nat.zero_le _
  | [a] => by rw [join_eq]; simp [Str.join]
  | a :: b :: r => by
    have ih := join_len2 y (b :: r)
    rw [join_eq] at ih ⊢
    show (a ++ y ++ Str.join y (b :: r)).length ≤ _
    rw [len_app, len_app]
    simp only [List.map_cons, List.sum_cons, List.length_cons, Nat.succ_mul] at ih ⊢
    omega
theorem num_le4 (n : Nat) (h : n ≤ 100) : (numS n).length ≤ 4 := len_num (by omega) (by omega)
theorem lines_len {m : Mill} {ws : List Str} (ok : m.ok) (hl : ws.length = m.names.length) (w8 : ∀ z ∈ ws, z.length ≤ 8) : ∀ z ∈ linesF m ws, z.length ≤ 50000 := by
  intro z hz
  unfold linesF at hz
  rcases List.mem_append.mp hz with hz | hz
  · rcases List.mem_append.mp hz with hz | hz
    · rcases List.mem_append.mp hz with hz | hz
      · rw [List.mem_singleton.mp hz]
        have := num_le4 m.letters (by have := ok.letters.2; omega)
        have e8 : ("letters " : Str).length = 8 := by decide
        show (("letters " : Str) ++ numS m.letters).length ≤ _
        rw [len_app]
        omega
      · obtain ⟨⟨wd, nm⟩, hx, rfl⟩ := List.mem_map.mp hz
        obtain ⟨h1, h2⟩ := List.of_mem_zip hx
        obtain ⟨k1, k2, k3⟩ := ok.names.each nm h2
        have n1 := num_le4 nm.1 (by omega)
        have n2 := num_le4 nm.2 (by omega)
        have := w8 wd h1
        have c1 : ("name " : Str).length = 5 := by decide
        have c2 : (" " : Str).length = 1 := by decide
        have c3 : (" from " : Str).length = 6 := by decide
        show (("name " : Str) ++ wd ++ (" " : Str) ++ numS nm.1 ++ (" from " : Str) ++ numS nm.2).length ≤ _
        rw [len_app, len_app, len_app, len_app, len_app]
        omega
    · rw [List.mem_singleton.mp hz]
      have tl8 : ∀ z ∈ m.told.map fun j => ws.getD j (Str.ofString ""), z.length ≤ 8 := fun z hz => by
        obtain ⟨j, hj, rfl⟩ := List.mem_map.mp hz
        have hjw : j < ws.length := by rw [hl]; exact ok.told.each j hj
        rw [List.getD_eq_getElem?_getD, List.getElem?_eq_getElem hjw]
        exact w8 _ (List.getElem_mem hjw)
      have ts := sum_le tl8
      have tf := ok.told.few
      rw [List.length_map] at ts
      have c2 : (" " : Str).length = 1 := by decide
      have c6 : ("tells " : Str).length = 6 := by decide
      show (("tells " : Str) ++ Txt.join " " (m.told.map fun j => ws.getD j (Str.ofString ""))).length ≤ _
      rw [len_app, c6]
      have := join_len2 " " (m.told.map fun j => ws.getD j (Str.ofString ""))
      rw [List.length_map, c2] at this
      omega
  · obtain ⟨e, he, rfl⟩ := List.mem_map.mp hz
    obtain ⟨oa, ob⟩ := ok.eqs e he
    obtain ⟨da, db⟩ := ok.deep e he
    rw [← hl] at oa ob
    have La := W_len w8 e.1 0 oa
    have Lb := W_len w8 e.2 0 ob
    have pa4 : 4 ^ e.1.deep ≤ 4 ^ 5 := Nat.pow_le_pow_right (by decide) da
    have pb4 : 4 ^ e.2.deep ≤ 4 ^ 5 := Nat.pow_le_pow_right (by decide) db
    have c3 : (" = " : Str).length = 3 := by decide
    show (W ws e.1 0 ++ (" = " : Str) ++ W ws e.2 0).length ≤ _
    rw [len_app, len_app]
    omega
section
variable {P : Program} {w : World} {K : PySem.W.Frag} {mg : Str → Option Value} {base : Heap} {f c C fnw : Addr} {fd fdnw : FuncData} {GT : List Addr} {tp : Addr}
theorem ok_written (F : FunC K "written" "written" sWritten f fd c) (T : Bl mg) (Gnd : Cal P w K mg base 16 "need_mill" pNeedMill (spNeedMill GT)) (Fnw : FnOk P w K mg base (L2.CX P w) 4 fnw fdnw pNeedWords (spNW GT C)) (mnw : mg "need_words" = some (.ref fnw)) (bnw : Binds K fdnw pNeedWords []) (knw : PySem.W.keepIn K (.ref fnw) = true)
    (Gtt : Cal P w K mg base 6 "term_text" pTermText (spW 5)) : FnOk P w K mg base (L2.CX P w) 17 f fd pWritten (spWr GT C) := by
  refine F.okX scWritten (fun vs H Q E h => ?_) (fun A outer s H vs Q E hr h => ?_)
  · obtain ⟨vm, v, m, rfl, _⟩ := h
    rfl
  obtain ⟨vm, v, m, rfl, hm, okm, tt, h⟩ := h
  refine ⟨_, pss_cons (ps_expr (pe_cal Gnd (hr.mono (by omega)) rfl (pa_cons (pv 0) pa_nil))) (pss_cons (ps_expr (pe_callS Fnw (hr.mono (by omega)) rfl mnw knw bnw (fun σ => passAt (takes_of rfl rfl rfl rfl) σ) (pa_cons (pv 0) (pa_cons (pv 1) pa_nil)))) (pss_cons (ps_set (i := 2) scWritten.nd rfl (.inl rfl) (pe_lst (pa_cons (pe_op op_add_str pe_str (pe_callTy call_str_int (by rfl) T.str boot_str (pa_cons (pe_ix ix_tup (pv 0) pe_int (fun _ _ => rfl)) pa_nil))) pa_nil))) (pss_cons (ps_for (passes_of rfl) rfl (RZ.pi_zipA (by rfl) T.zip (pa_cons (pv 1) (pa_cons (pe_ix ix_tup (pv 0) pe_int (fun _ _ => rfl)) pa_nil))) (pg_tup rfl (pgs_cons (pg_name (i := 3) scWritten.nd rfl (.inl rfl)) (pgs_cons (pg_name (i := 4) scWritten.nd rfl (.inl rfl)) pgs_nil))) (pss_one (ps_expr (pe_bm PySem.F.plainAttrs_list PySem.F.slot_list_append PySem.F.type_list_append mt_append (pv 2) (pa_cons (pe_op op_add_str (pe_op op_add_str (pe_op op_add_str (pe_op op_add_str (pe_op op_add_str pe_str (pv 3)) pe_str) (pe_callTy call_str_int (by rfl) T.str boot_str (pa_cons (pe_ix ix_tup (pv 4) pe_int (fun _ _ => rfl)) pa_nil))) pe_str) (pe_callTy call_str_int (by rfl) T.str boot_str (pa_cons (pe_ix ix_tup (pv 4) pe_int (fun _ _ => rfl)) pa_nil))) pa_nil))))) (pss_cons (ps_expr (pe_bm PySem.F.plainAttrs_list PySem.F.slot_list_append PySem.F.type_list_append mt_append (pv 2) (pa_cons (pe_op op_add_str pe_str (pe_join pe_str (pe_lc (own := [("name", 4)]) rfl scWritten.nd (pi_tup (pe_ix ix_tup (pv 0) pe_int (fun _ _ => rfl))) (blkOk_by (own := [("name", 4)]) (N := nWritten) (sc := defScope sWritten) (by decide +kernel)) (fun _ _ _ _ _ => pg_name (i := 4) scWritten.nd rfl (.inl rfl)) (fun _ _ _ _ _ => pts_nil) (fun _ _ _ _ _ => pe_ix (ix_tupK (K := K)) (pv 1) (pv 4) (fun _ _ => rfl))))) pa_nil))) (pss_cons (ps_for (passes_of rfl) rfl (pi_tup (pe_ix ix_tup (pv 0) pe_int (fun _ _ => rfl))) (pg_tup rfl (pgs_cons (pg_name (i := 5) scWritten.nd rfl (.inl rfl)) (pgs_cons (pg_name (i := 6) scWritten.nd rfl (.inl rfl)) pgs_nil))) (pss_one (ps_expr (pe_bm PySem.F.plainAttrs_list PySem.F.slot_list_append PySem.F.type_list_append mt_append (pv 2) (pa_cons (pe_op op_add_str (pe_op op_add_str (pe_cal Gtt (hr.mono (by omega)) rfl (pa_cons (pv 5) (pa_cons (pv 1) (pa_cons pe_int pa_nil)))) pe_str) (pe_cal Gtt (hr.mono (by omega)) rfl (pa_cons (pv 6) (pa_cons (pv 1) (pa_cons pe_int pa_nil))))) pa_nil))))) (pss_one (ps_ret (pe_join pe_str (pe_lc (own := [("line", 7)]) rfl scWritten.nd (pi_list (pv 2)) (blkOk_by (own := [("line", 7)]) (N := nWritten) (sc := defScope sWritten) (by decide +kernel)) (fun _ _ _ _ _ => pg_name (i := 7) scWritten.nd rfl (.inl rfl)) (fun _ _ _ _ _ => pts_nil) (fun _ _ _ _ _ => pe_op op_add_str (pv 7) pe_str)))))))))), ?_⟩
  refine ⟨_, rfl, vm, m, rfl, hm, okm, tt, fun H1 x1 => ?_⟩
  refine ⟨_, rfl, _, rfl, vm, v, m, rfl, hm.ext x1, tt.ext x1, ?_⟩
  have bext : ∀ {n : Nat} {v : V}, BadW H n v → BadW H1 n v := fun b => by
    cases b with
    | non => exact .non
    | lst e => exact .lst (x1.lst e)
    | len e h => exact .len (x1.tups _ _ e) h
    | item e h b => exact .item (x1.tups _ _ e) h b
    | dup e h hl d => exact .dup (x1.tups _ _ e) h hl d
  rcases h with ⟨ws, g, q⟩ | ⟨b, q⟩
  · obtain ⟨pw, rfl, hpw⟩ := g.at_
    refine .inl ⟨ws, ⟨⟨pw, rfl, x1.tups _ _ hpw⟩, g.len, g.few, g.word, g.nodup⟩, fun H2 x2 => ?_⟩
    have xA := x1.trans x2
    obtain ⟨p, a, b, d, e, rfl, hp, ha, hb, hd, he⟩ := DAt.tup4 hm
    have ha := ha.intI
    subst ha
    obtain ⟨l1, l2⟩ := okm.letters
    have wl8 : ∀ z ∈ ws, z.length ≤ 8 := fun z hz => (isWord_ok (g.word z hz)).2.1
    have num4 : ∀ n : Nat, n ≤ 100 → (Str.ofString (toString (n : Int))).length ≤ 4 := fun n h => len_num (by omega) (by omega)
    refine ⟨_, rfl, p, _, _, _, rfl, rfl, SqT.of (xA.tups _ _ hp), atI_nat (j := 0) rfl, _, rfl, log_small (by omega), _, _, rfl, rfl, line100 (by have := num4 m.letters (by omega); have e8 : ("letters " : Str).length = 8 := (by decide); omega), (by show 1 ≤ sizeLine; decide), fun pl hpl => ?_⟩
    have y1 : Ext GT [] H2 (upd H2 pl (.lst [.str (l0F m)])) := .new hpl
    have p1 : (upd H2 pl (.lst [.str (l0F m)])) pl = some (.lst ([l0F m].map V.str)) := upd_same
    rw [show (Str.ofString "letters " ++ Str.ofString (toString (m.letters : Int))) = l0F m from rfl]
    generalize upd H2 pl (.lst [.str (l0F m)]) = H3 at y1 p1 ⊢
    obtain ⟨pb, xb, rfl, hpb, ab⟩ := DAt.all hb
    have elb : xb.length = m.names.length := by rw [ab.1, List.length_map]
    have few := g.few
    refine ⟨_, rfl, _, rfl, p, _, _, _, rfl, rfl, SqT.of ((xA.trans y1).tups _ _ hp), atI_nat (j := 1) rfl, pw, pb, _, _, rfl, .inr ⟨SqT.of ((xA.trans y1).tups _ _ hpw), SqT.of ((xA.trans y1).tups _ _ hpb), ?_⟩⟩
    refine RZ.for_zipT (xs := ws.map V.str) (ys := xb) (by rw [List.length_map, g.len, elb]) (fun i σ' H' => ∃ (a3 a4 : Option V), σ' = [some (.ref p), some (.ref pw), some (.ref pl), a3, a4, none, none, none] ∧ Ext GT [] H2 H' ∧ H' pl = some (.lst (([l0F m] ++ ((ws.zip m.names).take i).map fun x => nameLF x.1 x.2).map V.str)))
      ⟨none, none, rfl, y1, p1⟩ (fun i σ' H' hv => by obtain ⟨_, _, _, y, _⟩ := hv; exact ⟨SqT.of ((xA.trans y).tups _ _ hpw), SqT.of ((xA.trans y).tups _ _ hpb)⟩) (fun i x y T0 σ' H' hx hy hv hT => ?_) (fun σ' H' hv => ?_)
    · obtain ⟨a3, a4, rfl, y2, hl⟩ := hv
      rw [List.getElem?_map] at hx
      obtain ⟨wd, hwd, rfl⟩ := Option.map_eq_some_iff.mp hx
      obtain ⟨dn, hdn, hyd⟩ := ab.get hy
      rw [List.getElem?_map] at hdn
      obtain ⟨nm, hnm, rfl⟩ := Option.map_eq_some_iff.mp hdn
      obtain ⟨pt, u, v, rfl, hpt, du, dv⟩ := DAt.tup2 hyd
      have du := du.intI
      have dv := dv.intI
      subst du dv
      have yT : Ext GT [] H' (upd H' T0 (.tup [.str wd, .ref pt])) := .new hT
      have eT : (upd H' T0 (.tup [.str wd, .ref pt])) T0 = some (.tup [.str wd, .ref pt]) := upd_same
      generalize upd H' T0 (.tup [.str wd, .ref pt]) = H4 at yT eT ⊢
      have hpt4 := ((xA.trans y2).trans yT).tups _ _ hpt
      obtain ⟨k1, k2, k3⟩ := okm.names.each nm (List.mem_of_getElem? hnm)
      have n1 := num4 nm.1 (by omega)
      have n2 := num4 nm.2 (by omega)
      have w8 := wl8 wd (List.mem_of_getElem? hwd)
      have c1 : ("name " : Str).length = 5 := by decide
      have c2 : (" " : Str).length = 1 := by decide
      have c3 : (" from " : Str).length = 6 := by decide
      have hl4 := yT.lst hl
      refine ⟨T0, _, rfl, SqT.of eT, rfl, .str wd, _, rfl, .ref pt, _, rfl, rfl, ?_⟩
      refine ⟨_, rfl, .inl ⟨rfl, _, SqL.of hl4⟩, _, rfl, _, _, rfl, rfl, line100 (by omega), _, _, rfl, rfl, line100 (by rw [len_app]; omega), ?_⟩
      refine ⟨_, rfl, pt, _, _, _, rfl, rfl, SqT.of hpt4, atI_nat (j := 0) rfl, _, rfl, log_small (by omega), _, _, rfl, rfl, line100 (by rw [len_app, len_app]; omega), _, _, rfl, rfl, line100 (by rw [len_app, len_app, len_app]; omega), ?_⟩
      refine ⟨_, rfl, pt, _, _, _, rfl, rfl, SqT.of hpt4, atI_nat (j := 1) rfl, _, rfl, log_small (by omega), _, _, rfl, rfl, line100 (by rw [len_app, len_app, len_app, len_app]; omega), ?_⟩
      have hz : (ws.zip m.names)[i]? = some (wd, nm) := by rw [List.getElem?_zip_eq_some]; exact ⟨hwd, hnm⟩
      have hzl : (ws.zip m.names).length ≤ 3 := by rw [List.length_zip, g.len]; omega
      refine ⟨pl, _, _, rfl, rfl, hl4, ?_, some (.str wd), some (.ref pt), rfl, (y2.trans yT).mutN hpl, ?_⟩
      · rw [List.length_map, List.length_append, List.length_map, List.length_take]
        exact Nat.lt_of_lt_of_le (by show 1 + _ < 1000000; omega) (by decide)
      · rw [upd_same, List.take_add_one, hz, show [l0F m] ++ List.map (fun x => nameLF x.1 x.2) ((ws.zip m.names).take i ++ (some (wd, nm)).toList) = ([l0F m] ++ ((ws.zip m.names).take i).map fun x => nameLF x.1 x.2) ++ [nameLF wd nm] by rw [List.map_append, ← List.append_assoc]; rfl]
        exact (snocS _ (nameLF wd nm)).symm
    · obtain ⟨a3, a4, rfl, y2, hl⟩ := hv
      rw [List.length_map, List.take_of_length_le (by rw [List.length_zip, g.len]; omega)] at hl
      obtain ⟨pd, xd, rfl, hpd, ad⟩ := DAt.all hd
      have hxd : xd = m.told.map fun (i : Nat) => V.int i := by
        have := allD_intI (zs := m.told.map fun (i : Nat) => (i : Int)) (H := H) (xs := xd) (by rw [List.map_map]; exact ad)
        rw [this, List.map_map]
        rfl
      subst hxd
      have xB := xA.trans y2
      refine ⟨_, rfl, .inl ⟨rfl, _, SqL.of hl⟩, ⟨_, rfl⟩, _, rfl, p, _, _, _, rfl, rfl, SqT.of (xB.tups _ _ hp), atI_nat (j := 2) rfl, pd, rfl, ⟨_, SqT.of (xB.tups _ _ hpd)⟩, fun D0 hD => ?_⟩
      refine lc_tup (xs := m.told.map fun (i : Nat) => V.int i) (Acc GT [] H' D0 (fun i ds => ds = (m.told.take i).map fun j => D.str (ws.getD j (Str.ofString "")))) (acc0 hD rfl) (fun i H5 hi ac => SqT.of ((xB.trans ac.ext).tups _ _ hpd)) (fun i x H5 hx ac => ?_) (fun H5 ac => ?_)
      · rw [List.getElem?_map] at hx
        obtain ⟨j, hj, rfl⟩ := Option.map_eq_some_iff.mp hx
        have hjw : j < ws.length := by rw [g.len]; exact okm.told.each j (List.mem_of_getElem? hj)
        have hi : i < 1000000 := by
          have := (List.getElem?_eq_some_iff.mp hj).1
          have := okm.told.few
          omega
        refine ⟨rfl, _, rfl, _, rfl, pw, _, _, _, rfl, rfl, SqT.of ((xB.trans ac.ext).tups _ _ hpw), atI_nat (j := j) (w_getD hjw), ?_⟩
        exact ac.step hD (by simp) hi .refl (.str _) fun ds e => map_Gs (f := fun j => D.str (ws.getD j (Str.ofString ""))) hj e
      · obtain ⟨⟨ds, l, gg, _⟩, x5⟩ := ac
        have gg : ds = (m.told.take (m.told.map fun (i : Nat) => V.int i).length).map fun j => D.str (ws.getD j (Str.ofString "")) := gg
        rw [List.length_map, List.take_length] at gg
        have gg : ds = (m.told.map fun j => ws.getD j (Str.ofString "")).map D.str := by rw [gg, List.map_map]; rfl
        subst gg
        have l := l.str
        have tl8 : ∀ z ∈ m.told.map fun j => ws.getD j (Str.ofString ""), z.length ≤ 8 := fun z hz => by
          obtain ⟨j, hj, rfl⟩ := List.mem_map.mp hz
          have hjw : j < ws.length := by rw [g.len]; exact okm.told.each j hj
          rw [List.getD_eq_getElem?_getD, List.getElem?_eq_getElem hjw]
          exact wl8 _ (List.getElem_mem hjw)
        have tsum := sum_le tl8
        rw [List.length_map] at tsum
        have tfew := okm.told.few
        have c2 : (" " : Str).length = 1 := by decide
        have c6 : ("tells " : Str).length = 6 := by decide
        have jl := join_len " " (m.told.map fun j => ws.getD j (Str.ofString "")) (by rw [List.length_map, c2]; omega)
        have hl5 := x5.lst hl
        refine ⟨_, D0, _, rfl, rfl, .inl (SqL.of l), by rw [List.length_map, c2]; omega, ?_⟩
        have jl2 : (Txt.join " " (m.told.map fun j => ws.getD j (Str.ofString ""))).length + 6 ≤ 16777216 := by omega
        refine ⟨_, _, rfl, rfl, ?_, pl, _, _, rfl, rfl, hl5, ?_, ?_⟩
        · rw [c6, PySem.sizeLine_eq]
          omega
        · rw [List.length_map, List.length_append, List.length_map, List.length_zip, g.len]
          exact Nat.lt_of_lt_of_le (by show 1 + _ < 1000000; omega) (by decide)
        have z6 : Ext GT [] H2 (upd H5 pl (.lst (([l0F m] ++ (ws.zip m.names).map fun x => nameLF x.1 x.2).map V.str ++ [.str (tellF ws m.told)]))) := (y2.trans x5).mutN hpl
        have e6 : (upd H5 pl (.lst (([l0F m] ++ (ws.zip m.names).map fun x => nameLF x.1 x.2).map V.str ++ [.str (tellF ws m.told)]))) pl = some (.lst (([l0F m] ++ ((ws.zip m.names).map fun x => nameLF x.1 x.2) ++ [tellF ws m.told] ++ ([] : List (Tm × Tm)).map (eqLF ws)).map V.str)) := by
          rw [upd_same, List.map_nil, List.append_nil]
          exact (snocS _ _).symm
        show tNext _ _ (upd H5 pl (.lst (([l0F m] ++ (ws.zip m.names).map fun x => nameLF x.1 x.2).map V.str ++ [.str (tellF ws m.told)])))
        generalize upd H5 pl (.lst (([l0F m] ++ (ws.zip m.names).map fun x => nameLF x.1 x.2).map V.str ++ [.str (tellF ws m.told)])) = H6 at z6 e6 ⊢
        obtain ⟨pe, xe, rfl, hpe, ae⟩ := DAt.all he
        have xel : xe.length = m.eqs.length := by rw [ae.1, List.length_map]
        have fewE := okm.few
        have zlen : (ws.zip m.names).length ≤ 3 := by rw [List.length_zip, g.len]; omega
        refine ⟨_, rfl, p, _, _, _, rfl, rfl, SqT.of ((xA.trans z6).tups _ _ hp), atI_nat (j := 3) rfl, pe, rfl, ⟨_, SqT.of ((xA.trans z6).tups _ _ hpe)⟩, ?_⟩
        refine for_tup (xs := xe) (fun i σ' H' => ∃ (a3 a4 a5 a6 : Option V), σ' = [some (.ref p), some (.ref pw), some (.ref pl), a3, a4, a5, a6, none] ∧ Ext GT [] H2 H' ∧ H' pl = some (.lst (([l0F m] ++ ((ws.zip m.names).map fun x => nameLF x.1 x.2) ++ [tellF ws m.told] ++ (m.eqs.take i).map (eqLF ws)).map V.str)))
          ⟨a3, a4, none, none, rfl, z6, e6⟩ (fun i σ' H' hi hv => by obtain ⟨_, _, _, _, _, y, _⟩ := hv; exact SqT.of ((xA.trans y).tups _ _ hpe)) (fun i x σ' H' hx hv => ?_) (fun σ' H' hv => ?_)
        · obtain ⟨b3, b4, b5, b6, rfl, y7, h7⟩ := hv
          obtain ⟨de, hde, hxe⟩ := ae.get hx
          rw [List.getElem?_map] at hde
          obtain ⟨q2, hq2, rfl⟩ := Option.map_eq_some_iff.mp hde
          obtain ⟨pt, u, v, rfl, hpt, du, dv⟩ := DAt.tup2 hxe
          obtain ⟨oa, ob⟩ := okm.eqs q2 (List.mem_of_getElem? hq2)
          obtain ⟨da5, db5⟩ := okm.deep q2 (List.mem_of_getElem? hq2)
          rw [← g.len] at oa ob
          have xC := xA.trans y7
          have c3 : (" = " : Str).length = 3 := by decide
          have La := W_len wl8 q2.1 0 oa
          have Lb := W_len wl8 q2.2 0 ob
          have pa4 : 4 ^ q2.1.deep ≤ 4 ^ 5 := Nat.pow_le_pow_right (by decide) da5
          have pb4 : 4 ^ q2.2.deep ≤ 4 ^ 5 := Nat.pow_le_pow_right (by decide) db5
          refine ⟨pt, _, rfl, SqT.of (xC.tups _ _ hpt), rfl, u, _, rfl, v, _, rfl, rfl, ?_⟩
          refine ⟨_, rfl, .inl ⟨rfl, _, SqL.of h7⟩, _, rfl, _, rfl, ?_⟩
          refine ⟨u, q2.1, pw, ws, 0, rfl, du.ext xC, oa, da5, by decide, xC.tups _ _ hpw, wl8, fun H8 s8 => ?_⟩
          have y8 : Ext GT [] H' H8 := .same s8
          refine ⟨_, _, rfl, rfl, line100 (by omega), _, rfl, _, rfl, ?_⟩
          refine ⟨v, q2.2, pw, ws, 0, rfl, dv.ext (xC.trans y8), ob, db5, by decide, (xC.trans y8).tups _ _ hpw, wl8, fun H9 s9 => ?_⟩
          have y9 : Ext GT [] H8 H9 := .same s9
          have h9 := (y8.trans y9).lst h7
          refine ⟨_, _, rfl, rfl, line100 (by rw [len_app]; omega), pl, _, _, rfl, rfl, h9, ?_, b3, b4, some u, some v, rfl, ((y7.trans y8).trans y9).mutN hpl, ?_⟩
          · rw [List.length_map, List.length_append, List.length_append, List.length_append, List.length_map, List.length_map, List.length_take]
            exact Nat.lt_of_lt_of_le (by show 1 + _ + 1 + _ < 1000000; omega) (by decide)
          · rw [upd_same, List.take_add_one, hq2, show [l0F m] ++ ((ws.zip m.names).map fun x => nameLF x.1 x.2) ++ [tellF ws m.told] ++ List.map (eqLF ws) (m.eqs.take i ++ (some q2).toList) = ([l0F m] ++ ((ws.zip m.names).map fun x => nameLF x.1 x.2) ++ [tellF ws m.told] ++ (m.eqs.take i).map (eqLF ws)) ++ [eqLF ws q2] by rw [List.map_append, ← List.append_assoc]; rfl]
            exact (snocS _ (eqLF ws q2)).symm
        · obtain ⟨b3, b4, b5, b6, rfl, y7, h7⟩ := hv
          rw [xel, List.take_length] at h7
          have h7 : H' pl = some (.lst ((linesF m ws).map V.str)) := h7
          have Llen : (linesF m ws).length ≤ 11 := by
            unfold linesF
            rw [List.length_append, List.length_append, List.length_append, List.length_map, List.length_map]
            show 1 + _ + 1 + _ ≤ 11
            omega
          refine ⟨⟨_, rfl⟩, _, rfl, pl, rfl, ⟨_, SqL.of h7⟩, fun D1 hD1 => ?_⟩
          have lineL : ∀ z ∈ linesF m ws, z.length ≤ 50000 := lines_len okm g.len wl8
          refine lc_list (xs := (linesF m ws).map V.str) (Acc GT [] H' D1 (fun i ds => ds = ((linesF m ws).take i).map fun z => D.str (z ++ ("\n" : Str)))) (acc0 hD1 rfl) (fun i H8 hi ac => SqL.of (ac.ext.lst h7)) (fun i x H8 hx ac => ?_) (fun H8 ac => ?_)
          · rw [List.getElem?_map] at hx
            obtain ⟨z, hz, rfl⟩ := Option.map_eq_some_iff.mp hx
            have zl := lineL z (List.mem_of_getElem? hz)
            have hi : i < 1000000 := by
              have := (List.getElem?_eq_some_iff.mp hz).1
              omega
            have c1 : ("\n" : Str).length = 1 := by decide
            refine ⟨rfl, _, rfl, _, _, rfl, rfl, line100 (by omega), ?_⟩
            exact ac.step hD1 (by simp) hi .refl (.str _) fun ds e => map_Gs (f := fun z => D.str (z ++ ("\n" : Str))) hz e
          · obtain ⟨⟨ds, l8, gg, _⟩, x8⟩ := ac
            have gg : ds = ((linesF m ws).take ((linesF m ws).map V.str).length).map fun z => D.str (z ++ ("\n" : Str)) := gg
            rw [List.length_map, List.take_length] at gg
            have gg : ds = ((linesF m ws).map fun z => z ++ ("\n" : Str)).map D.str := by rw [gg, List.map_map]; rfl
            subst gg
            have l8 := l8.str
            have c1 : ("\n" : Str).length = 1 := by decide
            have jsum := sum_le (n := 50001) (l := (linesF m ws).map fun z => z ++ ("\n" : Str)) fun z hz => by
              obtain ⟨z0, hz0, rfl⟩ := List.mem_map.mp hz
              have := lineL z0 hz0
              rw [len_app]
              omega
            rw [List.length_map] at jsum
            have c0 : ("" : Str).length = 0 := by decide
            refine ⟨_, D1, _, rfl, rfl, .inl (SqL.of l8), by rw [c0, Nat.mul_zero]; omega, ?_⟩
            exact q _ ((xA.trans y7).trans x8)
  · exact .inr ⟨bext b, fun H2 x2 => q _ (x1.trans x2)⟩
end
end ML
set_option maxHeartbeats 4000000
namespace ML
open PySem PySem.Spec PyProof.Rows L2 TL Gn
/-- the row of draws -/
structure RowAt (K : PySem.W.Frag) (H : Hp) (r : Addr) (sc : Addr × List Int) : Prop where
  ex : ∃ (i s k : Int), H r = some (.lst [.ref sc.1, .int i, .int s, .int k]) ∧ SqL K H sc.1 (sc.2.map V.int) ∧ (sc.1 ≠ r ∨ ∀ H', SqL K H' sc.1 (sc.2.map V.int)) ∧ 0 ≤ i ∧ 0 ≤ s ∧ s < 2147483647
theorem SqL.extM {K : PySem.W.Frag} {GT M : List Addr} {H H' : Hp} {p : Addr} {xs : List V} (s : SqL K H p xs) (x : Ext GT M H H') (h : p ∉ M) : SqL K H' p xs := by
  rcases s with s | s
  · rcases s with s | ⟨o, s⟩
    · exact .inl (.inl (x.lstM s h))
    · exact .inl (.inr ⟨o, x.keep _ _ s (fun _ z => by cases z) h⟩)
  · exact .inr s
theorem SqL.extR {K : PySem.W.Frag} {GT M : List Addr} {H H' : Hp} {p : Addr} {xs : List V} (s : SqL K H p xs) (x : Ext GT M H H') (h : p ∉ M ∨ ∀ H', SqL K H' p xs) : SqL K H' p xs := h.elim (SqL.extM s x) fun h => h H'
theorem RowAt.ext {K : PySem.W.Frag} {GT : List Addr} {H H' : Hp} {r : Addr} {sc : Addr × List Int} (a : RowAt K H r sc) (x : Ext GT [] H H') : RowAt K H' r sc := by
  obtain ⟨i, s, k, h, hs, hne, b⟩ := a.ex
  exact ⟨i, s, k, x.lst h, SqL.extM hs x (by simp), hne, b⟩
theorem RowAt.ne {K : PySem.W.Frag} {H : Hp} {r p : Addr} {sc : Addr × List Int} (a : RowAt K H r sc) (h : H p = none) : p ≠ r := fun z => by
  obtain ⟨_, _, _, e, _⟩ := a.ex
  rw [z, e] at h
  cases h
/-- a row stands when what was new ahead is written -/
theorem RowAt.put {K : PySem.W.Frag} {H0 H : Hp} {r p : Addr} {o : HO} {sc : Addr × List Int} (a0 : RowAt K H0 r sc) (h0 : H0 p = none) (a : RowAt K H r sc) : RowAt K (upd H p o) r sc := by
  have hpr := a0.ne h0
  obtain ⟨_, _, _, _, hs0, _⟩ := a0.ex
  obtain ⟨i, s, k, e, hs, hne, b⟩ := a.ex
  refine ⟨i, s, k, by rw [upd_ne hpr.symm]; exact e, ?_, hne, b⟩
  rcases hs0 with hs0 | hs0
  · have hp : sc.1 ≠ p := fun z => by
      rcases hs0 with e0 | ⟨o0, e0⟩
      · rw [z, h0] at e0; cases e0
      · rw [z, h0] at e0; cases e0
    rcases hs with hs | hs
    · rcases hs with e1 | ⟨o1, e1⟩
      · exact .inl (.inl (by rw [upd_ne hp]; exact e1))
      · exact .inl (.inr ⟨o1, by rw [upd_ne hp]; exact e1⟩)
    · exact .inr hs
  · exact .inr hs0
def spTaken (K : PySem.W.Frag) : Sp := fun vs H Q _ => ∃ (r : Addr) (n : Nat) (sc : Addr × List Int), vs = [.ref r, .int n] ∧ RowAt K H r sc ∧ 0 < n ∧ n < 1000000 ∧ ∀ (j : Nat) H', j < n → Ext [] [r] H H' → RowAt K H' r sc → Q (.int j) H'
section
variable {P : Program} {w : World} {K : PySem.W.Frag} {mg : Str → Option Value} {base : Heap} {f c C fnw : Addr} {fd fdnw : FuncData} {GT : List Addr} {tp : Addr}
theorem ok_taken (F : FunC K "_law_taken" "_law_taken" sLTaken f fd c) (T : Bl mg) : FnOk P w K mg base CX0 1 f fd pLTaken (spTaken K) := by
  refine F.ok scLTaken (fun vs H Q E h => ?_) (fun A outer s H vs Q E hr h => ?_)
  · obtain ⟨r, n, sc, rfl, _⟩ := h
    rfl
  obtain ⟨r, n, ⟨ps, xs⟩, rfl, hrow, n0, n1, q⟩ := h
  refine ⟨_, pss_cons (ps_if (pt_cmpR op_gt (pe_ix ix_list (pv 0) pe_int (fun _ _ => rfl)) pe_int (nomark _)) (pss_cons (ps_set (i := 2) scLTaken.nd rfl (.inl rfl) (pe_op op_mod (pe_callTy call_int1 (by rfl) T.int boot_int (pa_cons (pe_ix ix_list (pv 0) pe_int (fun _ _ => rfl)) pa_nil)) (pv 1))) (pss_cons (ps_asg (pe_op op_fdiv (pe_ix ix_list (pv 0) pe_int (fun _ _ => rfl)) (pv 1)) (pg_sub (pv 0) pe_int set_list (fun _ => rfl))) (pss_one (ps_ret (pv 2))))) pss_nil) (pss_cons (ps_asg (pe_op op_add (pe_ix ix_list (pv 0) pe_int (fun _ _ => rfl)) pe_int) (pg_sub (pv 0) pe_int set_list (fun _ => rfl))) (pss_cons (ps_if (pt_cmpR op_gt (pe_ix ix_list (pv 0) pe_int (fun _ _ => rfl)) (pe_callB call_len_seq (by rfl) T.len PySem.boot_len (pa_cons (pe_ix ix_list (pv 0) pe_int (fun _ _ => rfl)) pa_nil)) (nomark _)) (pss_cons (ps_asg (pe_op op_mod (pe_callTy call_int1 (by rfl) T.int boot_int (pa_cons (pe_op op_add (pe_op op_mul (pe_ix ix_list (pv 0) pe_int (fun _ _ => rfl)) pe_int) pe_int) pa_nil)) pe_int) (pg_sub (pv 0) pe_int set_list (fun _ => rfl))) (pss_one (ps_ret (pe_op op_mod (pe_callTy call_int1 (by rfl) T.int boot_int (pa_cons (pe_op op_fdiv (pe_ix ix_list (pv 0) pe_int (fun _ _ => rfl)) pe_int) pa_nil)) (pv 1))))) pss_nil) (pss_cons (ps_set (i := 3) scLTaken.nd rfl (.inl rfl) (pe_ix ix_list (pe_ix ix_list (pv 0) pe_int (fun _ _ => rfl)) (pe_op op_sub (pe_ix ix_list (pv 0) pe_int (fun _ _ => rfl)) pe_int) (fun _ _ => rfl))) (pss_cons (ps_asg (pe_op op_mod (pe_callTy call_int1 (by rfl) T.int boot_int (pa_cons (pe_op op_add (pe_op op_add (pe_op op_mul (pe_ix ix_list (pv 0) pe_int (fun _ _ => rfl)) pe_int) (pv 3)) pe_int) pa_nil)) pe_int) (pg_sub (pv 0) pe_int set_list (fun _ => rfl))) (pss_cons (ps_if (pt_cmpR op_ge (pv 3) (pe_op op_pow pe_int pe_int) (nomark _)) (pss_one (ps_asg (pe_op op_fdiv (pv 3) (pv 1)) (pg_sub (pv 0) pe_int set_list (fun _ => rfl)))) pss_nil) (pss_one (ps_ret (pe_op op_mod (pe_callTy call_int1 (by rfl) T.int boot_int (pa_cons (pv 3) pa_nil)) (pv 1))))))))), ?_⟩
  obtain ⟨i, s0, k, hR, hS, hne, i0, s00, s01⟩ := hrow.ex
  simp only at hR hS hne
  refine ⟨_, rfl, r, _, _, _, rfl, rfl, SqL.of hR, atI_nat (j := 3) rfl, _, _, rfl, rfl, _, rfl, ?_⟩
  have fin : ∀ (a : Int) (H' : Hp), Ext [] [r] H H' → (∃ (i s k : Int), H' r = some (.lst [.ref ps, .int i, .int s, .int k]) ∧ SqL K H' ps (xs.map V.int) ∧ (ps ≠ r ∨ ∀ H', SqL K H' ps (xs.map V.int)) ∧ 0 ≤ i ∧ 0 ≤ s ∧ s < 2147483647) → Q (.int (a % (n : Int))) H' := fun a H' x e => by
    have m0 : 0 ≤ a % (n : Int) := Int.emod_nonneg _ (by omega)
    have m1 : a % (n : Int) < n := Int.emod_lt_of_pos _ (by omega)
    rw [show a % (n : Int) = (((a % (n : Int)).toNat : Nat) : Int) by omega]
    exact q _ H' (by omega) x ⟨e⟩
  by_cases hk : 0 < k
  · refine iteDT hk ?_
    refine ⟨_, rfl, r, _, _, _, rfl, rfl, SqL.of hR, atI_nat (j := 3) rfl, .inl ⟨_, rfl, _, rfl, _, _, rfl, rfl, (by omega), ?_⟩⟩
    refine ⟨_, rfl, r, _, _, _, rfl, rfl, SqL.of hR, atI_nat (j := 3) rfl, _, rfl, _, _, rfl, rfl, ⟨by omega, by omega⟩, ?_⟩
    refine ⟨_, rfl, ?_⟩
    refine ⟨r, _, 3, 3, rfl, rfl, hR, (by show ixN 4 3 = some 3; decide), ?_⟩
    have x1 : Ext [] [r] H (upd H r (.lst [.ref ps, .int i, .int s0, .int (k / n)])) := Ext.put hR
    refine ⟨_, rfl, ?_⟩
    exact fin k _ x1 ⟨i, s0, k / n, upd_same, SqL.extR hS x1 (hne.imp (fun z => by simp [z]) id), hne, i0, s00, s01⟩
  · refine iteDF hk ?_
    refine ⟨_, rfl, r, _, _, _, rfl, rfl, SqL.of hR, atI_nat (j := 1) rfl, _, _, rfl, rfl, ?_⟩
    refine ⟨_, rfl, r, _, 1, 1, rfl, rfl, hR, (by show ixN 4 1 = some 1; decide), ?_⟩
    have x1 : Ext [] [r] H (upd H r (.lst [.ref ps, .int (i + 1), .int s0, .int k])) := Ext.put hR
    have r1 : (upd H r (.lst [.ref ps, .int (i + 1), .int s0, .int k])) r = some (.lst [.ref ps, .int (i + 1), .int s0, .int k]) := upd_same
    have S1 := SqL.extR hS x1 (hne.imp (fun z => by simp [z]) id)
    show tNext _ _ (upd H r (.lst [.ref ps, .int (i + 1), .int s0, .int k]))
    generalize upd H r (.lst [.ref ps, .int (i + 1), .int s0, .int k]) = H1 at x1 r1 S1 ⊢
    refine ⟨_, rfl, r, _, _, _, rfl, rfl, SqL.of r1, atI_nat (j := 1) rfl, _, rfl, r, _, _, _, rfl, rfl, SqL.of r1, atI_nat (j := 0) rfl, ps, _, rfl, .inl S1, _, _, rfl, rfl, _, rfl, ?_⟩
    have hl : (xs.map V.int).length = xs.length := List.length_map _
    by_cases hlen : ((xs.map V.int).length : Int) < i + 1
    · refine iteDT hlen ?_
      have m0 : 0 ≤ (s0 * 48271 + 11) % 2147483647 := Int.emod_nonneg _ (by decide)
      have m1 : (s0 * 48271 + 11) % 2147483647 < 2147483647 := Int.emod_lt_of_pos _ (by decide)
      refine ⟨_, rfl, r, _, _, _, rfl, rfl, SqL.of r1, atI_nat (j := 2) rfl, _, _, rfl, rfl, .inr ⟨by decide, by decide⟩, _, _, rfl, rfl, .inl ⟨_, rfl, _, _, rfl, rfl, (by show (0 : Int) < 2147483647; decide), ?_⟩⟩
      refine ⟨_, rfl, r, _, 2, 2, rfl, rfl, r1, (by show ixN 4 2 = some 2; decide), ?_⟩
      have x2 : Ext [] [r] H1 (upd H1 r (.lst [.ref ps, .int (i + 1), .int ((s0 * 48271 + 11) % 2147483647), .int k])) := Ext.put r1
      have r2 : (upd H1 r (.lst [.ref ps, .int (i + 1), .int ((s0 * 48271 + 11) % 2147483647), .int k])) r = some (.lst [.ref ps, .int (i + 1), .int ((s0 * 48271 + 11) % 2147483647), .int k]) := upd_same
      have S2 := SqL.extR S1 x2 (hne.imp (fun z => by simp [z]) id)
      refine ⟨_, rfl, r, _, _, _, rfl, rfl, SqL.of r2, atI_nat (j := 2) rfl, _, _, rfl, rfl, ⟨by decide, by decide⟩, .inl ⟨_, rfl, _, rfl, _, _, rfl, rfl, (by omega), ?_⟩⟩
      exact fin _ _ (x1.trans x2) ⟨i + 1, _, k, upd_same, S2, hne, by omega, m0, m1⟩
    · refine iteDF hlen ?_
      have hi : i.toNat < xs.length := by omega
      obtain ⟨cell, hcell⟩ : ∃ cell, xs[i.toNat]? = some cell := ⟨_, List.getElem?_eq_getElem hi⟩
      have hat : atI (xs.map V.int) (i + 1 - 1) = some (.int cell) := by
        rw [show i + 1 - 1 = ((i.toNat : Nat) : Int) by omega]
        exact atI_nat (by rw [List.getElem?_map, hcell]; rfl)
      refine ⟨_, rfl, r, _, _, _, rfl, rfl, SqL.of r1, atI_nat (j := 0) rfl, _, rfl, r, _, _, _, rfl, rfl, SqL.of r1, atI_nat (j := 1) rfl, _, _, rfl, rfl, ps, _, _, _, rfl, rfl, S1, hat, ?_⟩
      have m0 : 0 ≤ (s0 * 48271 + cell + 11) % 2147483647 := Int.emod_nonneg _ (by decide)
      have m1 : (s0 * 48271 + cell + 11) % 2147483647 < 2147483647 := Int.emod_lt_of_pos _ (by decide)
      refine ⟨_, rfl, r, _, _, _, rfl, rfl, SqL.of r1, atI_nat (j := 2) rfl, _, _, rfl, rfl, .inr ⟨by decide, by decide⟩, _, rfl, _, _, rfl, rfl, _, _, rfl, rfl, .inl ⟨_, rfl, _, _, rfl, rfl, (by show (0 : Int) < 2147483647; decide), ?_⟩⟩
      refine ⟨_, rfl, r, _, 2, 2, rfl, rfl, r1, (by show ixN 4 2 = some 2; decide), ?_⟩
      have x2 : Ext [] [r] H1 (upd H1 r (.lst [.ref ps, .int (i + 1), .int ((s0 * 48271 + cell + 11) % 2147483647), .int k])) := Ext.put r1
      have r2 : (upd H1 r (.lst [.ref ps, .int (i + 1), .int ((s0 * 48271 + cell + 11) % 2147483647), .int k])) r = some (.lst [.ref ps, .int (i + 1), .int ((s0 * 48271 + cell + 11) % 2147483647), .int k]) := upd_same
      have S2 := SqL.extR S1 x2 (hne.imp (fun z => by simp [z]) id)
      show tNext _ _ (upd H1 r (.lst [.ref ps, .int (i + 1), .int ((s0 * 48271 + cell + 11) % 2147483647), .int k]))
      generalize (s0 * 48271 + cell + 11) % 2147483647 = s2 at m0 m1 x2 r2 S2 ⊢
      generalize upd H1 r (.lst [.ref ps, .int (i + 1), .int s2, .int k]) = H2 at x2 r2 S2 ⊢
      refine ⟨_, rfl, _, _, rfl, rfl, ⟨by decide, by decide, by decide⟩, _, _, rfl, rfl, _, rfl, ?_⟩
      refine iteD (fun _ => ?_) (fun _ => ?_)
      · refine ⟨_, rfl, _, rfl, _, _, rfl, rfl, ⟨by omega, by omega⟩, ?_⟩
        refine ⟨_, rfl, r, _, 3, 3, rfl, rfl, r2, (by show ixN 4 3 = some 3; decide), ?_⟩
        have x3 : Ext [] [r] H2 (upd H2 r (.lst [.ref ps, .int (i + 1), .int s2, .int (cell / n)])) := Ext.put r2
        refine ⟨_, rfl, .inl ⟨_, rfl, _, rfl, _, _, rfl, rfl, (by omega), ?_⟩⟩
        exact fin cell _ ((x1.trans x2).trans x3) ⟨i + 1, s2, cell / n, upd_same, SqL.extR S2 x3 (hne.imp (fun z => by simp [z]) id), hne, by omega, m0, m1⟩
      · refine ⟨_, rfl, .inl ⟨_, rfl, _, rfl, _, _, rfl, rfl, (by omega), ?_⟩⟩
        exact fin cell _ (x1.trans x2) ⟨i + 1, s2, k, r2, S2, hne, by omega, m0, m1⟩
end
end ML
set_option maxHeartbeats 4000000
namespace ML
open PySem PySem.Spec PyProof.Rows L2 TL Gn
def spPick (K : PySem.W.Frag) : Sp := fun vs H Q _ => ∃ (r p : Addr) (xs : List V) (sc : Addr × List Int), vs = [.ref r, .ref p] ∧ RowAt K H r sc ∧ p ≠ r ∧ H p = some (.lst xs) ∧ 1 ≤ xs.length ∧ xs.length < 1000 ∧ ∀ (i : Nat) (x : V) H', xs[i]? = some x → Ext [] [r] H H' → RowAt K H' r sc → Q x H'
/-- a term is drawn -/
def spDraw (K : PySem.W.Frag) (d : Nat) : Sp := fun vs H Q _ => ∃ (r : Addr) (n k : Nat) (sc : Addr × List Int), vs = [.ref r, .int n, .int k, .int 2] ∧ RowAt K H r sc ∧ 1 ≤ n ∧ n ≤ 3 ∧ 1 ≤ k ∧ k ≤ d ∧ ∀ (t : Tm) v H', t.ok n → t.deep ≤ k → DAt H' v t.d → Ext [] [r] H H' → RowAt K H' r sc → Q v H'
section
variable {P : Program} {w : World} {K : PySem.W.Frag} {mg : Str → Option Value} {base : Heap} {f c C fnw : Addr} {fd fdnw : FuncData} {GT : List Addr} {tp : Addr}
theorem ok_lpick (F : FunC K "_law_pick" "_law_pick" sLPick f fd c) (T : Bl mg) (Gt : Cal P w K mg base 1 "_law_taken" pLTaken (spTaken K)) : FnOk P w K mg base CX0 2 f fd pLPick (spPick K) := by
  refine F.ok scLPick (fun vs H Q E h => ?_) (fun A outer s H vs Q E hr h => ?_)
  · obtain ⟨r, p, xs, sc, rfl, _⟩ := h
    rfl
  obtain ⟨r, p, xs, sc, rfl, hrow, hne, hp, h1, h2, q⟩ := h
  refine ⟨_, pss_one (ps_ret (pe_ix ix_list (pv 1) (pe_cal Gt (hr.mono (by omega)) rfl (pa_cons (pv 0) (pa_cons (pe_callB call_len_seq (by rfl) T.len PySem.boot_len (pa_cons (pv 1) pa_nil)) pa_nil))) (fun _ _ => rfl))), ?_⟩
  refine ⟨_, rfl, _, rfl, _, rfl, p, _, rfl, .inl (SqL.of hp), ?_⟩
  refine ⟨r, xs.length, sc, rfl, hrow, by omega, by omega, fun j H1 hj x1 row1 => ?_⟩
  have hp1 := x1.lstM hp (by simp [hne])
  exact ⟨p, xs, _, xs[j], rfl, rfl, SqL.of hp1, atI_nat (List.getElem?_eq_getElem hj), q j _ H1 (List.getElem?_eq_getElem hj) x1 row1⟩
theorem draw_step {d : Nat} (F : FunC K "_law_term" "_law_term" sLTerm f fd c) (T : Bl mg) (Gt : Cal P w K mg base 1 "_law_taken" pLTaken (spTaken K)) (Gp : Cal P w K mg base 2 "_law_pick" pLPick (spPick K)) (G : Cal P w K mg base (d + 2) "_law_term" pLTerm (spDraw K d)) : FnOk P w K mg base CX0 (d + 3) f fd pLTerm (spDraw K (d + 1)) := by
  refine F.ok scLTerm (fun vs H Q E h => ?_) (fun A outer s H vs Q E hr h => ?_)
  · obtain ⟨r, n, k, sc, rfl, _⟩ := h
    rfl
  obtain ⟨r, n, k, sc, rfl, hrow, n1, n3, k1, kd, q⟩ := h
  refine ⟨_, pss_cons (ps_set (i := 4) scLTerm.nd rfl (.inl rfl) (pe_ifExp (pt_cmpR op_gt (pv 2) pe_int (nomark _)) (pe_cal Gt (hr.mono (by omega)) rfl (pa_cons (pv 0) (pa_cons pe_int pa_nil))) (pe_cal Gt (hr.mono (by omega)) rfl (pa_cons (pv 0) (pa_cons pe_int pa_nil))))) (pss_cons (ps_if (pt_cmpR op_lt (pv 4) pe_int (nomark _)) (pss_one (ps_ret (pe_tup (pa_cons pe_str (pa_cons (pe_op op_sub (pe_cal Gt (hr.mono (by omega)) rfl (pa_cons (pv 0) (pa_cons (pe_op op_add (pe_op op_mul pe_int (pv 3)) pe_int) pa_nil))) (pv 3)) pa_nil))))) pss_nil) (pss_cons (ps_if (pt_cmpR op_lt (pv 4) pe_int (nomark _)) (pss_one (ps_ret (pe_tup (pa_cons pe_str (pa_cons (pe_cal Gt (hr.mono (by omega)) rfl (pa_cons (pv 0) (pa_cons (pv 1) pa_nil))) (pa_cons (pe_op op_sub (pe_cal Gt (hr.mono (by omega)) rfl (pa_cons (pv 0) (pa_cons (pe_op op_add (pe_op op_mul pe_int (pv 3)) pe_int) pa_nil))) (pv 3)) pa_nil)))))) pss_nil) (pss_cons (ps_if (pt_cmpR op_eq (pv 4) pe_int (nomark _)) (pss_one (ps_ret (pe_tup (pa_cons pe_str (pa_cons (pe_cal Gt (hr.mono (by omega)) rfl (pa_cons (pv 0) (pa_cons pe_int pa_nil))) pa_nil))))) pss_nil) (pss_cons (ps_if (pt_cmpR op_eq (pv 4) pe_int (nomark _)) (pss_one (ps_ret (pe_tup (pa_cons pe_str (pa_cons (pe_cal G hr rfl (pa_cons (pv 0) (pa_cons (pv 1) (pa_cons (pe_op op_sub (pv 2) pe_int) (pa_cons (pv 3) pa_nil))))) (pa_cons (pe_op op_add pe_int (pe_cal Gt (hr.mono (by omega)) rfl (pa_cons (pv 0) (pa_cons pe_int pa_nil)))) pa_nil)))))) pss_nil) (pss_cons (ps_if (pt_cmpR op_lt (pv 4) pe_int (nomark _)) (pss_one (ps_ret (pe_op op_catA (pe_tup (pa_cons pe_str pa_nil)) (pe_callTy call_tuple_of (by rfl) T.tuple boot_tuple (pa_cons (pe_lc (own := [("_law_k", 6)]) rfl scLTerm.nd (pi_range1 (by rfl) T.range (pa_cons pe_int pa_nil)) (blkOk_by (own := [("_law_k", 6)]) (N := nLTerm) (sc := defScope sLTerm) (by decide +kernel)) (fun _ _ _ _ _ => pg_name (i := 6) scLTerm.nd rfl (.inl rfl)) (fun _ _ _ _ _ => pts_nil) (fun _ _ _ _ _ => pe_cal G hr rfl (pa_cons (pv 0) (pa_cons (pv 1) (pa_cons (pe_op op_sub (pv 2) pe_int) (pa_cons (pv 3) pa_nil)))))) pa_nil))))) pss_nil) (pss_cons (ps_set (i := 5) scLTerm.nd rfl (.inl rfl) (pe_cal Gp (hr.mono (by omega)) rfl (pa_cons (pv 0) (pa_cons (pe_lst (pa_cons pe_str (pa_cons pe_str (pa_cons pe_str (pa_cons pe_str pa_nil))))) pa_nil)))) (pss_one (ps_ret (pe_tup (pa_cons (pv 5) (pa_cons (pe_cal G hr rfl (pa_cons (pv 0) (pa_cons (pv 1) (pa_cons (pe_op op_sub (pv 2) pe_int) (pa_cons (pv 3) pa_nil))))) (pa_cons (pe_cal G hr rfl (pa_cons (pv 0) (pa_cons (pv 1) (pa_cons (pe_op op_sub (pv 2) pe_int) (pa_cons (pv 3) pa_nil))))) pa_nil)))))))))))), ?_⟩
  refine ⟨_, rfl, _, _, rfl, rfl, _, rfl, ?_⟩
  refine iteD (fun c0 => ?_) (fun c0 => ?_)
  · refine ⟨_, rfl, ?_⟩
    refine ⟨r, 12, sc, rfl, hrow, by decide, by decide, fun j H1 hj x1 row1 => ?_⟩
    have hj5 : k = 1 → j < 5 := fun z => by omega
    refine ⟨_, rfl, _, _, rfl, rfl, _, rfl, ?_⟩
    refine iteD (fun c1 => ?_) (fun c1 => ?_)
    · refine ⟨_, rfl, _, rfl, _, _, rfl, rfl, .inl ⟨by decide, by decide⟩, _, _, rfl, rfl, ?_⟩
      refine ⟨r, 5, sc, rfl, row1, by decide, by decide, fun j2 H2 hj2 x2 row2 => ?_⟩
      refine ⟨_, rfl, _, _, rfl, rfl, (by show 2 ≤ sizeLine; decide), fun pt hpt => ?_⟩
      exact q (.inn ((j2 : Int) - 2)) _ _ ⟨by omega, by omega⟩ (by show 1 ≤ k; omega) (.mk2 upd_same (.str _) (.int _)) ((x1.trans x2).trans (Ext.new hpt).wide) (row2.ext (GT := []) (.new hpt))
    refine ⟨_, rfl, _, _, rfl, rfl, _, rfl, ?_⟩
    refine iteD (fun c2 => ?_) (fun c2 => ?_)
    · refine ⟨_, rfl, _, rfl, ?_⟩
      refine ⟨r, n, sc, rfl, row1, by omega, by omega, fun j2 H2 hj2 x2 row2 => ?_⟩
      refine ⟨_, rfl, _, rfl, _, _, rfl, rfl, .inl ⟨by decide, by decide⟩, _, _, rfl, rfl, ?_⟩
      refine ⟨r, 5, sc, rfl, row2, by decide, by decide, fun j3 H3 hj3 x3 row3 => ?_⟩
      refine ⟨_, rfl, _, _, rfl, rfl, (by show 3 ≤ sizeLine; decide), fun pt hpt => ?_⟩
      exact q (.ofn j2 ((j3 : Int) - 2)) _ _ ⟨hj2, by omega, by omega⟩ (by show 1 ≤ k; omega) (.mk3 upd_same (.str _) (.int _) (.int _)) (((x1.trans x2).trans x3).trans (Ext.new hpt).wide) (row3.ext (GT := []) (.new hpt))
    refine ⟨_, rfl, rfl, _, rfl, ?_⟩
    refine iteD (fun c3 => ?_) (fun c3 => ?_)
    · refine ⟨_, rfl, ?_⟩
      refine ⟨r, 3, sc, rfl, row1, by decide, by decide, fun j2 H2 hj2 x2 row2 => ?_⟩
      refine ⟨(by show 2 ≤ sizeLine; decide), fun pt hpt => ?_⟩
      exact q (.isc j2) _ _ (by show j2 ≤ 9; omega) (by show 1 ≤ k; omega) (.mk2 upd_same (.str _) (.int _)) ((x1.trans x2).trans (Ext.new hpt).wide) (row2.ext (GT := []) (.new hpt))
    have c3 : j ≠ 4 := fun z => c3 (by rw [z]; rfl)
    have k2 : 2 ≤ k := by
      have := hj5
      omega
    refine ⟨_, rfl, rfl, _, rfl, ?_⟩
    refine iteD (fun c4 => ?_) (fun c4 => ?_)
    · refine ⟨_, rfl, _, rfl, _, rfl, _, _, rfl, rfl, _, rfl, ?_⟩
      refine ⟨r, n, k - 1, sc, congrArg (fun z => [V.ref r, .int n, .int z, .int 2]) (by omega), row1, n1, n3, by omega, by omega, fun t2 v2 H2 ot2 dt2 Dt2 xt2 rowt2 => ?_⟩
      refine ⟨_, rfl, ?_⟩
      refine ⟨r, 3, sc, rfl, rowt2, by decide, by decide, fun j3 H3 hj3 x3 row3 => ?_⟩
      refine ⟨_, _, rfl, rfl, (by show 3 ≤ sizeLine; decide), fun pt hpt => ?_⟩
      refine q (.rst t2 (1 + j3)) _ _ ⟨ot2, by omega, by omega⟩ (by show t2.deep + 1 ≤ k; omega) (.mk3 upd_same (.str _) ((Dt2.ext x3).ext (Ext.new (GT := []) (M := []) hpt)) ?_) (((x1.trans xt2).trans x3).trans (Ext.new hpt).wide) (row3.ext (GT := []) (.new hpt))
      rw [show (((1 + j3 : Nat)) : Int) = 1 + (j3 : Int) by omega]
      exact .int _
    refine ⟨_, rfl, _, _, rfl, rfl, _, rfl, ?_⟩
    refine iteD (fun c5 => ?_) (fun c5 => ?_)
    · refine ⟨(by show 1 ≤ sizeLine; decide), fun pa hpa => ?_⟩
      have xa : Ext [] [] H1 (upd H1 pa (.tup [.str "pick"])) := .new hpa
      have ea : (upd H1 pa (.tup [.str "pick"])) pa = some (.tup [.str "pick"]) := upd_same
      have rowa := row1.ext (GT := []) xa
      generalize upd H1 pa (.tup [.str "pick"]) = HA at xa ea rowa ⊢
      refine ⟨3, rfl, by decide, by decide, fun D0 hD => ?_⟩
      have hrD : D0 ≠ r := rowa.ne hD
      have rowD : RowAt K (upd HA D0 (.lst [])) r sc := rowa.ext (GT := []) (.new hD)
      refine lc_range (n := 3) (fun i H' => Acc [] [r] HA D0 (fun i ds => ∃ ts : List Tm, ds = ts.map Tm.d ∧ ts.length = i ∧ ∀ t ∈ ts, t.ok n ∧ t.deep ≤ k - 1) i H' ∧ RowAt K H' r sc) ⟨acc0 hD ⟨[], rfl, rfl, by simp⟩, rowD⟩ (fun i H3 hi ac => ?_) (fun H3 ac => ?_)
      · obtain ⟨ac, row3⟩ := ac
        refine ⟨rfl, ?_⟩
        refine ⟨_, rfl, _, rfl, _, rfl, _, _, rfl, rfl, _, rfl, ?_⟩
        refine ⟨r, n, k - 1, sc, congrArg (fun z => [V.ref r, .int n, .int z, .int 2]) (by omega), row3, n1, n3, by omega, by omega, fun t4 v4 H4 ot4 dt4 Dt4 xt4 rowt4 => ?_⟩
        obtain ⟨acc, ea, la, ac'⟩ := ac.step hD (by simp [hrD]) (by omega) xt4 Dt4 (fun ds ⟨ts, e1, e2, e3⟩ => ⟨ts ++ [t4], by rw [e1, List.map_append]; rfl, by rw [List.length_append, e2]; rfl, fun t ht => by
          rcases List.mem_append.mp ht with z | z
          · exact e3 t z
          · rw [List.mem_singleton.mp z]
            exact ⟨ot4, dt4⟩⟩)
        exact ⟨acc, ea, la, ac', RowAt.put rowa hD rowt4⟩
      · obtain ⟨⟨⟨ds, ⟨ys, ey, ay⟩, ⟨ts, rfl, h3, hts⟩, _⟩, x3⟩, row3⟩ := ac
        obtain ⟨a, b, d0, rfl⟩ : ∃ a b c, ts = [a, b, c] := by
          match ts, h3 with
          | [a, b, c], _ => exact ⟨a, b, c, rfl⟩
        have ly : ys.length = 3 := ay.1
        have nB : ys ≠ [] := fun z => by rw [z] at ly; cases ly
        refine ⟨D0, ys, rfl, .inl ⟨SqL.of ey, fun pb hpb => ?_⟩⟩
        have xb : Ext [] [] H3 (upd H3 pb (.tup ys)) := .new hpb
        refine ⟨pa, pb, [.str "pick"], ys, rfl, rfl, SqT.of ((x3.trans xb.wide).tups _ _ ea), SqT.of upd_same, by rw [ly]; decide, (fun z => by cases z), (fun _ z => absurd z nB), fun _ _ pc hpc => ?_⟩
        have xc : Ext [] [] (upd H3 pb (.tup ys)) (upd (upd H3 pb (.tup ys)) pc (.tup (.str "pick" :: ys))) := .new hpc
        have A := hts a (by simp)
        have B := hts b (by simp)
        have D := hts d0 (by simp)
        refine q (.pck a b d0) _ _ ⟨A.1, B.1, D.1⟩ (by show max a.deep (max b.deep d0.deep) + 1 ≤ k; omega) (.ofAll upd_same (.cons (.str _) ((ay.ext xb).ext xc))) ((((x1.trans xa.wide).trans x3).trans xb.wide).trans xc.wide) ((row3.ext (GT := []) xb).ext (GT := []) xc)
    refine ⟨_, rfl, (by show 4 ≤ sizeLine; decide), fun pl hpl => ?_⟩
    have xl : Ext [] [] H1 (upd H1 pl (.lst [.str "plus", .str "times", .str "same", .str "less"])) := .new hpl
    have rowl := row1.ext (GT := []) xl
    have hrl : pl ≠ r := row1.ne hpl
    refine ⟨r, pl, _, sc, rfl, rowl, hrl, upd_same, (by show 1 ≤ 4; decide), (by show 4 < 1000; decide), fun jj wv H2 hwv x2 row2 => ?_⟩
    obtain ⟨op, rfl⟩ : ∃ op : Op, wv = .str op.word := by
      match jj, hwv with
      | 0, h => cases h; exact ⟨.plus, rfl⟩
      | 1, h => cases h; exact ⟨.times, rfl⟩
      | 2, h => cases h; exact ⟨.same, rfl⟩
      | 3, h => cases h; exact ⟨.less, rfl⟩
      | _ + 4, h => simp at h
    refine ⟨_, rfl, ?_⟩
    refine ⟨_, rfl, _, rfl, _, rfl, _, _, rfl, rfl, _, rfl, ?_⟩
    refine ⟨r, n, k - 1, sc, congrArg (fun z => [V.ref r, .int n, .int z, .int 2]) (by omega), row2, n1, n3, by omega, by omega, fun t3 v3 H3 ot3 dt3 Dt3 xt3 rowt3 => ?_⟩
    refine ⟨_, rfl, _, rfl, _, rfl, _, _, rfl, rfl, _, rfl, ?_⟩
    refine ⟨r, n, k - 1, sc, congrArg (fun z => [V.ref r, .int n, .int z, .int 2]) (by omega), rowt3, n1, n3, by omega, by omega, fun t4 v4 H4 ot4 dt4 Dt4 xt4 rowt4 => ?_⟩
    refine ⟨(by show 3 ≤ sizeLine; decide), fun pt hpt => ?_⟩
    exact q (.bin op t3 t4) _ _ ⟨ot3, ot4⟩ (by show max t3.deep t4.deep + 1 ≤ k; omega) (.mk3 upd_same (.str _) ((Dt3.ext xt4).ext (Ext.new (GT := []) (M := []) hpt)) (Dt4.ext (Ext.new (GT := []) (M := []) hpt))) (((((x1.trans xl.wide).trans x2).trans xt3).trans xt4).trans (Ext.new hpt).wide) (rowt4.ext (GT := []) (.new hpt))
  · refine ⟨_, rfl, ?_⟩
    refine ⟨r, 5, sc, rfl, hrow, by decide, by decide, fun j H1 hj x1 row1 => ?_⟩
    have hj5 : k = 1 → j < 5 := fun _ => hj
    refine ⟨_, rfl, _, _, rfl, rfl, _, rfl, ?_⟩
    refine iteD (fun c1 => ?_) (fun c1 => ?_)
    · refine ⟨_, rfl, _, rfl, _, _, rfl, rfl, .inl ⟨by decide, by decide⟩, _, _, rfl, rfl, ?_⟩
      refine ⟨r, 5, sc, rfl, row1, by decide, by decide, fun j2 H2 hj2 x2 row2 => ?_⟩
      refine ⟨_, rfl, _, _, rfl, rfl, (by show 2 ≤ sizeLine; decide), fun pt hpt => ?_⟩
      exact q (.inn ((j2 : Int) - 2)) _ _ ⟨by omega, by omega⟩ (by show 1 ≤ k; omega) (.mk2 upd_same (.str _) (.int _)) ((x1.trans x2).trans (Ext.new hpt).wide) (row2.ext (GT := []) (.new hpt))
    refine ⟨_, rfl, _, _, rfl, rfl, _, rfl, ?_⟩
    refine iteD (fun c2 => ?_) (fun c2 => ?_)
    · refine ⟨_, rfl, _, rfl, ?_⟩
      refine ⟨r, n, sc, rfl, row1, by omega, by omega, fun j2 H2 hj2 x2 row2 => ?_⟩
      refine ⟨_, rfl, _, rfl, _, _, rfl, rfl, .inl ⟨by decide, by decide⟩, _, _, rfl, rfl, ?_⟩
      refine ⟨r, 5, sc, rfl, row2, by decide, by decide, fun j3 H3 hj3 x3 row3 => ?_⟩
      refine ⟨_, rfl, _, _, rfl, rfl, (by show 3 ≤ sizeLine; decide), fun pt hpt => ?_⟩
      exact q (.ofn j2 ((j3 : Int) - 2)) _ _ ⟨hj2, by omega, by omega⟩ (by show 1 ≤ k; omega) (.mk3 upd_same (.str _) (.int _) (.int _)) (((x1.trans x2).trans x3).trans (Ext.new hpt).wide) (row3.ext (GT := []) (.new hpt))
    refine ⟨_, rfl, rfl, _, rfl, ?_⟩
    refine iteD (fun c3 => ?_) (fun c3 => ?_)
    · refine ⟨_, rfl, ?_⟩
      refine ⟨r, 3, sc, rfl, row1, by decide, by decide, fun j2 H2 hj2 x2 row2 => ?_⟩
      refine ⟨(by show 2 ≤ sizeLine; decide), fun pt hpt => ?_⟩
      exact q (.isc j2) _ _ (by show j2 ≤ 9; omega) (by show 1 ≤ k; omega) (.mk2 upd_same (.str _) (.int _)) ((x1.trans x2).trans (Ext.new hpt).wide) (row2.ext (GT := []) (.new hpt))
    have c3 : j ≠ 4 := fun z => c3 (by rw [z]; rfl)
    have k2 : 2 ≤ k := by
      have := hj5
      omega
    refine ⟨_, rfl, rfl, _, rfl, ?_⟩
    refine iteD (fun c4 => ?_) (fun c4 => ?_)
    · refine ⟨_, rfl, _, rfl, _, rfl, _, _, rfl, rfl, _, rfl, ?_⟩
      refine ⟨r, n, k - 1, sc, congrArg (fun z => [V.ref r, .int n, .int z, .int 2]) (by omega), row1, n1, n3, by omega, by omega, fun t2 v2 H2 ot2 dt2 Dt2 xt2 rowt2 => ?_⟩
      refine ⟨_, rfl, ?_⟩
      refine ⟨r, 3, sc, rfl, rowt2, by decide, by decide, fun j3 H3 hj3 x3 row3 => ?_⟩
      refine ⟨_, _, rfl, rfl, (by show 3 ≤ sizeLine; decide), fun pt hpt => ?_⟩
      refine q (.rst t2 (1 + j3)) _ _ ⟨ot2, by omega, by omega⟩ (by show t2.deep + 1 ≤ k; omega) (.mk3 upd_same (.str _) ((Dt2.ext x3).ext (Ext.new (GT := []) (M := []) hpt)) ?_) (((x1.trans xt2).trans x3).trans (Ext.new hpt).wide) (row3.ext (GT := []) (.new hpt))
      rw [show (((1 + j3 : Nat)) : Int) = 1 + (j3 : Int) by omega]
      exact .int _
    refine ⟨_, rfl, _, _, rfl, rfl, _, rfl, ?_⟩
    refine iteD (fun c5 => ?_) (fun c5 => ?_)
    · refine ⟨(by show 1 ≤ sizeLine; decide), fun pa hpa => ?_⟩
      have xa : Ext [] [] H1 (upd H1 pa (.tup [.str "pick"])) := .new hpa
      have ea : (upd H1 pa (.tup [.str "pick"])) pa = some (.tup [.str "pick"]) := upd_same
      have rowa := row1.ext (GT := []) xa
      generalize upd H1 pa (.tup [.str "pick"]) = HA at xa ea rowa ⊢
      refine ⟨3, rfl, by decide, by decide, fun D0 hD => ?_⟩
      have hrD : D0 ≠ r := rowa.ne hD
      have rowD : RowAt K (upd HA D0 (.lst [])) r sc := rowa.ext (GT := []) (.new hD)
      refine lc_range (n := 3) (fun i H' => Acc [] [r] HA D0 (fun i ds => ∃ ts : List Tm, ds = ts.map Tm.d ∧ ts.length = i ∧ ∀ t ∈ ts, t.ok n ∧ t.deep ≤ k - 1) i H' ∧ RowAt K H' r sc) ⟨acc0 hD ⟨[], rfl, rfl, by simp⟩, rowD⟩ (fun i H3 hi ac => ?_) (fun H3 ac => ?_)
      · obtain ⟨ac, row3⟩ := ac
        refine ⟨rfl, ?_⟩
        refine ⟨_, rfl, _, rfl, _, rfl, _, _, rfl, rfl, _, rfl, ?_⟩
        refine ⟨r, n, k - 1, sc, congrArg (fun z => [V.ref r, .int n, .int z, .int 2]) (by omega), row3, n1, n3, by omega, by omega, fun t4 v4 H4 ot4 dt4 Dt4 xt4 rowt4 => ?_⟩
        obtain ⟨acc, ea, la, ac'⟩ := ac.step hD (by simp [hrD]) (by omega) xt4 Dt4 (fun ds ⟨ts, e1, e2, e3⟩ => ⟨ts ++ [t4], by rw [e1, List.map_append]; rfl, by rw [List.length_append, e2]; rfl, fun t ht => by
          rcases List.mem_append.mp ht with z | z
          · exact e3 t z
          · rw [List.mem_singleton.mp z]
            exact ⟨ot4, dt4⟩⟩)
        exact ⟨acc, ea, la, ac', RowAt.put rowa hD rowt4⟩
      · obtain ⟨⟨⟨ds, ⟨ys, ey, ay⟩, ⟨ts, rfl, h3, hts⟩, _⟩, x3⟩, row3⟩ := ac
        obtain ⟨a, b, d0, rfl⟩ : ∃ a b c, ts = [a, b, c] := by
          match ts, h3 with
          | [a, b, c], _ => exact ⟨a, b, c, rfl⟩
        have ly : ys.length = 3 := ay.1
        have nB : ys ≠ [] := fun z => by rw [z] at ly; cases ly
        refine ⟨D0, ys, rfl, .inl ⟨SqL.of ey, fun pb hpb => ?_⟩⟩
        have xb : Ext [] [] H3 (upd H3 pb (.tup ys)) := .new hpb
        refine ⟨pa, pb, [.str "pick"], ys, rfl, rfl, SqT.of ((x3.trans xb.wide).tups _ _ ea), SqT.of upd_same, by rw [ly]; decide, (fun z => by cases z), (fun _ z => absurd z nB), fun _ _ pc hpc => ?_⟩
        have xc : Ext [] [] (upd H3 pb (.tup ys)) (upd (upd H3 pb (.tup ys)) pc (.tup (.str "pick" :: ys))) := .new hpc
        have A := hts a (by simp)
        have B := hts b (by simp)
        have D := hts d0 (by simp)
        refine q (.pck a b d0) _ _ ⟨A.1, B.1, D.1⟩ (by show max a.deep (max b.deep d0.deep) + 1 ≤ k; omega) (.ofAll upd_same (.cons (.str _) ((ay.ext xb).ext xc))) ((((x1.trans xa.wide).trans x3).trans xb.wide).trans xc.wide) ((row3.ext (GT := []) xb).ext (GT := []) xc)
    refine ⟨_, rfl, (by show 4 ≤ sizeLine; decide), fun pl hpl => ?_⟩
    have xl : Ext [] [] H1 (upd H1 pl (.lst [.str "plus", .str "times", .str "same", .str "less"])) := .new hpl
    have rowl := row1.ext (GT := []) xl
    have hrl : pl ≠ r := row1.ne hpl
    refine ⟨r, pl, _, sc, rfl, rowl, hrl, upd_same, (by show 1 ≤ 4; decide), (by show 4 < 1000; decide), fun jj wv H2 hwv x2 row2 => ?_⟩
    obtain ⟨op, rfl⟩ : ∃ op : Op, wv = .str op.word := by
      match jj, hwv with
      | 0, h => cases h; exact ⟨.plus, rfl⟩
      | 1, h => cases h; exact ⟨.times, rfl⟩
      | 2, h => cases h; exact ⟨.same, rfl⟩
      | 3, h => cases h; exact ⟨.less, rfl⟩
      | _ + 4, h => simp at h
    refine ⟨_, rfl, ?_⟩
    refine ⟨_, rfl, _, rfl, _, rfl, _, _, rfl, rfl, _, rfl, ?_⟩
    refine ⟨r, n, k - 1, sc, congrArg (fun z => [V.ref r, .int n, .int z, .int 2]) (by omega), row2, n1, n3, by omega, by omega, fun t3 v3 H3 ot3 dt3 Dt3 xt3 rowt3 => ?_⟩
    refine ⟨_, rfl, _, rfl, _, rfl, _, _, rfl, rfl, _, rfl, ?_⟩
    refine ⟨r, n, k - 1, sc, congrArg (fun z => [V.ref r, .int n, .int z, .int 2]) (by omega), rowt3, n1, n3, by omega, by omega, fun t4 v4 H4 ot4 dt4 Dt4 xt4 rowt4 => ?_⟩
    refine ⟨(by show 3 ≤ sizeLine; decide), fun pt hpt => ?_⟩
    exact q (.bin op t3 t4) _ _ ⟨ot3, ot4⟩ (by show max t3.deep t4.deep + 1 ≤ k; omega) (.mk3 upd_same (.str _) ((Dt3.ext xt4).ext (Ext.new (GT := []) (M := []) hpt)) (Dt4.ext (Ext.new (GT := []) (M := []) hpt))) (((((x1.trans xl.wide).trans x2).trans xt3).trans xt4).trans (Ext.new hpt).wide) (rowt4.ext (GT := []) (.new hpt))
theorem ok_ldraw (F : FunC K "_law_term" "_law_term" sLTerm f fd c) (T : Bl mg) (m : mg "_law_term" = some (.ref f)) (b : Binds K fd pLTerm []) (Gt : Cal P w K mg base 1 "_law_taken" pLTaken (spTaken K)) (Gp : Cal P w K mg base 2 "_law_pick" pLPick (spPick K)) : ∀ d : Nat, Cal P w K mg base (d + 2) "_law_term" pLTerm (spDraw K d)
  | 0 => .mk F m b (fn_none fun vs H Q E h => by
    obtain ⟨r, n, k, sc, _, _, _, _, h0, h1, _⟩ := h
    omega)
  | d + 1 => .mk F m b (draw_step F T Gt Gp (ok_ldraw F T m b Gt Gp d))
end
end ML
set_option maxHeartbeats 4000000
namespace ML
open PySem PySem.Spec PyProof.Rows L2 TL Gn
def spMill (K : PySem.W.Frag) : Sp := fun vs H Q _ => ∃ (r : Addr) (sc : Addr × List Int), vs = [.ref r, .int 3, .int 2] ∧ RowAt K H r sc ∧ ∀ (m : Mill) v H', m.ok → DAt H' v m.d → Ext [] [r] H H' → RowAt K H' r sc → Q v H'
theorem dpAll_int {K : PySem.W.Frag} {H : Hp} : ∀ zs : List Int, DpAll K H (zs.map V.int) (zs.map PyData.int)
  | [] => .nil
  | z :: r => .cons (.int z) (dpAll_int r)
theorem shaped_ints3 : ∀ zs : List Int, zs.length ≤ 3 → SeqAt.shaped (.tuple (zs.map PyData.int)) = true
  | [], _ => rfl
  | [_], _ => rfl
  | [_, _], _ => rfl
  | [_, _, _], _ => rfl
  | _ :: _ :: _ :: _ :: _, h => by simp at h
section
variable {P : Program} {w : World} {K : PySem.W.Frag} {mg : Str → Option Value} {base : Heap} {f c C fnw : Addr} {fd fdnw : FuncData} {GT : List Addr} {tp : Addr}
theorem ok_lmill (F : FunC K "_law_mill" "_law_mill" sLMill f fd c) (T : Bl mg) (Gt : Cal P w K mg base 1 "_law_taken" pLTaken (spTaken K)) (Gp : Cal P w K mg base 2 "_law_pick" pLPick (spPick K)) (Gd : Cal P w K mg base 4 "_law_term" pLTerm (spDraw K 2)) : FnOk P w K mg base CX0 5 f fd pLMill (spMill K) := by
  refine F.ok scLMill (fun vs H Q E h => ?_) (fun A outer s H vs Q E hr h => ?_)
  · obtain ⟨r, sc, rfl, _⟩ := h
    rfl
  obtain ⟨r, sc, rfl, hrow, q⟩ := h
  refine ⟨_, pss_cons (ps_par (i := 3) (j := 4) rfl scLMill.nd rfl rfl (by decide) rfl rfl (pa_cons (pe_op op_add pe_int (pe_cal Gt (hr.mono (by omega)) rfl (pa_cons (pv 0) (pa_cons pe_int pa_nil)))) (pa_cons (pe_callTy call_tuple_of (by rfl) T.tuple boot_tuple (pa_cons (pe_lc (own := [("_law_k", 9)]) rfl scLMill.nd (pi_range1 (by rfl) T.range (pa_cons (pe_op op_add pe_int (pe_cal Gt (hr.mono (by omega)) rfl (pa_cons (pv 0) (pa_cons (pv 1) pa_nil)))) pa_nil)) (blkOk_by (own := [("_law_k", 9)]) (N := nLMill) (sc := defScope sLMill) (by decide +kernel)) (fun _ _ _ _ _ => pg_name (i := 9) scLMill.nd rfl (.inl rfl)) (fun _ _ _ _ _ => pts_nil) (fun _ _ _ _ _ => pe_tup (pa_cons pe_int (pa_cons (pe_cal Gp (hr.mono (by omega)) rfl (pa_cons (pv 0) (pa_cons (pe_lst (pa_cons pe_int (pa_cons pe_int (pa_cons pe_int pa_nil)))) pa_nil))) pa_nil)))) pa_nil)) pa_nil)) rfl) (pss_cons (ps_set (i := 5) scLMill.nd rfl (.inl rfl) (pe_lst pa_nil)) (pss_cons (ps_for PassesOwn.never rfl (pi_range1 (by rfl) T.range (pa_cons (pe_callB call_len_seq (by rfl) T.len PySem.boot_len (pa_cons (pv 4) pa_nil)) pa_nil)) (pg_name (i := 6) scLMill.nd rfl (.inl rfl)) (pss_one (ps_if (pt_cmpR op_gt (pe_cal Gt (hr.mono (by omega)) rfl (pa_cons (pv 0) (pa_cons pe_int pa_nil))) pe_int (nomark _)) (pss_cons (ps_set (i := 7) scLMill.nd rfl (.inl rfl) (pe_tup (pa_cons pe_str (pa_cons (pe_cal Gd (hr.mono (by omega)) rfl (pa_cons (pv 0) (pa_cons (pe_callB call_len_seq (by rfl) T.len PySem.boot_len (pa_cons (pv 4) pa_nil)) (pa_cons pe_int (pa_cons (pv 2) pa_nil))))) (pa_cons pe_int pa_nil))))) (pss_one (ps_expr (pe_bm PySem.F.plainAttrs_list PySem.F.slot_list_append PySem.F.type_list_append mt_append (pv 5) (pa_cons (pe_tup (pa_cons (pe_tup (pa_cons pe_str (pa_cons (pv 6) (pa_cons (pe_cal Gp (hr.mono (by omega)) rfl (pa_cons (pv 0) (pa_cons (pe_lst (pa_cons pe_int (pa_cons pe_int (pa_cons (pe_op op_sub pe_int pe_int) (pa_cons pe_int pa_nil))))) pa_nil))) pa_nil)))) (pa_cons (pe_cal Gp (hr.mono (by omega)) rfl (pa_cons (pv 0) (pa_cons (pe_lst (pa_cons (pv 7) (pa_cons (pv 7) (pa_cons (pe_tup (pa_cons pe_str (pa_cons (pe_op op_sub (pe_cal Gt (hr.mono (by omega)) rfl (pa_cons (pv 0) (pa_cons (pe_op op_add (pe_op op_mul pe_int (pv 2)) pe_int) pa_nil))) (pv 2)) pa_nil))) pa_nil)))) pa_nil))) pa_nil))) pa_nil))))) pss_nil))) (pss_cons (ps_if (pt_cmpR op_eq (pe_cal Gt (hr.mono (by omega)) rfl (pa_cons (pv 0) (pa_cons pe_int pa_nil))) pe_int (nomark _)) (pss_one (ps_expr (pe_bm PySem.F.plainAttrs_list PySem.F.slot_list_append PySem.F.type_list_append mt_append (pv 5) (pa_cons (pe_tup (pa_cons (pe_cal Gd (hr.mono (by omega)) rfl (pa_cons (pv 0) (pa_cons (pe_callB call_len_seq (by rfl) T.len PySem.boot_len (pa_cons (pv 4) pa_nil)) (pa_cons pe_int (pa_cons (pv 2) pa_nil))))) (pa_cons (pe_cal Gd (hr.mono (by omega)) rfl (pa_cons (pv 0) (pa_cons (pe_callB call_len_seq (by rfl) T.len PySem.boot_len (pa_cons (pv 4) pa_nil)) (pa_cons pe_int (pa_cons (pv 2) pa_nil))))) pa_nil))) pa_nil)))) pss_nil) (pss_cons (ps_set (i := 8) scLMill.nd rfl (.inl rfl) (pe_callTy call_tuple_of (by rfl) T.tuple boot_tuple (pa_cons (pe_lc (own := [("_law_name", 6)]) rfl scLMill.nd (pi_range1 (by rfl) T.range (pa_cons (pe_callB call_len_seq (by rfl) T.len PySem.boot_len (pa_cons (pv 4) pa_nil)) pa_nil)) (blkOk_by (own := [("_law_name", 6)]) (N := nLMill) (sc := defScope sLMill) (by decide +kernel)) (fun _ _ _ _ _ => pg_name (i := 6) scLMill.nd rfl (.inl rfl)) (fun _ _ _ _ _ => pts_one (pt_cmpR op_eq (pe_cal Gt (hr.mono (by omega)) rfl (pa_cons (pv 0) (pa_cons pe_int pa_nil))) pe_int (nomark _))) (fun _ _ _ _ _ => (pv 6))) pa_nil))) (pss_one (ps_ret (pe_tup (pa_cons (pv 3) (pa_cons (pv 4) (pa_cons (pe_ifExp (pt_cmpR (op_neD hr.units) (pv 8) (pe_tup pa_nil) (nomark _)) (pv 8) (pe_tup (pa_cons pe_int pa_nil))) (pa_cons (pe_callTy call_tuple_of (by rfl) T.tuple boot_tuple (pa_cons (pv 5) pa_nil)) pa_nil))))))))))), ?_⟩
  refine ⟨_, rfl, r, 2, sc, rfl, hrow, by decide, by decide, fun lt H1 hlt x1 row1 => ?_⟩
  refine ⟨_, _, rfl, rfl, _, rfl, _, rfl, r, 3, sc, rfl, row1, by decide, by decide, fun nm H2 hnm x2 row2 => ?_⟩
  refine ⟨_, _, rfl, rfl, nm + 1, by show [V.int (1 + (nm : Int))] = _; rw [Int.add_comm], by show (-2 ^ 62 : Int) ≤ _; omega, by show ((nm : Int) + 1) < 2 ^ 62; omega, fun D0 hD => ?_⟩
  have hrD : D0 ≠ r := row2.ne hD
  have row2D : RowAt K (upd H2 D0 (.lst [])) r sc := row2.ext (GT := []) (.new hD)
  refine lc_range (n := nm + 1) (fun i H' => Acc [] [r] H2 D0 (fun i ds => ∃ ns : List (Nat × Nat), ds = ns.map (fun n => D.tup [.int n.1, .int n.2]) ∧ ns.length = i ∧ ∀ n ∈ ns, 2 ≤ n.1 ∧ n.1 ≤ 3 ∧ n.2 < n.1) i H' ∧ RowAt K H' r sc) ⟨acc0 hD ⟨[], rfl, rfl, by simp⟩, row2D⟩ (fun i H3 hi ac => ?_) (fun H3 ac => ?_)
  · obtain ⟨ac, row3⟩ := ac
    refine ⟨rfl, ?_⟩
    refine ⟨_, rfl, (by show 3 ≤ sizeLine; decide), fun pl hpl => ?_⟩
    have xl : Ext [] [] H3 (upd H3 pl (.lst [.int 0, .int 0, .int 1])) := .new hpl
    refine ⟨r, pl, _, sc, rfl, row3.ext (GT := []) xl, row3.ne hpl, upd_same, (by show 1 ≤ 3; decide), (by show 3 < 1000; decide), fun jj wv H4 hwv x4 row4 => ?_⟩
    obtain ⟨b, hb, rfl⟩ : ∃ b : Nat, b < 2 ∧ wv = .int b := by
      match jj, hwv with
      | 0, h => cases h; exact ⟨0, by decide, rfl⟩
      | 1, h => cases h; exact ⟨0, by decide, rfl⟩
      | 2, h => cases h; exact ⟨1, by decide, rfl⟩
      | _ + 3, h => simp at h
    refine ⟨(by show 2 ≤ sizeLine; decide), fun pt hpt => ?_⟩
    have xt : Ext [] [] H4 (upd H4 pt (.tup [.int 2, .int b])) := .new hpt
    have Dt : DAt (upd H4 pt (.tup [.int 2, .int b])) (.ref pt) (.tup [.int 2, .int b]) := .mk2 upd_same (.int _) (.int _)
    have row5 := row4.ext (GT := []) xt
    generalize upd H4 pt (.tup [.int 2, .int b]) = H5 at xt Dt row5 ⊢
    obtain ⟨acc, ea, la, ac'⟩ := ac.step hD (by simp [hrD]) (by omega) ((xl.wide.trans x4).trans xt.wide) Dt (fun ds ⟨ts, e1, e2, e3⟩ => ⟨ts ++ [(2, b)], by rw [e1, List.map_append]; rfl, by rw [List.length_append, e2]; rfl, fun t ht => by
      rcases List.mem_append.mp ht with z | z
      · exact e3 t z
      · rw [List.mem_singleton.mp z]
        exact ⟨Nat.le_refl 2, (by show (2 : Nat) ≤ 3; decide), hb⟩⟩)
    exact ⟨acc, ea, la, ac', RowAt.put row2 hD row5⟩
  obtain ⟨⟨⟨ds, ⟨ys, ey, ay⟩, ⟨ns, rfl, nl, hns⟩, _⟩, x3⟩, row3⟩ := ac
  refine ⟨D0, ys, rfl, .inl ⟨SqL.of ey, fun pn hpn => ?_⟩⟩
  have xn : Ext [] [] H3 (upd H3 pn (.tup ys)) := .new hpn
  have ynl : ys.length = ns.length := by rw [ay.1, List.length_map]
  have Dn : DAt (upd H3 pn (.tup ys)) (.ref pn) (namesD ns) := .ofAll upd_same (ay.ext xn)
  have en : (upd H3 pn (.tup ys)) pn = some (.tup ys) := upd_same
  have X4 : Ext [] [r] H (upd H3 pn (.tup ys)) := ((x1.trans x2).trans x3).trans xn.wide
  have row4 := row3.ext (GT := []) xn
  generalize upd H3 pn (.tup ys) = H4 at Dn en X4 row4 ⊢
  have nOk : NamesOk ns := ⟨by omega, by omega, hns⟩
  refine ⟨_, _, rfl, (by show 0 ≤ sizeLine; decide), fun pl hpl => ?_⟩
  have nl1 := nOk.pos
  have nl3 := nOk.few
  have yl : (ys.length : Int) = (ns.length : Int) := by omega
  have rowl : RowAt K (upd H4 pl (.lst [])) r sc := row4.ext (GT := []) (.new hpl)
  have hrl : pl ≠ r := row4.ne hpl
  refine ⟨_, rfl, pn, _, rfl, .inr (SqT.of ((Ext.new (GT := []) (M := []) hpl).tups _ _ en)), ns.length, by rw [ynl], by omega, by omega, ?_⟩
  refine for_range (lo := 0) (n := ns.length) (fun i σ' H' => ∃ (a6 a7 : Option V) (es : List (Tm × Tm)), σ' = [some (.ref r), some (.int 3), some (.int 2), some (.int (1 + (lt : Int))), some (.ref pn), some (.ref pl), a6, a7, none, none] ∧ Ext [] [r] H4 H' ∧ RowAt K H' r sc ∧ LAt H' pl (es.map fun e => D.tup [e.1.d, e.2.d]) ∧ es.length ≤ i ∧ eqsOk ns.length es ∧ ∀ e ∈ es, e.1.deep ≤ 5 ∧ e.2.deep ≤ 5)
    ⟨none, none, [], rfl, (Ext.new hpl).wide, rowl, ⟨[], upd_same, .nil⟩, Nat.le_refl 0, (fun e z => by cases z), (fun e z => by cases z)⟩ (fun i σ' H5 hi hv => ?_) (fun σ' H5 hv => ?_)
  · obtain ⟨a6, a7, es, rfl, x5, row5, la, el, eok, edp⟩ := hv
    refine ⟨_, rfl, r, 6, sc, rfl, row5, by decide, by decide, fun jj H6 hjj x6 row6 => ?_⟩
    refine ⟨_, _, rfl, rfl, _, rfl, ?_⟩
    have xA := x5.trans x6
    refine iteD (fun c0 => ?_) (fun c0 => ?_)
    · refine ⟨_, rfl, _, rfl, pn, _, rfl, .inr (SqT.of (xA.tups _ _ en)), _, rfl, ?_⟩
      refine ⟨r, ns.length, 2, sc, by rw [ynl]; rfl, row6, by omega, by omega, by decide, by decide, fun t2 v2 H7 ot2 dt2 Dt2 xt2 rowt2 => ?_⟩
      have xB := xA.trans xt2
      refine ⟨(by show 3 ≤ sizeLine; decide), fun ps hps => ?_⟩
      have xs : Ext [] [] H7 (upd H7 ps (.tup [.str "rest", v2, .int 2])) := .new hps
      have Ds : DAt (upd H7 ps (.tup [.str "rest", v2, .int 2])) (.ref ps) (Tm.rst t2 2).d := .mk3 upd_same (.str _) (Dt2.ext xs) (.int _)
      have row8 := rowt2.ext (GT := []) xs
      have xC := xB.trans xs.wide
      have la8 := ((la.extM x6 (by simp [hrl])).extM xt2 (by simp [hrl])).ext xs
      generalize upd H7 ps (.tup [.str "rest", v2, .int 2]) = H8 at Ds row8 xC la8 ⊢
      have e8 : ∃ xs, H8 pl = some (.lst xs) := by obtain ⟨xs, e, _⟩ := la8; exact ⟨xs, e⟩
      obtain ⟨xs8, e8⟩ := e8
      refine ⟨_, rfl, .inl ⟨rfl, _, SqL.of e8⟩, _, rfl, _, rfl, _, _, rfl, rfl, (by show 4 ≤ sizeLine; decide), fun pz hpz => ?_⟩
      have xz : Ext [] [] H8 (upd H8 pz (.lst [.int 0, .int 0, .int (0 - 1), .int 1])) := .new hpz
      refine ⟨r, pz, _, sc, rfl, row8.ext (GT := []) xz, row8.ne hpz, upd_same, (by show 1 ≤ 4; decide), (by show 4 < 1000; decide), fun j9 w9 H9 hw9 x9 row9 => ?_⟩
      obtain ⟨o, o1, o2, rfl⟩ : ∃ o : Int, -2 ≤ o ∧ o ≤ 2 ∧ w9 = .int o := by
        match j9, hw9 with
        | 0, h => cases h; exact ⟨0, by decide, by decide, rfl⟩
        | 1, h => cases h; exact ⟨0, by decide, by decide, rfl⟩
        | 2, h => cases h; exact ⟨0 - 1, by decide, by decide, rfl⟩
        | 3, h => cases h; exact ⟨1, by decide, by decide, rfl⟩
        | _ + 4, h => simp at h
      have xD := (xC.trans xz.wide).trans x9
      have la9 := (la8.ext xz).extM x9 (by simp [hrl])
      have Ds9 := (Ds.ext xz).ext x9
      refine ⟨(by show 3 ≤ sizeLine; decide), fun po hpo => ?_⟩
      have xo : Ext [] [] H9 (upd H9 po (.tup [.str "of", .int (0 + (i : Int)), .int o])) := .new hpo
      have Do : DAt (upd H9 po (.tup [.str "of", .int (0 + (i : Int)), .int o])) (.ref po) (Tm.ofn i o).d := by
        rw [Int.zero_add]
        exact .mk3 upd_same (.str _) (.int _) (.int _)
      have row10 := row9.ext (GT := []) xo
      have xE := xD.trans xo.wide
      have la10 := la9.ext xo
      have Ds10 := Ds9.ext xo
      generalize upd H9 po (.tup [.str "of", .int (0 + (i : Int)), .int o]) = H10 at Do row10 xE la10 Ds10 ⊢
      refine ⟨_, rfl, _, rfl, _, rfl, ?_⟩
      refine ⟨_, rfl, _, rfl, _, _, rfl, rfl, .inl ⟨by decide, by decide⟩, _, _, rfl, rfl, ?_⟩
      refine ⟨r, 5, sc, rfl, row10, by decide, by decide, fun j11 H11 hj11 x11 row11 => ?_⟩
      refine ⟨_, rfl, _, _, rfl, rfl, (by show 2 ≤ sizeLine; decide), fun pt hpt => ?_⟩
      have xt : Ext [] [] H11 (upd H11 pt (.tup [.str "in", .int ((j11 : Int) - 2)])) := .new hpt
      have Dt : DAt (upd H11 pt (.tup [.str "in", .int ((j11 : Int) - 2)])) (.ref pt) (Tm.inn ((j11 : Int) - 2)).d := .mk2 upd_same (.str _) (.int _)
      have row12 := row11.ext (GT := []) xt
      have xF := (xE.trans x11).trans xt.wide
      have la12 := (la10.extM x11 (by simp [hrl])).ext xt
      have Ds12 := (Ds10.ext x11).ext xt
      have Do12 := (Do.ext x11).ext xt
      generalize upd H11 pt (.tup [.str "in", .int ((j11 : Int) - 2)]) = H12 at Dt row12 xF la12 Ds12 Do12 ⊢
      refine ⟨(by show 3 ≤ sizeLine; decide), fun pq hpq => ?_⟩
      have xq : Ext [] [] H12 (upd H12 pq (.lst [.ref ps, .ref ps, .ref pt])) := .new hpq
      refine ⟨r, pq, _, sc, rfl, row12.ext (GT := []) xq, row12.ne hpq, upd_same, (by show 1 ≤ 3; decide), (by show 3 < 1000; decide), fun j13 w13 H13 hw13 x13 row13 => ?_⟩
      have xG := (xF.trans xq.wide).trans x13
      have la13 := (la12.ext xq).extM x13 (by simp [hrl])
      have Do13 := (Do12.ext xq).ext x13
      obtain ⟨u, ou, du, Du⟩ : ∃ u : Tm, u.ok ns.length ∧ u.deep ≤ 5 ∧ DAt H13 w13 u.d := by
        have A : (Tm.rst t2 2).ok ns.length ∧ (Tm.rst t2 2).deep ≤ 5 ∧ DAt H13 (.ref ps) (Tm.rst t2 2).d := ⟨⟨ot2, by decide, by decide⟩, by show t2.deep + 1 ≤ 5; omega, (Ds12.ext xq).ext x13⟩
        match j13, hw13 with
        | 0, h => cases h; exact ⟨_, A⟩
        | 1, h => cases h; exact ⟨_, A⟩
        | 2, h => cases h; exact ⟨.inn ((j11 : Int) - 2), ⟨by omega, by omega⟩, (by show (1 : Nat) ≤ 5; decide), (Dt.ext xq).ext x13⟩
        | _ + 3, h => simp at h
      refine ⟨(by show 2 ≤ sizeLine; decide), fun pe hpe => ?_⟩
      have xe : Ext [] [] H13 (upd H13 pe (.tup [.ref po, w13])) := .new hpe
      have De : DAt (upd H13 pe (.tup [.ref po, w13])) (.ref pe) (.tup [(Tm.ofn i o).d, u.d]) := .mk2 upd_same (Do13.ext xe) (Du.ext xe)
      have row14 := row13.ext (GT := []) xe
      have xH := xG.trans xe.wide
      have la14 := la13.ext xe
      generalize upd H13 pe (.tup [.ref po, w13]) = H14 at De row14 xH la14 ⊢
      obtain ⟨xs14, e14, el14, lb⟩ := la14.snoc De
      refine ⟨pl, _, _, rfl, rfl, e14, Nat.lt_of_lt_of_le (by rw [el14, List.length_map]; omega : xs14.length < 1000000) (by decide), some (.int (0 + (i : Int))), some (.ref ps), es ++ [(Tm.ofn i o, u)], rfl, xH.mutN hpl, RowAt.put row4 hpl row14, by rw [List.map_append]; exact lb, by rw [List.length_append]; exact Nat.succ_le_succ el, fun e he => ?_, fun e he => ?_⟩
      · rcases List.mem_append.mp he with z | z
        · exact eok e z
        · rw [List.mem_singleton.mp z]
          exact ⟨⟨hi, o1, o2⟩, ou⟩
      · rcases List.mem_append.mp he with z | z
        · exact edp e z
        · rw [List.mem_singleton.mp z]
          exact ⟨(by show (1 : Nat) ≤ 5; decide), du⟩
    · exact ⟨_, _, es, rfl, xA, row6, la.extM x6 (by simp [hrl]), Nat.le_succ_of_le el, eok, edp⟩
  · obtain ⟨a6, a7, es, rfl, x5, row5, la, el, eok, edp⟩ := hv
    clear hrow row1 row2 row2D row3 xn
    refine ⟨_, rfl, r, 4, sc, rfl, row5, by decide, by decide, fun jj H6 hjj x6 row6 => ?_⟩
    refine ⟨rfl, _, rfl, ?_⟩
    have xA := x5.trans x6
    have laA := la.extM x6 (by simp [hrl])
    refine iteD (fun c0 => ?_) (fun c0 => ?_)
    obtain ⟨xs6, e6, _⟩ := id laA
    refine ⟨_, rfl, .inl ⟨rfl, _, SqL.of e6⟩, _, rfl, _, rfl, pn, _, rfl, .inr (SqT.of (xA.tups _ _ en)), _, rfl, ?_⟩
    refine ⟨r, ns.length, 2, sc, by rw [ynl]; rfl, row6, by omega, by omega, by decide, by decide, fun t7 v7 H7 ot7 dt7 Dt7 xt7 rowt7 => ?_⟩
    refine ⟨_, rfl, _, rfl, pn, _, rfl, .inr (SqT.of ((xA.trans xt7).tups _ _ en)), _, rfl, ?_⟩
    refine ⟨r, ns.length, 2, sc, by rw [ynl]; rfl, rowt7, by omega, by omega, by decide, by decide, fun t8 v8 H8 ot8 dt8 Dt8 xt8 rowt8 => ?_⟩
    refine ⟨(by show 2 ≤ sizeLine; decide), fun pe hpe => ?_⟩
    have xe : Ext [] [] H8 (upd H8 pe (.tup [v7, v8])) := .new hpe
    have De : DAt (upd H8 pe (.tup [v7, v8])) (.ref pe) (.tup [t7.d, t8.d]) := .mk2 upd_same ((Dt7.ext xt8).ext xe) (Dt8.ext xe)
    have row9 := rowt8.ext (GT := []) xe
    have xH := ((xA.trans xt7).trans xt8).trans xe.wide
    have la14 := (((la.extM x6 (by simp [hrl])).extM xt7 (by simp [hrl])).extM xt8 (by simp [hrl])).ext xe
    generalize upd H8 pe (.tup [v7, v8]) = H14 at De row9 xH la14 ⊢
    obtain ⟨xs14, e14, el14, lb⟩ := la14.snoc De
    refine ⟨pl, _, _, rfl, rfl, e14, Nat.lt_of_lt_of_le (by rw [el14, List.length_map]; omega : xs14.length < 1000000) (by decide), ?_⟩
    have xT : Ext [] [r] H4 (upd H14 pl (.lst (xs14 ++ [.ref pe]))) := xH.mutN hpl
    have rowT := RowAt.put (o := .lst (xs14 ++ [.ref pe])) row4 hpl row9
    have laT : LAt (upd H14 pl (.lst (xs14 ++ [.ref pe]))) pl ((es ++ [(t7, t8)]).map fun e => D.tup [e.1.d, e.2.d]) := by rw [List.map_append]; exact lb
    have elT : (es ++ [(t7, t8)]).length ≤ 6 := by rw [List.length_append]; show es.length + 1 ≤ 6; omega
    have okT : eqsOk ns.length (es ++ [(t7, t8)]) := fun e he => by
      rcases List.mem_append.mp he with z | z
      · exact eok e z
      · rw [List.mem_singleton.mp z]
        exact ⟨ot7, ot8⟩
    have dpT : ∀ e ∈ es ++ [(t7, t8)], e.1.deep ≤ 5 ∧ e.2.deep ≤ 5 := fun e he => by
      rcases List.mem_append.mp he with z | z
      · exact edp e z
      · rw [List.mem_singleton.mp z]
        exact ⟨by show t7.deep ≤ 5; omega, by show t8.deep ≤ 5; omega⟩
    generalize upd H14 pl (.lst (xs14 ++ [.ref pe])) = HT at xT rowT laT ⊢
    generalize es ++ [(t7, t8)] = esT at laT elT okT dpT
    rotate_left
    have xT := xA
    have rowT := row6
    have laT := laA
    have elT : es.length ≤ 6 := by omega
    have okT := eok
    have dpT := edp
    show tNext _ _ H6
    generalize H6 = HT at xT rowT laT ⊢
    generalize es = esT at laT elT okT dpT
    all_goals
      clear xA laA la eok edp el x6 row6
      refine ⟨_, rfl, pn, _, rfl, .inr (SqT.of (xT.tups _ _ en)), ns.length, by rw [ynl], by omega, by omega, fun D0 hD => ?_⟩
      have hrD : D0 ≠ r := rowT.ne hD
      have hlD : D0 ≠ pl := fun z => by
        obtain ⟨xs, e, _⟩ := laT
        rw [← z, hD] at e
        cases e
      have row2D : RowAt K (upd HT D0 (.lst [])) r sc := rowT.ext (GT := []) (.new hD)
      refine lc_range (n := ns.length) (fun i H' => Acc [] [r] HT D0 (fun i ds => ∃ l : List Nat, ds = l.map (fun (j : Nat) => D.int j) ∧ l.Pairwise (· < ·) ∧ (∀ j ∈ l, j < i) ∧ l.length ≤ i) i H' ∧ RowAt K H' r sc) ⟨acc0 hD ⟨[], rfl, .nil, (by simp), Nat.le_refl 0⟩, row2D⟩ (fun i H3 hi ac => ?_) (fun H3 ac => ?_)
      · obtain ⟨ac, row3⟩ := ac
        refine ⟨rfl, ?_⟩
        refine ⟨_, rfl, r, 2, sc, rfl, row3, by decide, by decide, fun jj H4 hjj x4 row4 => ?_⟩
        refine ⟨rfl, _, rfl, ?_⟩
        by_cases c1 : V.int (jj : Int) = V.int 0
        · refine iteDT c1 ⟨_, rfl, ?_⟩
          obtain ⟨acc, ea, la, ac'⟩ := ac.step hD (by simp [hrD]) (by omega) x4 (.int (0 + (i : Int))) (fun ds ⟨l, e1, e2, e3, e4⟩ => ⟨l ++ [i], by rw [e1, List.map_append, Int.zero_add]; rfl, by
            rw [List.pairwise_append]
            exact ⟨e2, List.pairwise_singleton _ _, fun a ha b hb => by rw [List.mem_singleton.mp hb]; exact e3 a ha⟩, fun j hj => by
            rcases List.mem_append.mp hj with z | z
            · exact Nat.lt_succ_of_lt (e3 j z)
            · rw [List.mem_singleton.mp z]; exact Nat.lt_succ_self _, by rw [List.length_append]; exact Nat.succ_le_succ e4⟩)
          exact ⟨acc, ea, la, ac', RowAt.put rowT hD row4⟩
        · refine iteDF c1 ⟨ac.skip (by simp [hrD]) x4 (fun ds ⟨l, e1, e2, e3, e4⟩ => ⟨l, e1, e2, fun j hj => Nat.lt_succ_of_lt (e3 j hj), Nat.le_succ_of_le e4⟩), row4⟩
      · obtain ⟨⟨⟨ds, ⟨yt, et, at_⟩, ⟨tl, rfl, tp, ti, tf⟩, _⟩, x3⟩, row3⟩ := ac
        refine ⟨D0, yt, rfl, .inl ⟨SqL.of et, fun pt hpt => ?_⟩⟩
        have xt : Ext [] [] H3 (upd H3 pt (.tup yt)) := .new hpt
        have Dt : AllD (upd H3 pt (.tup yt)) yt (tl.map fun (j : Nat) => D.int j) := at_.ext xt
        have et2 : (upd H3 pt (.tup yt)) pt = some (.tup yt) := upd_same
        have X7 := ((xT.trans x3)).trans xt.wide
        have row7 := row3.ext (GT := []) xt
        have la7 := (laT.extM x3 (by simp [hrl])).ext xt
        generalize upd H3 pt (.tup yt) = H7 at Dt et2 X7 row7 la7 ⊢
        have hyt : yt = (tl.map fun (j : Nat) => (j : Int)).map V.int := allD_intI (by rw [List.map_map]; exact Dt)
        subst hyt
        refine ⟨_, rfl, _, rfl, _, rfl, (by show 0 ≤ sizeLine; decide), fun p0 hp0 => ?_⟩
        have x0 : Ext [] [] H7 (upd H7 p0 (.tup [])) := .new hp0
        have e0 : (upd H7 p0 (.tup [])) p0 = some (.tup []) := upd_same
        have Dt8 := Dt.ext x0
        have et8 := x0.tups _ _ et2
        have X8 := X7.trans x0.wide
        have row8 := row7.ext (GT := []) x0
        have la8 := la7.ext x0
        generalize upd H7 p0 (.tup []) = H8 at e0 Dt8 et8 X8 row8 la8 ⊢
        refine ⟨_, _, .tup (SqT.of et8) (dpAll_int _), .tup (SqT.of e0) .nil, shaped_ints3 _ (by rw [List.length_map]; omega), rfl, ?_⟩
        obtain ⟨pl8, el8, al8⟩ := la8
        have fin : ∀ (told : List Nat) (pv : Addr) (H9 : Hp), ToldOk ns.length told → Ext [] [] H8 H9 → DAt H9 (.ref pv) (toldD told) → ∀ (H10 : Hp) (pe pr : Addr), Ext [] [] H9 H10 → H10 pe = some (.tup pl8) → H10 pr = none → Q (.ref pr) (upd H10 pr (.tup [.int (1 + (lt : Int)), .ref pn, .ref pv, .ref pe])) := fun told pv H9 tok x9 D9 H10 pe pr x10 epe hpr => by
          have xr : Ext [] [] H10 (upd H10 pr (.tup [.int (1 + (lt : Int)), .ref pn, .ref pv, .ref pe])) := .new hpr
          have M : Mill := ⟨1 + lt, ns, told, esT⟩
          refine q ⟨1 + lt, ns, told, esT⟩ _ _ ⟨⟨by show 1 ≤ 1 + lt; omega, by show 1 + lt ≤ 3; omega⟩, nOk, tok, okT, elT, dpT⟩ ?_ ((((X4.trans X8).trans x9.wide).trans x10.wide).trans xr.wide) (((row8.ext x9).ext x10).ext xr)
          refine .mk4 upd_same ?_ ((((Dn.ext X8).ext x9).ext x10).ext xr) ((D9.ext x10).ext xr) (.ofAll (xr.tups _ _ epe) (((al8.ext x9).ext x10).ext xr))
          rw [show ((1 + lt : Nat) : Int) = 1 + (lt : Int) by omega]
          exact .int _
        rcases tl with _ | ⟨a, tl⟩
        · refine ⟨_, rfl, iteF ?_⟩
          refine ⟨(by show 1 ≤ sizeLine; decide), fun pv hpv => ?_⟩
          have xv : Ext [] [] H8 (upd H8 pv (.tup [.int 0])) := .new hpv
          refine ⟨_, rfl, pl, pl8, rfl, .inl ⟨SqL.of (xv.lst el8), fun pe hpe => ?_⟩⟩
          refine ⟨(by show 4 ≤ sizeLine; decide), fun pr hpr => ?_⟩
          exact fin [0] pv _ ⟨(by simp), (fun i hi => by rw [List.mem_singleton.mp hi]; omega), List.pairwise_singleton _ _, (by show 1 ≤ 3; decide)⟩ xv (.ofAll upd_same (.cons (.int _) .nil)) _ pe pr (.new hpe) upd_same hpr
        · refine ⟨_, rfl, iteT ?_⟩
          refine ⟨_, rfl, _, rfl, pl, pl8, rfl, .inl ⟨SqL.of el8, fun pe hpe => ?_⟩⟩
          refine ⟨(by show 4 ≤ sizeLine; decide), fun pr hpr => ?_⟩
          exact fin (a :: tl) pt _ ⟨(by simp), ti, tp, by omega⟩ .refl (.ofAll et8 Dt8) _ pe pr (.new hpe) upd_same hpr
end
end ML
set_option maxHeartbeats 4000000
namespace ML
open PySem PySem.Spec PyProof.Rows L2 TL Gn
/-! ### bounds and signs of written terms -/
theorem okd {z : Str} (h : PyData.strOk z = true := by decide +kernel) : okS z := h
theorem okS_app {a b : Str} (ha : okS a) (hb : okS b) : okS (a ++ b) := okS_iff.mpr fun c hc => by
  rw [tl_append] at hc
  rcases List.mem_append.mp hc with z | z
  · exact okS_iff.mp ha c z
  · exact okS_iff.mp hb c z
theorem okS_join {y : Str} (hy : okS y) : ∀ {l : List Str}, (∀ z ∈ l, okS z) → okS (Txt.join y l)
  | [], _ => by rw [join_eq]; exact (show okS (Str.ofString "") from okd)
  | [a], h => by rw [join_eq]; exact h a List.mem_cons_self
  | a :: b :: r, h => by
    have ih := okS_join hy (l := b :: r) fun z hz => h z (List.mem_cons_of_mem _ hz)
    rw [join_eq] at ih ⊢
    exact okS_app (okS_app (h a List.mem_cons_self) hy) ih
/-- a text without a line's end -/
def okN (z : Str) : Prop := okS z ∧ 10 ∉ tl z
theorem okdN {z : Str} (h : (PyData.strOk z && decide (10 ∉ tl z)) = true := by decide +kernel) : okN z := by
  rw [Bool.and_eq_true, decide_eq_true_eq] at h
  exact h
theorem okN_app {a b : Str} (ha : okN a) (hb : okN b) : okN (a ++ b) := ⟨okS_app ha.1 hb.1, by
  rw [tl_append, List.mem_append]
  rintro (z | z)
  · exact ha.2 z
  · exact hb.2 z⟩
theorem okN_join {y : Str} (hy : okN y) : ∀ {l : List Str}, (∀ z ∈ l, okN z) → okN (Txt.join y l)
  | [], _ => by rw [join_eq]; exact (show okN (Str.ofString "") from okdN)
  | [a], h => by rw [join_eq]; exact h a List.mem_cons_self
  | a :: b :: r, h => by
    have ih := okN_join hy (l := b :: r) fun z hz => h z (List.mem_cons_of_mem _ hz)
    rw [join_eq] at ih ⊢
    exact okN_app (okN_app (h a List.mem_cons_self) hy) ih
/-- not empty, and its first sign is no 't' -/
def hdT (z : Str) : Prop := ∃ c r, tl z = c :: r ∧ c ≠ 116
theorem hdT_app {a b : Str} (h : hdT a) : hdT (a ++ b) := by
  obtain ⟨c, r, e, n⟩ := h
  exact ⟨c, r ++ tl b, by rw [tl_append, e]; rfl, n⟩
theorem hdT_d {z : Str} (h : (match tl z with | [] => false | c :: _ => decide (c ≠ 116)) = true := by decide +kernel) : hdT z := by
  cases e : tl z with
  | nil => rw [e] at h; cases h
  | cons c r => rw [e] at h; exact ⟨c, r, e, of_decide_eq_true h⟩
theorem okN_num9 {c : Nat} (h : c ≤ 9) : okN (numS c) ∧ (numS c).length = 1 := by
  match c, h with
  | 0, _ => exact ⟨okdN, by decide +kernel⟩
  | 1, _ => exact ⟨okdN, by decide +kernel⟩
  | 2, _ => exact ⟨okdN, by decide +kernel⟩
  | 3, _ => exact ⟨okdN, by decide +kernel⟩
  | 4, _ => exact ⟨okdN, by decide +kernel⟩
  | 5, _ => exact ⟨okdN, by decide +kernel⟩
  | 6, _ => exact ⟨okdN, by decide +kernel⟩
  | 7, _ => exact ⟨okdN, by decide +kernel⟩
  | 8, _ => exact ⟨okdN, by decide +kernel⟩
  | 9, _ => exact ⟨okdN, by decide +kernel⟩
theorem off_cases {o : Int} (h1 : -2 ≤ o) (h2 : o ≤ 2) : o = -2 ∨ o = -1 ∨ o = 0 ∨ o = 1 ∨ o = 2 := by omega
theorem okN_off {o : Int} (h1 : -2 ≤ o) (h2 : o ≤ 2) : okN (offF o) ∧ (offF o).length ≤ 3 := by
  rcases off_cases h1 h2 with rfl | rfl | rfl | rfl | rfl <;> exact ⟨okdN, by decide +kernel⟩
theorem okN_getD {ws : List Str} (h : ∀ z ∈ ws, okN z) (i : Nat) : okN (ws.getD i (Str.ofString "")) := by
  rw [List.getD_eq_getElem?_getD]
  cases e : ws[i]? with
  | none => exact (show okN (Str.ofString "") from okdN)
  | some z => exact h z (List.mem_of_getElem? e)
theorem W_okN {ws : List Str} (hw : ∀ z ∈ ws, okN z) : ∀ (t : Tm) (r : Nat), t.ok ws.length → okN (W ws t r)
  | .inn o, r, h => okN_app okdN (okN_off h.1 h.2).1
  | .ofn i o, r, h => okN_app (okN_getD hw i) (okN_off h.2.1 h.2.2).1
  | .isc c, r, h => (okN_num9 h).1
  | .rst a c, r, h => okN_app (okN_app (okN_app (okN_app okdN (W_okN hw a 0 h.1)) okdN) (okN_num9 h.2.2).1) okdN
  | .pck a b c, r, h => okN_app (okN_app okdN (okN_app (okN_app (W_okN hw a 0 h.1) okdN) (okN_app (okN_app (W_okN hw b 0 h.2.1) okdN) (W_okN hw c 0 h.2.2)))) okdN
  | .bin op a b, r, h => by
    have e : okN (W ws a (if 0 < op.rank then op.rank else 1) ++ ((" " : Str) ++ op.sign ++ (" " : Str)) ++ W ws b (op.rank + 1)) :=
      okN_app (okN_app (W_okN hw a _ h.1) (by cases op <;> exact okdN)) (W_okN hw b _ h.2)
    show okN (if op.rank < r then ("(" : Str) ++ (W ws a (if 0 < op.rank then op.rank else 1) ++ ((" " : Str) ++ op.sign ++ (" " : Str)) ++ W ws b (op.rank + 1)) ++ (")" : Str) else _)
    split
    · exact okN_app (okN_app okdN e) okdN
    · exact e
theorem W_len3 {ws : List Str} (hw : ∀ z ∈ ws, z.length ≤ 8) : ∀ (t : Tm) (r : Nat), t.ok ws.length → (W ws t r).length + 12 ≤ 8 * 3 ^ t.deep
  | .inn o, r, h => by
    have := (okN_off h.1 h.2).2
    show (("in" : Str) ++ offF o).length + 12 ≤ 8 * 3 ^ 1
    rw [len_app]
    have : ("in" : Str).length = 2 := by decide
    omega
  | .ofn i o, r, h => by
    obtain ⟨h0, h1, h2⟩ := h
    have := (okN_off h1 h2).2
    show (ws.getD i (Str.ofString "") ++ offF o).length + 12 ≤ 8 * 3 ^ 1
    rw [len_app]
    have h8 : (ws.getD i (Str.ofString "")).length ≤ 8 := by
      rw [List.getD_eq_getElem?_getD, List.getElem?_eq_getElem h0]
      exact hw _ (List.getElem_mem h0)
    omega
  | .isc c, r, h => by
    have := (okN_num9 h).2
    show (numS c).length + 12 ≤ 8 * 3 ^ 1
    omega
  | .rst a c, r, h => by
    obtain ⟨h0, h1, h2⟩ := h
    have ih := W_len3 hw a 0 h0
    have := (okN_num9 h2).2
    show (("rest(" : Str) ++ W ws a 0 ++ (", " : Str) ++ numS c ++ (")" : Str)).length + 12 ≤ 8 * 3 ^ (a.deep + 1)
    rw [len_app, len_app, len_app, len_app, Nat.pow_succ]
    have e1 : ("rest(" : Str).length = 5 := by decide
    have e2 : (", " : Str).length = 2 := by decide
    have e3 : (")" : Str).length = 1 := by decide
    omega
  | .pck a b c, r, h => by
    obtain ⟨h0, h1, h2⟩ := h
    have ia := W_len3 hw a 0 h0
    have ib := W_len3 hw b 0 h1
    have ic := W_len3 hw c 0 h2
    show (("pick(" : Str) ++ (W ws a 0 ++ (", " : Str) ++ (W ws b 0 ++ (", " : Str) ++ W ws c 0)) ++ (")" : Str)).length + 12 ≤ 8 * 3 ^ (max a.deep (max b.deep c.deep) + 1)
    rw [len_app, len_app, len_app, len_app, len_app, len_app, Nat.pow_succ]
    have e1 : ("pick(" : Str).length = 5 := by decide
    have e2 : (", " : Str).length = 2 := by decide
    have e3 : (")" : Str).length = 1 := by decide
    have p1 : 3 ^ a.deep ≤ 3 ^ max a.deep (max b.deep c.deep) := Nat.pow_le_pow_right (by decide) (by omega)
    have p2 : 3 ^ b.deep ≤ 3 ^ max a.deep (max b.deep c.deep) := Nat.pow_le_pow_right (by decide) (by omega)
    have p3 : 3 ^ c.deep ≤ 3 ^ max a.deep (max b.deep c.deep) := Nat.pow_le_pow_right (by decide) (by omega)
    omega
  | .bin op a b, r, h => by
    obtain ⟨h0, h1⟩ := h
    have ia := W_len3 hw a (if 0 < op.rank then op.rank else 1) h0
    have ib := W_len3 hw b (op.rank + 1) h1
    have es : op.sign.length ≤ 2 := by cases op <;> decide
    have e2 : (" " : Str).length = 1 := by decide
    have e3 : (")" : Str).length = 1 := by decide
    have e5 : ("(" : Str).length = 1 := by decide
    have p1 : 3 ^ a.deep ≤ 3 ^ max a.deep b.deep := Nat.pow_le_pow_right (by decide) (by omega)
    have p2 : 3 ^ b.deep ≤ 3 ^ max a.deep b.deep := Nat.pow_le_pow_right (by decide) (by omega)
    have body : (W ws a (if 0 < op.rank then op.rank else 1) ++ ((" " : Str) ++ op.sign ++ (" " : Str)) ++ W ws b (op.rank + 1)).length + 24 ≤ 16 * 3 ^ max a.deep b.deep + 4 := by
      rw [len_app, len_app, len_app, len_app]
      omega
    show (if op.rank < r then ("(" : Str) ++ (W ws a (if 0 < op.rank then op.rank else 1) ++ ((" " : Str) ++ op.sign ++ (" " : Str)) ++ W ws b (op.rank + 1)) ++ (")" : Str) else _).length + 12 ≤ 8 * 3 ^ (max a.deep b.deep + 1)
    rw [Nat.pow_succ]
    split
    · rw [len_app, len_app]
      omega
    · omega
theorem hdT_num {c : Nat} (h : c ≤ 9) : hdT (numS c) := by
  have : c = 0 ∨ c = 1 ∨ c = 2 ∨ c = 3 ∨ c = 4 ∨ c = 5 ∨ c = 6 ∨ c = 7 ∨ c = 8 ∨ c = 9 := by omega
  rcases this with rfl | rfl | rfl | rfl | rfl | rfl | rfl | rfl | rfl | rfl <;> exact hdT_d
theorem W_hd {ws : List Str} (hw : ∀ z ∈ ws, hdT z) : ∀ (t : Tm) (r : Nat), t.ok ws.length → hdT (W ws t r)
  | .inn o, r, h => hdT_app hdT_d
  | .ofn i o, r, h => hdT_app (by
    rw [List.getD_eq_getElem?_getD, List.getElem?_eq_getElem h.1]
    exact hw _ (List.getElem_mem h.1))
  | .isc c, r, h => hdT_num h
  | .rst a c, r, h => hdT_app (hdT_app (hdT_app (hdT_app hdT_d)))
  | .pck a b c, r, h => hdT_app (hdT_app hdT_d)
  | .bin op a b, r, h => by
    have e : hdT (W ws a (if 0 < op.rank then op.rank else 1) ++ ((" " : Str) ++ op.sign ++ (" " : Str)) ++ W ws b (op.rank + 1)) := hdT_app (hdT_app (W_hd hw a _ h.1))
    show hdT (if op.rank < r then ("(" : Str) ++ (W ws a (if 0 < op.rank then op.rank else 1) ++ ((" " : Str) ++ op.sign ++ (" " : Str)) ++ W ws b (op.rank + 1)) ++ (")" : Str) else _)
    split
    · exact hdT_app (hdT_app hdT_d)
    · exact e
/-- the three kinds of term -/
theorem tm_kind {H : Hp} {v : V} {n d : Nat} {t : Tm} (ht : DAt H v t.d) (ok : t.ok n) (hd : t.deep ≤ d + 1) :
    (∃ (p : Addr) (xs : List V) (word : Str), v = .ref p ∧ H p = some (.tup (.str word :: xs)) ∧ (word = "in" ∨ word = "of" ∨ word = "is") ∧ t.deep = 1) ∨
    (∃ (p : Addr) (xs : List V) (word : Str) (M : Nat), v = .ref p ∧ H p = some (.tup (.str word :: xs)) ∧ (word = "rest" ∨ word = "pick") ∧ (xs.length = 2 ∨ xs.length = 3) ∧ 24 ≤ M ∧ M ≤ 8 * 3 ^ d ∧ 3 * M ≤ 8 * 3 ^ t.deep ∧
      ∀ (i : Nat) (x : V), xs[i]? = some x → (∃ u : Tm, DAt H x u.d ∧ u.ok n ∧ u.deep ≤ d ∧ 8 * 3 ^ u.deep ≤ M) ∨ ∃ k : Nat, k ≤ 9 ∧ x = .int k) ∨
    (∃ (p : Addr) (ya yb : V) (op : Op) (a b : Tm), t = .bin op a b ∧ v = .ref p ∧ H p = some (.tup [.str op.word, ya, yb]) ∧ DAt H ya a.d ∧ DAt H yb b.d ∧ a.ok n ∧ b.ok n ∧ a.deep ≤ d ∧ b.deep ≤ d) := by
  cases t with
  | inn o =>
    obtain ⟨p, x, y, rfl, hp, hx, hy⟩ := DAt.tup2 ht
    have hx := hx.strI
    subst hx
    exact .inl ⟨p, _, _, rfl, hp, .inl rfl, rfl⟩
  | ofn i o =>
    obtain ⟨p, x, y, z, rfl, hp, hx, hy, hz⟩ := DAt.tup3 ht
    have hx := hx.strI
    subst hx
    exact .inl ⟨p, _, _, rfl, hp, .inr (.inl rfl), rfl⟩
  | isc k =>
    obtain ⟨p, x, y, rfl, hp, hx, hy⟩ := DAt.tup2 ht
    have hx := hx.strI
    subst hx
    exact .inl ⟨p, _, _, rfl, hp, .inr (.inr rfl), rfl⟩
  | rst a k =>
    obtain ⟨p, x, y, z, rfl, hp, hx, hy, hz⟩ := DAt.tup3 ht
    have hx := hx.strI
    have hz := hz.intI
    subst hx hz
    have hd : a.deep + 1 ≤ d + 1 := hd
    have dp := Tm.deep_pos a
    have m1 : 3 ^ 1 ≤ 3 ^ a.deep := Nat.pow_le_pow_right (by decide) dp
    have m2 : 3 ^ a.deep ≤ 3 ^ d := Nat.pow_le_pow_right (by decide) (by omega)
    refine .inr (.inl ⟨p, _, _, 8 * 3 ^ a.deep, rfl, hp, .inl rfl, .inl rfl, by omega, by omega, by show 3 * (8 * 3 ^ a.deep) ≤ 8 * 3 ^ (a.deep + 1); rw [Nat.pow_succ]; omega, fun i x e => ?_⟩)
    rcases get2 e with ⟨rfl, rfl⟩ | ⟨rfl, rfl⟩
    · exact .inl ⟨a, hy, ok.1, by omega, Nat.le_refl _⟩
    · exact .inr ⟨k, ok.2.2, rfl⟩
  | pck a b c =>
    obtain ⟨p, x, ya, yb, yc, rfl, hp, hx, ha, hb, hc⟩ := DAt.tup4 ht
    have hx := hx.strI
    subst hx
    obtain ⟨oa, ob, oc⟩ := ok
    have hd : max a.deep (max b.deep c.deep) + 1 ≤ d + 1 := hd
    have dp := Tm.deep_pos a
    have m1 : 3 ^ 1 ≤ 3 ^ max a.deep (max b.deep c.deep) := Nat.pow_le_pow_right (by decide) (by omega)
    have m2 : 3 ^ max a.deep (max b.deep c.deep) ≤ 3 ^ d := Nat.pow_le_pow_right (by decide) (by omega)
    have p1 : 3 ^ a.deep ≤ 3 ^ max a.deep (max b.deep c.deep) := Nat.pow_le_pow_right (by decide) (by omega)
    have p2 : 3 ^ b.deep ≤ 3 ^ max a.deep (max b.deep c.deep) := Nat.pow_le_pow_right (by decide) (by omega)
    have p3 : 3 ^ c.deep ≤ 3 ^ max a.deep (max b.deep c.deep) := Nat.pow_le_pow_right (by decide) (by omega)
    refine .inr (.inl ⟨p, _, _, 8 * 3 ^ max a.deep (max b.deep c.deep), rfl, hp, .inr rfl, .inr rfl, by omega, by omega, by show 3 * (8 * 3 ^ max a.deep (max b.deep c.deep)) ≤ 8 * 3 ^ (max a.deep (max b.deep c.deep) + 1); rw [Nat.pow_succ]; omega, fun i x e => ?_⟩)
    rcases get3 e with ⟨rfl, rfl⟩ | ⟨rfl, rfl⟩ | ⟨rfl, rfl⟩
    · exact .inl ⟨a, ha, oa, by omega, by omega⟩
    · exact .inl ⟨b, hb, ob, by omega, by omega⟩
    · exact .inl ⟨c, hc, oc, by omega, by omega⟩
  | bin op a b =>
    obtain ⟨p, x, ya, yb, rfl, hp, hx, ha, hb⟩ := DAt.tup3 ht
    have hx := hx.strI
    subst hx
    have hd : max a.deep b.deep + 1 ≤ d + 1 := hd
    exact .inr (.inr ⟨p, ya, yb, op, a, b, rfl, rfl, hp, ha, hb, ok.1, ok.2, by omega, by omega⟩)
def spLoose (K : PySem.W.Frag) (d : Nat) : Sp := fun vs H Q _ => ∃ (r : Addr) (sc : Addr × List Int) (v : V) (t : Tm) (pw : Addr) (ws : List Str), vs = [.ref r, v, .ref pw] ∧ RowAt K H r sc ∧ DAt H v t.d ∧ t.ok ws.length ∧ t.deep ≤ d ∧ d ≤ 5 ∧ H pw = some (.tup (ws.map V.str)) ∧ (∀ z ∈ ws, z.length ≤ 8) ∧ (∀ z ∈ ws, okN z) ∧ (∀ z ∈ ws, hdT z) ∧
  ∀ (z : Str) H', z.length + 10 ≤ 8 * 3 ^ t.deep → okN z → hdT z → Ext [] [r] H H' → RowAt K H' r sc → Q (.str z) H'
section
variable {P : Program} {w : World} {K : PySem.W.Frag} {mg : Str → Option Value} {base : Heap} {f c C fnw : Addr} {fd fdnw : FuncData} {GT : List Addr} {tp : Addr}
theorem loose_step {d : Nat} (F : FunC K "_law_loose" "_law_loose" sLLoose f fd c) (T : Bl mg) (Gt : Cal P w K mg base 1 "_law_taken" pLTaken (spTaken K)) (Gp : Cal P w K mg base 2 "_law_pick" pLPick (spPick K)) (Gw : Cal P w K mg base 2 "_law_text" pLText (spW 1)) (G : Cal P w K mg base (d + 3) "_law_loose" pLLoose (spLoose K d)) : FnOk P w K mg base CX0 (d + 4) f fd pLLoose (spLoose K (d + 1)) := by
  refine F.ok scLLoose (fun vs H Q E h => ?_) (fun A outer s H vs Q E hr h => ?_)
  · obtain ⟨r, sc, v, t, pw, ws, rfl, _⟩ := h
    rfl
  obtain ⟨r, sc, v, t, pw, ws, rfl, hrow, ht, ok, hd, hd5, hpw, hw8, hwo, hwh, q⟩ := h
  refine ⟨_, pss_cons (ps_if (pt_cmpR op_in_seq (pe_ix ix_tup (pv 1) pe_int (fun _ _ => rfl)) (pe_lst (pa_cons pe_str (pa_cons pe_str (pa_cons pe_str pa_nil)))) (by rfl)) (pss_one (ps_set (i := 3) scLLoose.nd rfl (.inl rfl) (pe_cal Gw (hr.mono (by omega)) rfl (pa_cons (pv 1) (pa_cons (pv 2) (pa_cons pe_int pa_nil)))))) (pss_one (ps_if (pt_cmpR op_in_seq (pe_ix ix_tup (pv 1) pe_int (fun _ _ => rfl)) (pe_lst (pa_cons pe_str (pa_cons pe_str pa_nil))) (by rfl)) (pss_cons (ps_setLc (i := 4) (own := [("_law_part", 6)]) rfl scLLoose.nd rfl rfl (by rfl) (pi_tup (pe_slice sl_tup (pv 1) (po_some pe_int) po_none)) (blkOk_by (own := [("_law_part", 6)]) (N := nLLoose) (sc := defScope sLLoose) (by decide +kernel)) (fun _ _ _ _ _ => pg_name (i := 6) scLLoose.nd rfl (.inl rfl)) (fun _ _ _ _ _ => pts_nil) (fun _ _ _ _ _ => pe_ifExp (pt_val (pe_callB call_isY (by rfl) T.isinstance boot_isinstance (pa_cons (pv 6) (pa_cons (pe_bltn (v := .ty "tuple") (by rfl) T.tuple boot_tuple rfl) pa_nil)))) (pe_cal G hr rfl (pa_cons (pv 0) (pa_cons (pv 6) (pa_cons (pv 2) pa_nil)))) (pe_callTy call_str_int (by rfl) T.str boot_str (pa_cons (pv 6) pa_nil)))) (pss_one (ps_set (i := 3) scLLoose.nd rfl (.inl rfl) (pe_op op_add_str (pe_op op_add_str (pe_op op_add_str (pe_ix ix_tup (pv 1) pe_int (fun _ _ => rfl)) (pe_cal Gp (hr.mono (by omega)) rfl (pa_cons (pv 0) (pa_cons (pe_lst (pa_cons pe_str (pa_cons pe_str pa_nil))) pa_nil)))) (pe_join (pe_cal Gp (hr.mono (by omega)) rfl (pa_cons (pv 0) (pa_cons (pe_lst (pa_cons pe_str (pa_cons pe_str pa_nil))) pa_nil))) (pv 4))) pe_str)))) (pss_cons (ps_set (i := 5) scLLoose.nd rfl (.inl rfl) (pe_dget (hu_of hr) (pe_disp (pps_cons pe_str pe_str (pps_cons pe_str pe_str (pps_cons pe_str pe_str (pps_cons pe_str pe_str pps_nil)))) (by rfl) (by rfl) (fun z => by cases z) (by decide)) (pe_ix ix_tup (pv 1) pe_int (fun _ _ => rfl)) (fun _ _ => rfl))) (pss_one (ps_set (i := 3) scLLoose.nd rfl (.inl rfl) (pe_op op_add_str (pe_op op_add_str (pe_op op_add_str (pe_op op_add_str pe_str (pe_cal G hr rfl (pa_cons (pv 0) (pa_cons (pe_ix ix_tup (pv 1) pe_int (fun _ _ => rfl)) (pa_cons (pv 2) pa_nil))))) (pe_cal Gp (hr.mono (by omega)) rfl (pa_cons (pv 0) (pa_cons (pe_lst (pa_cons (pv 5) (pa_cons (pe_op op_add_str (pe_op op_add_str pe_str (pv 5)) pe_str) pa_nil))) pa_nil)))) (pe_cal G hr rfl (pa_cons (pv 0) (pa_cons (pe_ix ix_tup (pv 1) pe_int (fun _ _ => rfl)) (pa_cons (pv 2) pa_nil))))) pe_str))))))) (pss_one (ps_ret (pe_ifExp (pt_cmpR op_eq (pe_cal Gt (hr.mono (by omega)) rfl (pa_cons (pv 0) (pa_cons pe_int pa_nil))) pe_int (nomark _)) (pe_op op_add_str (pe_op op_add_str pe_str (pv 3)) pe_str) (pv 3)))), ?_⟩
  have tail : ∀ (z : Str), z.length + 12 ≤ 8 * 3 ^ t.deep → z.length ≤ 100000 ∧ (("(" : Str) ++ z).length ≤ 100000 ∧ ("(" : Str).length = 1 ∧ (")" : Str).length = 1 ∧ (("(" : Str) ++ z ++ (")" : Str)).length + 10 ≤ 8 * 3 ^ t.deep := fun z hz => by
    have e1 : ("(" : Str).length = 1 := by decide
    have e2 : (")" : Str).length = 1 := by decide
    have p5 : 3 ^ t.deep ≤ 3 ^ 5 := Nat.pow_le_pow_right (by decide) (by omega)
    refine ⟨by omega, by rw [len_app]; omega, e1, e2, by rw [len_app, len_app]; omega⟩
  rcases tm_kind ht ok hd with ⟨p, xs, word, rfl, hp, hword, d1⟩ | ⟨p, xs, word, M, rfl, hp, hword, hl, M1, M2, M3, hpart⟩ | ⟨p, ya, yb, op, a, b, rfl, rfl, hp, ha, hb, oa, ob, da, db⟩
  · refine ⟨_, rfl, p, _, _, _, rfl, rfl, SqT.of hp, atI_nat (j := 0) rfl, (by show 3 ≤ sizeLine; decide), fun p1 hp1 => ⟨p1, _, rfl, .inl (SqL.of upd_same), rfl, by rcases hword with rfl | rfl | rfl <;> decide +kernel, _, rfl, ?_⟩⟩
    rw [show inV (V.str word) [V.str "in", V.str "of", V.str "is"] = true by rcases hword with rfl | rfl | rfl <;> decide +kernel]
    refine iteT ?_
    have x1 : Ext [] [] H (upd H p1 (.lst [V.str "in", V.str "of", V.str "is"])) := .new hp1
    refine ⟨_, rfl, _, rfl, _, t, pw, ws, 3, rfl, ht.ext x1, ok, by omega, by decide, x1.tups _ _ hpw, hw8, fun H3 s3 => ?_⟩
    have X1 : Ext [] [] H H3 := x1.trans (.same s3)
    have row1 := hrow.ext X1
    have X1 := X1.wide (M := [r])
    have hz := W_len3 hw8 t 3 ok
    have oz := W_okN hwo t 3 ok
    have hz' := W_hd hwh t 3 ok
    generalize W ws t 3 = z at hz oz hz' ⊢
    obtain ⟨z1, z2, e1, e2, z3⟩ := tail z hz
    refine ⟨_, rfl, r, 4, sc, rfl, row1, by decide, by decide, fun jj HT hjj xT rowT => ?_⟩
    refine ⟨rfl, _, rfl, ?_⟩
    refine iteD (fun _ => ?_) (fun _ => ?_)
    · refine ⟨_, rfl, _, _, rfl, rfl, line100 (by omega), _, _, rfl, rfl, line100 (by omega), ?_⟩
      exact q _ _ z3 (okN_app (okN_app okdN oz) okdN) (hdT_app (hdT_app hdT_d)) (X1.trans xT) rowT
    · exact ⟨_, rfl, q _ _ (by omega) oz hz' (X1.trans xT) rowT⟩
  · have hwn : word ≠ "in" ∧ word ≠ "of" ∧ word ≠ "is" ∧ word.length = 4 ∧ okN word ∧ hdT word := by
      rcases hword with rfl | rfl
      · exact ⟨by decide +kernel, by decide +kernel, by decide +kernel, by decide, okdN, hdT_d⟩
      · exact ⟨by decide +kernel, by decide +kernel, by decide +kernel, by decide, okdN, hdT_d⟩
    obtain ⟨w1, w2, w3, w4, w5, w6⟩ := hwn
    refine ⟨_, rfl, p, _, _, _, rfl, rfl, SqT.of hp, atI_nat (j := 0) rfl, (by show 3 ≤ sizeLine; decide), fun p1 hp1 => ⟨p1, _, rfl, .inl (SqL.of upd_same), rfl, by rcases hword with rfl | rfl <;> decide +kernel, _, rfl, ?_⟩⟩
    rw [show inV (V.str word) [V.str "in", V.str "of", V.str "is"] = false by rcases hword with rfl | rfl <;> decide +kernel]
    refine iteF ?_
    have x1 : Ext [] [] H (upd H p1 (.lst [V.str "in", V.str "of", V.str "is"])) := .new hp1
    refine ⟨_, rfl, p, _, _, _, rfl, rfl, SqT.of (x1.tups _ _ hp), atI_nat (j := 0) rfl, (by show 2 ≤ sizeLine; decide), fun p2 hp2 => ⟨p2, _, rfl, .inl (SqL.of upd_same), rfl, by rcases hword with rfl | rfl <;> decide +kernel, _, rfl, ?_⟩⟩
    rw [show inV (V.str word) [V.str "rest", V.str "pick"] = true by rcases hword with rfl | rfl <;> decide +kernel]
    refine iteT ?_
    have x2 := x1.trans (Ext.new (GT := []) (M := []) (o := .lst [V.str "rest", V.str "pick"]) hp2)
    generalize upd (upd H p1 (.lst [V.str "in", V.str "of", V.str "is"])) p2 (.lst [V.str "rest", V.str "pick"]) = H2 at x2 ⊢
    refine ⟨_, rfl, _, rfl, p, _, rfl, SqT.of (x2.tups _ _ hp), by rcases hl with e | e <;> (rw [show (V.str word :: xs).length = xs.length + 1 from rfl, e]; decide), fun p3 hp3 => ⟨p3, rfl, ⟨_, SqT.of upd_same⟩, fun D0 hD => ?_⟩⟩
    have ec : cutV (V.str word :: xs) (some 1) none = xs := by
      rcases hl with e | e
      · match xs, e with
        | [_, _], _ => rfl
      · match xs, e with
        | [_, _, _], _ => rfl
    rw [ec] at hD ⊢
    have hl3 : xs.length ≤ 3 := by omega
    have x3 := x2.trans (Ext.new (GT := []) (M := []) (o := .tup xs) hp3)
    have e3 : (upd H2 p3 (.tup xs)) p3 = some (.tup xs) := upd_same
    generalize upd H2 p3 (.tup xs) = H3 at x3 e3 hD ⊢
    have row3 := hrow.ext x3
    have hrD : D0 ≠ r := row3.ne hD
    have row3D : RowAt K (upd H3 D0 (.lst [])) r sc := row3.ext (GT := []) (.new hD)
    refine lc_tup (xs := xs) (fun i H' => Acc [] [r] H3 D0 (fun i ds => ∃ zs : List Str, ds = zs.map D.str ∧ zs.length = i ∧ ∀ z ∈ zs, okN z ∧ z.length ≤ M - 10) i H' ∧ RowAt K H' r sc) ⟨acc0 hD ⟨[], rfl, rfl, by simp⟩, row3D⟩ (fun i H4 hi ac => SqT.of (ac.1.ext.tups _ _ e3)) (fun i x H4 hx ac => ?_) (fun H4 ac => ?_)
    · obtain ⟨ac, row4⟩ := ac
      have hi : i < 1000000 := by
        have := (List.getElem?_eq_some_iff.mp hx).1
        omega
      have X4 : Ext [] [r] H H4 := x3.wide.trans ac.ext
      rcases hpart i x hx with ⟨u, Du, ou, du, mu⟩ | ⟨k, k9, rfl⟩
      · obtain ⟨py, ys, rfl, hpy⟩ := tm_ref Du
        refine ⟨rfl, _, rfl, _, _, _, true, rfl, .tup (X4.tups _ _ hpy), kb, _, rfl, ?_⟩
        refine ⟨_, rfl, _, rfl, _, rfl, ?_⟩
        refine ⟨r, sc, _, u, pw, ws, rfl, row4, Du.ext X4, ou, du, by omega, X4.tups _ _ hpw, hw8, hwo, hwh, fun z H5 hz oz _ x5 row5 => ?_⟩
        obtain ⟨acc, ea, la, ac'⟩ := ac.step hD (by simp [hrD]) hi x5 (.str z) (fun ds ⟨ts, e1, e2, e3⟩ => ⟨ts ++ [z], by rw [e1, List.map_append]; rfl, by rw [List.length_append, e2]; rfl, fun t ht => by
          rcases List.mem_append.mp ht with z | z
          · exact e3 t z
          · rw [List.mem_singleton.mp z]
            exact ⟨oz, by omega⟩⟩)
        exact ⟨acc, ea, la, ac', RowAt.put row3 hD row5⟩
      · refine ⟨rfl, _, rfl, _, _, _, false, rfl, .int _, kb, _, rfl, ?_⟩
        refine ⟨_, rfl, _, rfl, log_small (by omega), ?_⟩
        obtain ⟨acc, ea, la, ac'⟩ := ac.step hD (by simp [hrD]) hi .refl (.str (numS k)) (fun ds ⟨ts, e1, e2, e3⟩ => ⟨ts ++ [numS k], by rw [e1, List.map_append]; rfl, by rw [List.length_append, e2]; rfl, fun t ht => by
          rcases List.mem_append.mp ht with z | z
          · exact e3 t z
          · rw [List.mem_singleton.mp z]
            have := okN_num9 k9
            exact ⟨this.1, by omega⟩⟩)
        exact ⟨acc, ea, la, ac', RowAt.put row3 hD row4⟩
    · obtain ⟨⟨⟨ds, l, ⟨zs, rfl, zl, hzs⟩, _⟩, x4⟩, row4⟩ := ac
      have l := l.str
      have X4 : Ext [] [r] H H4 := x3.wide.trans x4
      refine ⟨_, rfl, p, _, _, _, rfl, rfl, SqT.of (X4.tups _ _ hp), atI_nat (j := 0) rfl, _, rfl, (by show 2 ≤ sizeLine; decide), fun q1 hq1 => ?_⟩
      have y1 : Ext [] [] H4 (upd H4 q1 (.lst [.str "(", .str " ( "])) := .new hq1
      refine ⟨r, q1, _, sc, rfl, row4.ext (GT := []) y1, row4.ne hq1, upd_same, (by show 1 ≤ 2; decide), (by show 2 < 1000; decide), fun j5 w5 H5 hw5 x5 row5 => ?_⟩
      obtain ⟨o5, rfl, l5, k5⟩ : ∃ o5 : Str, w5 = .str o5 ∧ o5.length ≤ 3 ∧ okN o5 := by
        match j5, hw5 with
        | 0, h => cases h; exact ⟨_, rfl, by decide, okdN⟩
        | 1, h => cases h; exact ⟨_, rfl, by decide, okdN⟩
        | _ + 2, h => simp at h
      have hM : M ≤ 8 * 3 ^ 4 := Nat.le_trans M2 (Nat.mul_le_mul_left _ (Nat.pow_le_pow_right (by decide) (by omega)))
      have X5 := (X4.trans y1.wide).trans x5
      have l5' := (y1.wide.trans x5).lstM l (by simp [hrD])
      refine ⟨_, _, rfl, rfl, line100 (by omega), ?_⟩
      refine ⟨_, rfl, (by show 2 ≤ sizeLine; decide), fun q2 hq2 => ?_⟩
      have y2 : Ext [] [] H5 (upd H5 q2 (.lst [.str ",", .str " , "])) := .new hq2
      refine ⟨r, q2, _, sc, rfl, row5.ext (GT := []) y2, row5.ne hq2, upd_same, (by show 1 ≤ 2; decide), (by show 2 < 1000; decide), fun j6 w6 H6 hw6 x6 row6 => ?_⟩
      obtain ⟨o6, rfl, l6, k6⟩ : ∃ o6 : Str, w6 = .str o6 ∧ o6.length ≤ 3 ∧ okN o6 := by
        match j6, hw6 with
        | 0, h => cases h; exact ⟨_, rfl, by decide, okdN⟩
        | 1, h => cases h; exact ⟨_, rfl, by decide, okdN⟩
        | _ + 2, h => simp at h
      have X6 := (X5.trans y2.wide).trans x6
      have l6' := (y2.wide.trans x6).lstM l5' (by simp [hrD])
      have ts := sum_le (n := M - 10) fun z hz => (hzs z hz).2
      have jl := join_len2 o6 zs
      have bnd : (zs.map (·.length)).sum + zs.length * o6.length ≤ 3 * M - 21 := by
        rcases hl with e | e
        · rw [zl, e] at ts ⊢
          omega
        · rw [zl, e] at ts ⊢
          omega
      refine ⟨⟨_, rfl⟩, _, rfl, _, D0, zs, rfl, rfl, .inl (SqL.of l6'), by omega, ?_⟩
      have cp : (")" : Str).length = 1 := by decide
      have hz : (word ++ o5 ++ Txt.join o6 zs ++ (")" : Str)).length + 12 ≤ 8 * 3 ^ t.deep := by
        rw [len_app, len_app, len_app]
        omega
      have oz : okN (word ++ o5 ++ Txt.join o6 zs ++ (")" : Str)) := okN_app (okN_app (okN_app w5 k5) (okN_join k6 fun z hz => (hzs z hz).1)) okdN
      have hz1 : (word ++ o5).length + (Txt.join o6 zs).length ≤ 100000 := by rw [len_app]; omega
      have hz2 : (word ++ o5 ++ Txt.join o6 zs).length + (")" : Str).length ≤ 100000 := by rw [len_app, len_app]; omega
      refine ⟨_, _, rfl, rfl, line100 (by omega), _, _, rfl, rfl, line100 (by omega), ?_⟩
      have hz' : hdT (word ++ o5 ++ Txt.join o6 zs ++ (")" : Str)) := hdT_app (hdT_app (hdT_app w6))
      generalize word ++ o5 ++ Txt.join o6 zs ++ (")" : Str) = z at hz oz hz' ⊢
      obtain ⟨z1, z2, e1, e2, z3⟩ := tail z hz
      refine ⟨_, rfl, r, 4, sc, rfl, row6, by decide, by decide, fun jj HT hjj xT rowT => ?_⟩
      refine ⟨rfl, _, rfl, ?_⟩
      refine iteD (fun _ => ?_) (fun _ => ?_)
      · refine ⟨_, rfl, _, _, rfl, rfl, line100 (by omega), _, _, rfl, rfl, line100 (by omega), ?_⟩
        exact q _ _ z3 (okN_app (okN_app okdN oz) okdN) (hdT_app (hdT_app hdT_d)) (X6.trans xT) rowT
      · exact ⟨_, rfl, q _ _ (by omega) oz hz' (X6.trans xT) rowT⟩
  · have wne : op.word ≠ "in" ∧ op.word ≠ "of" ∧ op.word ≠ "is" ∧ op.word ≠ "rest" ∧ op.word ≠ "pick" := by cases op <;> decide +kernel
    obtain ⟨w1, w2, w3, w4, w5⟩ := wne
    refine ⟨_, rfl, p, _, _, _, rfl, rfl, SqT.of hp, atI_nat (j := 0) rfl, (by show 3 ≤ sizeLine; decide), fun p1 hp1 => ⟨p1, _, rfl, .inl (SqL.of upd_same), rfl, by cases op <;> decide +kernel, _, rfl, ?_⟩⟩
    rw [show inV (V.str op.word) [V.str "in", V.str "of", V.str "is"] = false by cases op <;> decide +kernel]
    refine iteF ?_
    have x1 : Ext [] [] H (upd H p1 (.lst [V.str "in", V.str "of", V.str "is"])) := .new hp1
    refine ⟨_, rfl, p, _, _, _, rfl, rfl, SqT.of (x1.tups _ _ hp), atI_nat (j := 0) rfl, (by show 2 ≤ sizeLine; decide), fun p2 hp2 => ⟨p2, _, rfl, .inl (SqL.of upd_same), rfl, by cases op <;> decide +kernel, _, rfl, ?_⟩⟩
    rw [show inV (V.str op.word) [V.str "rest", V.str "pick"] = false by cases op <;> decide +kernel]
    refine iteF ?_
    have x2 := x1.trans (Ext.new (GT := []) (M := []) (o := .lst [V.str "rest", V.str "pick"]) hp2)
    generalize upd (upd H p1 (.lst [V.str "in", V.str "of", V.str "is"])) p2 (.lst [V.str "rest", V.str "pick"]) = H2 at x2 ⊢
    refine fun pd hpd => ?_
    have ed : (upd H2 pd (.dK [])) pd = some (.dK []) := upd_same
    refine ⟨ed, [(Sum.inr "same", .str "=="), (Sum.inr "less", .str "<"), (Sum.inr "plus", .str "+"), (Sum.inr "times", .str "*")], rfl, (by show 4 ≤ 15; decide), ?_⟩
    rw [upd_upd]
    obtain ⟨lv, elv, hv⟩ : ∃ lv : List (Key × V), lv = mergeK [] [(Sum.inr "same", .str "=="), (Sum.inr "less", .str "<"), (Sum.inr "plus", .str "+"), (Sum.inr "times", .str "*")] ∧ valV lv (Sum.inr op.word) = some (.str op.sign) := ⟨_, rfl, by cases op <;> rfl⟩
    rw [← elv]
    have x3 : Ext [] [] H (upd H2 pd (.dK lv)) := x2.trans (.new hpd)
    have edl : (upd H2 pd (.dK lv)) pd = some (.dK lv) := upd_same
    generalize upd H2 pd (.dK lv) = H3 at x3 edl ⊢
    refine ⟨_, rfl, p, _, _, _, rfl, rfl, SqT.of (x3.tups _ _ hp), atI_nat (j := 0) rfl, pd, .str op.sign, rfl, dget_lit edl hv, ?_⟩
    have row3 := hrow.ext x3
    have X3 := x3.wide (M := [r])
    refine ⟨_, rfl, _, rfl, p, _, _, _, rfl, rfl, SqT.of (X3.tups _ _ hp), atI_nat (j := 1) rfl, _, rfl, ?_⟩
    refine ⟨r, sc, _, a, pw, ws, rfl, row3, ha.ext X3, oa, da, by omega, X3.tups _ _ hpw, hw8, hwo, hwh, fun za H4 hza oza _ x4 row4 => ?_⟩
    have X4 := X3.trans x4
    have d5 : (Tm.bin op a b).deep = max a.deep b.deep + 1 := rfl
    have p0 : 3 ^ (Tm.bin op a b).deep = 3 ^ max a.deep b.deep * 3 := by rw [d5, Nat.pow_succ]
    have pa : 3 ^ a.deep ≤ 3 ^ max a.deep b.deep := Nat.pow_le_pow_right (by decide) (by omega)
    have pb : 3 ^ b.deep ≤ 3 ^ max a.deep b.deep := Nat.pow_le_pow_right (by decide) (by omega)
    have p5 : 3 ^ max a.deep b.deep ≤ 3 ^ 4 := Nat.pow_le_pow_right (by decide) (by omega)
    have os : okN op.sign ∧ op.sign.length ≤ 2 ∧ okN ((" " : Str) ++ op.sign ++ ("  " : Str)) ∧ ((" " : Str) ++ op.sign ++ ("  " : Str)).length ≤ 5 ∧ ((" " : Str) ++ op.sign).length ≤ 3 := by
      cases op <;> exact ⟨okdN, by decide, okdN, by decide, by decide⟩
    obtain ⟨os1, os2, os3, os4, os5⟩ := os
    have c1 : ("(" : Str).length = 1 := by decide
    have c2 : (")" : Str).length = 1 := by decide
    have c3 : (" " : Str).length = 1 := by decide
    have c4 : ("  " : Str).length = 2 := by decide
    refine ⟨_, _, rfl, rfl, line100 (by omega), ?_⟩
    refine ⟨_, rfl, _, rfl, _, rfl, _, _, rfl, rfl, line100 (by omega), _, _, rfl, rfl, line100 (by omega), (by show 2 ≤ sizeLine; decide), fun q1 hq1 => ?_⟩
    have y1 : Ext [] [] H4 (upd H4 q1 (.lst [.str op.sign, .str ((" " : Str) ++ op.sign ++ ("  " : Str))])) := .new hq1
    refine ⟨r, q1, _, sc, rfl, row4.ext (GT := []) y1, row4.ne hq1, upd_same, (by show 1 ≤ 2; decide), (by show 2 < 1000; decide), fun j5 w5 H5 hw5 x5 row5 => ?_⟩
    obtain ⟨o5, rfl, l5, k5⟩ : ∃ o5 : Str, w5 = .str o5 ∧ o5.length ≤ 5 ∧ okN o5 := by
      match j5, hw5 with
      | 0, h => cases h; exact ⟨_, rfl, by omega, os1⟩
      | 1, h => cases h; exact ⟨_, rfl, os4, os3⟩
      | _ + 2, h => simp at h
    have X5 := (X4.trans y1.wide).trans x5
    have n1 : (("(" : Str) ++ za).length + o5.length ≤ 100000 := by rw [len_app]; omega
    have n2 : (("(" : Str) ++ za ++ o5).length ≤ 50000 := by rw [len_app, len_app]; omega
    refine ⟨_, _, rfl, rfl, line100 (by omega), ?_⟩
    refine ⟨_, rfl, _, rfl, p, _, _, _, rfl, rfl, SqT.of (X5.tups _ _ hp), atI_nat (j := 2) rfl, _, rfl, ?_⟩
    refine ⟨r, sc, _, b, pw, ws, rfl, row5, hb.ext X5, ob, db, by omega, X5.tups _ _ hpw, hw8, hwo, hwh, fun zb H6 hzb ozb _ x6 row6 => ?_⟩
    have X6 := X5.trans x6
    have n3 : (("(" : Str) ++ za ++ o5 ++ zb).length ≤ 90000 := by rw [len_app]; omega
    have hz : (("(" : Str) ++ za ++ o5 ++ zb ++ (")" : Str)).length + 12 ≤ 8 * 3 ^ (Tm.bin op a b).deep := by
      rw [len_app, len_app, len_app, len_app, p0]
      omega
    have oz : okN (("(" : Str) ++ za ++ o5 ++ zb ++ (")" : Str)) := okN_app (okN_app (okN_app (okN_app okdN oza) k5) ozb) okdN
    refine ⟨_, _, rfl, rfl, line100 (by omega), _, _, rfl, rfl, line100 (by omega), ?_⟩
    have hz' : hdT (("(" : Str) ++ za ++ o5 ++ zb ++ (")" : Str)) := hdT_app (hdT_app (hdT_app (hdT_app hdT_d)))
    generalize ("(" : Str) ++ za ++ o5 ++ zb ++ (")" : Str) = z at hz oz hz' ⊢
    obtain ⟨z1, z2, e1, e2, z3⟩ := tail z hz
    refine ⟨_, rfl, r, 4, sc, rfl, row6, by decide, by decide, fun jj HT hjj xT rowT => ?_⟩
    refine ⟨rfl, _, rfl, ?_⟩
    refine iteD (fun _ => ?_) (fun _ => ?_)
    · refine ⟨_, rfl, _, _, rfl, rfl, line100 (by omega), _, _, rfl, rfl, line100 (by omega), ?_⟩
      exact q _ _ z3 (okN_app (okN_app okdN oz) okdN) (hdT_app (hdT_app hdT_d)) (X6.trans xT) rowT
    · exact ⟨_, rfl, q _ _ (by omega) oz hz' (X6.trans xT) rowT⟩
theorem ok_lloose (F : FunC K "_law_loose" "_law_loose" sLLoose f fd c) (T : Bl mg) (m : mg "_law_loose" = some (.ref f)) (b : Binds K fd pLLoose []) (Gt : Cal P w K mg base 1 "_law_taken" pLTaken (spTaken K)) (Gp : Cal P w K mg base 2 "_law_pick" pLPick (spPick K)) (Gw : Cal P w K mg base 2 "_law_text" pLText (spW 1)) : ∀ d : Nat, Cal P w K mg base (d + 3) "_law_loose" pLLoose (spLoose K d)
  | 0 => .mk F m b (fn_none fun vs H Q E h => by
    obtain ⟨r, sc, v, t, pw, ws, _, _, _, _, h0, _⟩ := h
    have := Tm.deep_pos t
    omega)
  | d + 1 => .mk F m b (loose_step F T Gt Gp Gw (ok_lloose F T m b Gt Gp Gw d))
end
end ML
set_option maxHeartbeats 4000000
namespace ML
open PySem PySem.Spec PyProof.Rows L2 TL Gn
/-- data not too deep, not too wide -/
inductive DOk : Nat → D → Prop
  | int (n : Nat) (i : Int) : DOk (n + 1) (.int i)
  | str (n : Nat) (s : Str) : DOk (n + 1) (.str s)
  | tup {n : Nat} {ds : List D} (h : ds.length ≤ 1000) (hs : ∀ d ∈ ds, DOk n d) : DOk (n + 1) (.tup ds)
def spAlike (d : Nat) : Sp := fun vs H Q _ => ∃ (u v : V) (D : D), vs = [u, v] ∧ DOk d D ∧ DAt H u D ∧ DAt H v D ∧ ∀ H', Ext [] [] H H' → Q (.bl true) H'
section
variable {P : Program} {w : World} {K : PySem.W.Frag} {mg : Str → Option Value} {base : Heap} {f c C fnw : Addr} {fd fdnw : FuncData} {GT : List Addr} {tp : Addr}
theorem alike_step {d : Nat} (F : FunC K "_law_alike" "_law_alike" sLAlike f fd c) (T : Bl mg) (G : Cal P w K mg base (d + 1) "_law_alike" pLAlike (spAlike d)) : FnOk P w K mg base CX0 (d + 2) f fd pLAlike (spAlike (d + 1)) := by
  refine F.ok scLAlike (fun vs H Q E h => ?_) (fun A outer s H vs Q E hr h => ?_)
  · obtain ⟨u, v, D, rfl, _⟩ := h
    rfl
  obtain ⟨u, v, D, rfl, hD, hu, hv, q⟩ := h
  refine ⟨_, pss_cons (ps_if (pt_val (pe_callB call_isY2 (by rfl) T.isinstance boot_isinstance (pa_cons (pv 1) (pa_cons (pe_tup (pa_cons (pe_bltn (v := .ty "tuple") (by rfl) T.tuple boot_tuple rfl) (pa_cons (pe_bltn (v := .ty "list") (by rfl) T.list boot_list rfl) pa_nil))) pa_nil)))) (pss_cons (ps_if (PW.pt (pw_or (pt_not (pt_val (pe_callB call_isY2 (by rfl) T.isinstance boot_isinstance (pa_cons (pv 0) (pa_cons (pe_tup (pa_cons (pe_bltn (v := .ty "tuple") (by rfl) T.tuple boot_tuple rfl) (pa_cons (pe_bltn (v := .ty "list") (by rfl) T.list boot_list rfl) pa_nil))) pa_nil))))) (pw_or1 (pt_cmpR op_ne (pe_callB call_isY (by rfl) T.isinstance boot_isinstance (pa_cons (pv 0) (pa_cons (pe_bltn (v := .ty "list") (by rfl) T.list boot_list rfl) pa_nil))) (pe_callB call_isY (by rfl) T.isinstance boot_isinstance (pa_cons (pv 1) (pa_cons (pe_bltn (v := .ty "list") (by rfl) T.list boot_list rfl) pa_nil))) (nomark _))))) (pss_one (ps_ret pe_bl)) pss_nil) (pss_cons (ps_if (pt_cmpR op_ne (pe_callB call_len_seq (by rfl) T.len PySem.boot_len (pa_cons (pv 0) pa_nil)) (pe_callB call_len_seq (by rfl) T.len PySem.boot_len (pa_cons (pv 1) pa_nil)) (nomark _)) (pss_one (ps_ret pe_bl)) pss_nil) (pss_one (ps_ret (pe_cmpR (op_eqL hr.units) (pe_lc (own := [("_law_k", 2)]) rfl scLAlike.nd (pi_range1 (by rfl) T.range (pa_cons (pe_callB call_len_seq (by rfl) T.len PySem.boot_len (pa_cons (pv 1) pa_nil)) pa_nil)) (blkOk_by (own := [("_law_k", 2)]) (N := nLAlike) (sc := defScope sLAlike) (by decide +kernel)) (fun _ _ _ _ _ => pg_name (i := 2) scLAlike.nd rfl (.inl rfl)) (fun _ _ _ _ _ => pts_one (pt_not (pt_val (pe_cal G hr rfl (pa_cons (pe_ix (ix_tupK (K := K)) (pv 0) (pv 2) (fun _ _ => rfl)) (pa_cons (pe_ix (ix_tupK (K := K)) (pv 1) (pv 2) (fun _ _ => rfl)) pa_nil)))))) (fun _ _ _ _ _ => (pv 2))) (pe_lst pa_nil) (nomark _)))))) pss_nil) (pss_cons (ps_if (PW.pt (pw_or (pt_cmpR op_isN (pv 1) pe_non (nomark _)) (pw_or1 (pt_val (pe_callB call_isY (by rfl) T.isinstance boot_isinstance (pa_cons (pv 1) (pa_cons (pe_bltn (v := .ty "str") (by rfl) T.str boot_str rfl) pa_nil))))))) (pss_one (ps_ret (pe_and (pe_cmpR op_eq (pv 0) (pv 1) (nomark _)) (pe_one (pe_cmpR op_eq (pe_callB call_isY (by rfl) T.isinstance boot_isinstance (pa_cons (pv 0) (pa_cons (pe_bltn (v := .ty "str") (by rfl) T.str boot_str rfl) pa_nil))) (pe_callB call_isY (by rfl) T.isinstance boot_isinstance (pa_cons (pv 1) (pa_cons (pe_bltn (v := .ty "str") (by rfl) T.str boot_str rfl) pa_nil))) (nomark _)))))) pss_nil) (pss_one (ps_ret (pe_and (pe_callB call_isY (by rfl) T.isinstance boot_isinstance (pa_cons (pv 0) (pa_cons (pe_bltn (v := .ty "int") (by rfl) T.int boot_int rfl) pa_nil))) (pe_and (pe_cmpR op_eq (pe_callB call_isY (by rfl) T.isinstance boot_isinstance (pa_cons (pv 0) (pa_cons (pe_bltn (v := .ty "bool") (by rfl) T.bool boot_bool rfl) pa_nil))) (pe_callB call_isY (by rfl) T.isinstance boot_isinstance (pa_cons (pv 1) (pa_cons (pe_bltn (v := .ty "bool") (by rfl) T.bool boot_bool rfl) pa_nil))) (nomark _)) (pe_one (pe_cmpR op_eq (pv 0) (pv 1) (nomark _)))))))), ?_⟩
  cases hD with
  | int n i =>
    have hu := hu.intI
    have hv := hv.intI
    subst hu hv
    refine ⟨_, rfl, (by show 2 ≤ sizeLine; decide), fun tp htp => ⟨_, tp, "tuple", "list", "int", false, false, rfl, upd_same, .int _, kb, kb, ?_⟩⟩
    refine ⟨_, rfl, iteF ?_⟩
    show tSeq _ _ _ _ _
    refine ⟨_, rfl, rfl, _, rfl, ?_⟩
    refine iteDF (fun z => by cases z) ?_
    refine ⟨_, rfl, _, "str", "int", false, rfl, .int _, kb, _, rfl, iteF ?_⟩
    refine ⟨_, rfl, _, "int", "int", true, rfl, .int _, kb, ?_⟩
    refine ⟨_, rfl, iteT ?_⟩
    refine ⟨_, rfl, _, "bool", "int", false, rfl, .int _, kb, ?_⟩
    refine ⟨_, rfl, _, "bool", "int", false, rfl, .int _, kb, rfl, ?_⟩
    refine ⟨_, rfl, iteDT rfl ?_⟩
    refine ⟨_, rfl, _, rfl, rfl, ?_⟩
    have fin := q _ (.new (o := .tup [.ty "tuple", .ty "list"]) htp)
    rw [show (Q (.bl true) : Hp → Prop) = Q (.bl (decide (V.int i = V.int i))) by rw [decide_eq_true rfl]] at fin
    exact fin
  | str n z =>
    have hu := hu.strI
    have hv := hv.strI
    subst hu hv
    refine ⟨_, rfl, (by show 2 ≤ sizeLine; decide), fun tp htp => ⟨_, tp, "tuple", "list", "str", false, false, rfl, upd_same, .str _, kb, kb, ?_⟩⟩
    refine ⟨_, rfl, iteF ?_⟩
    show tSeq _ _ _ _ _
    refine ⟨_, rfl, rfl, _, rfl, ?_⟩
    refine iteDF (fun z => by cases z) ?_
    refine ⟨_, rfl, _, "str", "str", true, rfl, .str _, kb, _, rfl, iteT ?_⟩
    refine ⟨_, rfl, _, rfl, rfl, ?_⟩
    refine ⟨_, rfl, iteDT rfl ?_⟩
    refine ⟨_, rfl, _, "str", "str", true, rfl, .str _, kb, ?_⟩
    refine ⟨_, rfl, _, "str", "str", true, rfl, .str _, kb, rfl, ?_⟩
    have fin := q _ (.new (o := .tup [.ty "tuple", .ty "list"]) htp)
    rw [show (Q (.bl true) : Hp → Prop) = Q (.bl (decide (V.bl true = V.bl true))) by rw [decide_eq_true rfl]] at fin
    exact fin
  | tup hl hs =>
    obtain ⟨pu, xu, rfl, hpu, au⟩ := hu.all
    obtain ⟨pv, xv, rfl, hpv, av⟩ := hv.all
    refine ⟨_, rfl, (by show 2 ≤ sizeLine; decide), fun tp htp => ⟨_, tp, "tuple", "list", "tuple", true, false, rfl, upd_same, .tup ((Ext.new (GT := []) (M := []) htp).tups _ _ hpv), kb, kb, ?_⟩⟩
    refine ⟨_, rfl, iteT ?_⟩
    have x1 : Ext [] [] H (upd H tp (.tup [.ty "tuple", .ty "list"])) := .new htp
    refine ⟨_, rfl, (by show 2 ≤ sizeLine; decide), fun t2 ht2 => ⟨_, t2, "tuple", "list", "tuple", true, false, rfl, upd_same, .tup ((x1.trans (.new ht2)).tups _ _ hpu), kb, kb, ?_⟩⟩
    have x2 := x1.trans (Ext.new (GT := []) (M := []) (o := .tup [.ty "tuple", .ty "list"]) ht2)
    generalize upd (upd H tp (.tup [.ty "tuple", .ty "list"])) t2 (.tup [.ty "tuple", .ty "list"]) = H2 at x2 ⊢
    refine ⟨_, rfl, ?_⟩
    refine iteF ?_
    have tu := (Ty.tup (x2.tups _ _ hpu))
    have tv := (Ty.tup (x2.tups _ _ hpv))
    refine ⟨_, rfl, _, "list", "tuple", false, rfl, tu, kb, ?_⟩
    refine ⟨_, rfl, _, "list", "tuple", false, rfl, tv, kb, ?_⟩
    refine ⟨rfl, _, rfl, iteNDT rfl ?_⟩
    have nl : xu.length = xv.length := by rw [au.1, av.1]
    refine ⟨_, rfl, pu, _, rfl, .inr (SqT.of (x2.tups _ _ hpu)), _, rfl, pv, _, rfl, .inr (SqT.of (x2.tups _ _ hpv)), rfl, _, rfl, iteNDT (by rw [nl]) ?_⟩
    have few : xv.length ≤ 1000 := by rw [av.1]; exact hl
    refine ⟨_, rfl, pv, _, rfl, .inr (SqT.of (x2.tups _ _ hpv)), xv.length, rfl, by omega, by omega, fun D0 hD => ?_⟩
    refine lc_range (n := xv.length) (Acc [] [] H2 D0 (fun i ds => ds = [])) (acc0 hD rfl) (fun i H3 hi ac => ?_) (fun H3 ac => ?_)
    · have X3 := x2.trans ac.ext
      obtain ⟨x, hx⟩ : ∃ x, xu[i]? = some x := ⟨_, List.getElem?_eq_getElem (by omega)⟩
      obtain ⟨y, hy⟩ : ∃ y, xv[i]? = some y := ⟨_, List.getElem?_eq_getElem (by omega)⟩
      obtain ⟨dd, hdd, Dx⟩ := au.get hx
      have Dy := av.2 i y dd hy hdd
      refine ⟨rfl, ?_⟩
      refine ⟨_, rfl, _, rfl, pu, _, _, _, rfl, rfl, SqT.of (X3.tups _ _ hpu), (by rw [Int.zero_add]; exact atI_nat hx), _, rfl, _, rfl, pv, _, _, _, rfl, rfl, SqT.of (X3.tups _ _ hpv), (by rw [Int.zero_add]; exact atI_nat hy), ?_⟩
      refine ⟨x, y, dd, rfl, hs dd (List.mem_of_getElem? hdd), Dx.ext X3, Dy.ext X3, fun H4 x4 => ?_⟩
      refine ⟨_, rfl, iteF ?_⟩
      exact ac.skip (by simp) x4 (fun ds e => e)
    · obtain ⟨⟨ds, l, g, _⟩, x3⟩ := ac
      have g : ds = [] := g
      subst g
      obtain ⟨ys, ey, ay⟩ := l
      have hys : ys = [] := List.eq_nil_of_length_eq_zero ay.1
      subst hys
      refine ⟨(by show 0 ≤ sizeLine; decide), fun pe hpe => ?_⟩
      have xe : Ext [] [] H3 (upd H3 pe (.lst [])) := .new hpe
      refine ⟨D0, pe, [], [], rfl, rfl, xe.lst ey, upd_same, (by simp), (by simp), ?_⟩
      exact q _ ((x2.trans x3).trans xe)
theorem ok_alike (F : FunC K "_law_alike" "_law_alike" sLAlike f fd c) (T : Bl mg) (m : mg "_law_alike" = some (.ref f)) (b : Binds K fd pLAlike []) : ∀ d : Nat, Cal P w K mg base (d + 1) "_law_alike" pLAlike (spAlike d)
  | 0 => .mk F m b (fn_none fun vs H Q E h => by
    obtain ⟨u, v, D, _, h0, _⟩ := h
    cases h0)
  | d + 1 => .mk F m b (alike_step F T (ok_alike F T m b d))
end
end ML
set_option maxHeartbeats 4000000
namespace ML
open PySem PySem.Spec PyProof.Rows L2 TL Gn
/-- the parts together again -/
def glueC (s : Nat) : List (List Nat) → List Nat
  | [] => []
  | [p] => p
  | p :: q :: r => p ++ s :: glueC s (q :: r)
theorem glueC_cons (s c : Nat) (h : List Nat) : ∀ t : List (List Nat), glueC s ((c :: h) :: t) = c :: glueC s (h :: t)
  | [] => rfl
  | _ :: _ => rfl
theorem splitC_glue (s : Nat) : ∀ l : List Nat, glueC s (splitC s l) = l
  | [] => rfl
  | c :: r => by
    have ih := splitC_glue s r
    unfold splitC
    by_cases hc : c = s
    · rw [if_pos hc]
      cases e : splitC s r with
      | nil => exact absurd e (splitC_ne s r)
      | cons a t =>
        rw [e] at ih
        show [] ++ s :: glueC s (a :: t) = c :: r
        rw [ih, hc]
        rfl
    · rw [if_neg hc]
      cases e : splitC s r with
      | nil => exact absurd e (splitC_ne s r)
      | cons a t =>
        rw [e] at ih
        show glueC s ((c :: a) :: t) = c :: r
        rw [glueC_cons, ih]
theorem digit_ch {z : Str} {lo hi k : Int} (h : digitF z lo hi = some k) : ∃ c, tl z = [c] ∧ 48 ≤ c ∧ c ≤ 57 ∧ k = (c : Int) - 48 ∧ lo ≤ k ∧ k ≤ hi := by
  unfold digitF at h
  split at h
  · rename_i c e
    split at h
    · rename_i hh
      obtain ⟨h1, h2, h3⟩ := hh
      have hk := Option.some.inj h
      unfold fig at h1
      rw [Bool.and_eq_true, decide_eq_true_eq, decide_eq_true_eq] at h1
      exact ⟨c, e, h1.1, h1.2, hk.symm, by omega, by omega⟩
    · cases h
  · cases h
/-- the first line of a text -/
theorem letters_in (h : List Nat) : (∃ k : Nat, 1 ≤ k ∧ k ≤ 3 ∧ lettersF h = some k ∧ h = tl ("letters " : Str) ++ [48 + k]) ∨ (lettersF h = none ∧ S h ≠ "letters 1" ∧ S h ≠ "letters 2" ∧ S h ≠ "letters 3") := by
  have key : ∀ k : Nat, 1 ≤ k → k ≤ 3 → h = tl ("letters " : Str) ++ [48 + k] → lettersF h = some k := fun k h1 h2 e => by
    subst e
    match k, h1, h2 with
    | 1, _, _ => decide +kernel
    | 2, _, _ => decide +kernel
    | 3, _, _ => decide +kernel
  by_cases e1 : S h = "letters 1"
  · have e : h = tl ("letters " : Str) ++ [48 + 1] := by rw [show h = tl (S h) from rfl, e1]; decide
    exact .inl ⟨1, by decide, by decide, key 1 (by decide) (by decide) e, e⟩
  by_cases e2 : S h = "letters 2"
  · have e : h = tl ("letters " : Str) ++ [48 + 2] := by rw [show h = tl (S h) from rfl, e2]; decide
    exact .inl ⟨2, by decide, by decide, key 2 (by decide) (by decide) e, e⟩
  by_cases e3 : S h = "letters 3"
  · have e : h = tl ("letters " : Str) ++ [48 + 3] := by rw [show h = tl (S h) from rfl, e3]; decide
    exact .inl ⟨3, by decide, by decide, key 3 (by decide) (by decide) e, e⟩
  refine .inr ⟨?_, e1, e2, e3⟩
  cases el : lettersF h with
  | none => rfl
  | some k =>
    exfalso
    unfold lettersF at el
    split at el
    · rename_i a b hs
      split at el
      · rename_i ha
        cases ed : digitF (S b) 1 3 with
        | none => rw [ed] at el; cases el
        | some d =>
          obtain ⟨c, hc, c1, c2, hd, d1, d2⟩ := digit_ch ed
          have hb : b = [c] := hc
          have hg := splitC_glue 32 h
          rw [hs, hb] at hg
          have ha2 : a = tl ("letters" : Str) := congrArg tl ha
          have hg : a ++ [32, c] = h := hg
          rw [ha2] at hg
          have c3 : c = 49 ∨ c = 50 ∨ c = 51 := by omega
          rcases c3 with rfl | rfl | rfl
          · exact e1 (by rw [← hg]; decide +kernel)
          · exact e2 (by rw [← hg]; decide +kernel)
          · exact e3 (by rw [← hg]; decide +kernel)
      · cases el
    · cases el
end ML
set_option maxHeartbeats 4000000
namespace ML
open PySem PySem.Spec PyProof.Rows L2 TL Gn
theorem splitC_pre (s : Nat) (p : List Nat) (hp : s ∉ p) (r : List Nat) : splitC s (p ++ s :: r) = p :: splitC s r := by
  induction p with
  | nil =>
    show splitC s (s :: r) = _
    rw [splitC.eq_def]
    simp only [if_pos]
  | cons c p ih =>
    have hc : ¬ c = s := fun e => hp (by rw [e]; exact List.mem_cons_self)
    have ih := ih (fun e => hp (List.mem_cons_of_mem _ e))
    show splitC s (c :: (p ++ s :: r)) = _
    rw [splitC, if_neg hc, ih]
theorem nameP_head {l : List Nat} (h : nameP l = true) : ∃ r, splitC 32 l = tl ("name" : Str) :: r := by
  have e : l.take 5 = [110, 97, 109, 101, 32] := eq_of_beq h
  have el : l = [110, 97, 109, 101] ++ 32 :: l.drop 5 := by
    conv => lhs; rw [← List.take_append_drop 5 l, e]
    rfl
  rw [el, splitC_pre 32 _ (by decide)]
  exact ⟨_, rfl⟩
end ML
set_option maxHeartbeats 4000000
namespace ML
open PySem PySem.Spec PyProof.Rows L2 TL Gn
/-- '2' or '3' -/
theorem two_three (z : Str) : (z = "2" ∧ digitF z 2 3 = some 2) ∨ (z = "3" ∧ digitF z 2 3 = some 3) ∨ (z ≠ "2" ∧ z ≠ "3" ∧ digitF z 2 3 = none) := by
  by_cases e2 : z = "2"
  · subst e2
    exact .inl ⟨rfl, by decide +kernel⟩
  by_cases e3 : z = "3"
  · subst e3
    exact .inr (.inl ⟨rfl, by decide +kernel⟩)
  refine .inr (.inr ⟨e2, e3, ?_⟩)
  cases e : digitF z 2 3 with
  | none => rfl
  | some d =>
    exfalso
    obtain ⟨c, hc, c1, c2, hd, d1, d2⟩ := digit_ch e
    have c3 : c = 50 ∨ c = 51 := by omega
    rcases c3 with rfl | rfl
    · exact e2 (ext_tl (by rw [hc]; decide +kernel))
    · exact e3 (ext_tl (by rw [hc]; decide +kernel))
/-- int(..) of one sign -/
theorem int_dig {c : Nat} (h1 : 48 ≤ c) (h2 : c ≤ 57) : PySem.intText? (S [c]) = some ((c : Int) - 48) := by
  have : c = 48 ∨ c = 49 ∨ c = 50 ∨ c = 51 ∨ c = 52 ∨ c = 53 ∨ c = 54 ∨ c = 55 ∨ c = 56 ∨ c = 57 := by omega
  rcases this with rfl | rfl | rfl | rfl | rfl | rfl | rfl | rfl | rfl | rfl <;> decide +kernel
end ML
set_option maxHeartbeats 4000000
namespace ML
open PySem PySem.Spec PyProof.Rows L2 TL Gn
/-- a text whose lines all end -/
def headF : List (List Nat) → Nat ⊕ (Mill × List Str)
  | [] => .inl 0
  | h :: r => match lettersF h with
    | none => .inl 0
    | some k => restOfF k 1 r [] []
theorem headF_none {h : List Nat} {r : List (List Nat)} (e : lettersF h = none) : headF (h :: r) = .inl 0 := by
  unfold headF
  simp only [e]
theorem headF_some {h : List Nat} {r : List (List Nat)} {k : Nat} (e : lettersF h = some k) : headF (h :: r) = restOfF k 1 r [] [] := by
  unfold headF
  simp only [e]
theorem readF_lines {l : List Nat} {ls : List (List Nat)} (h0 : l ≠ []) (els : splitC 10 l = ls ++ [[]]) : readF l = headF ls := by
  unfold readF
  rw [if_neg h0, els, List.getLast?_concat, if_neg (by simp), List.dropLast_concat]
  cases ls <;> rfl
theorem cutV_init (xs : List V) (x : V) : cutV (xs ++ [x]) none (some (-1)) = xs := by
  have hl : (xs ++ [x]).length = xs.length + 1 := by rw [List.length_append]; rfl
  have e : HT.sIx (xs ++ [x]).length (xs ++ [x]).length (some (-1)) = xs.length := by
    show (if ((-1 : Int)) < 0 then ((-1 : Int) + ((xs ++ [x]).length : Int)).toNat else min (-1 : Int).toNat (xs ++ [x]).length) = _
    rw [if_pos (by decide)]
    omega
  unfold cutV
  rw [e, HT.sIx_none, Nat.sub_zero, List.drop_zero, List.take_left' (l₁ := xs) rfl]
theorem pw_ext : ∀ {a b : List Int}, a.Pairwise (· < ·) → b.Pairwise (· < ·) → (∀ k, k ∈ a ↔ k ∈ b) → a = b
  | [], [], _, _, _ => rfl
  | [], y :: s, _, _, h => absurd ((h y).mpr List.mem_cons_self) (by simp)
  | x :: r, [], _, _, h => absurd ((h x).mp List.mem_cons_self) (by simp)
  | x :: r, y :: s, ha, hb, h => by
    have ha' := List.pairwise_cons.mp ha
    have hb' := List.pairwise_cons.mp hb
    have e : x = y := by
      rcases List.mem_cons.mp ((h x).mp List.mem_cons_self) with e | hx
      · exact e
      · rcases List.mem_cons.mp ((h y).mpr List.mem_cons_self) with e | hy
        · exact e.symm
        · have h1 := ha'.1 y hy
          have h2 := hb'.1 x hx
          omega
    subst e
    rw [pw_ext ha'.2 hb'.2 fun k => ⟨fun hk => ?_, fun hk => ?_⟩]
    · rcases List.mem_cons.mp ((h k).mp (List.mem_cons_of_mem _ hk)) with e | z
      · have := ha'.1 k hk
        omega
      · exact z
    · rcases List.mem_cons.mp ((h k).mpr (List.mem_cons_of_mem _ hk)) with e | z
      · have := hb'.1 k hk
        omega
      · exact z
theorem rising_of : ∀ {l : List Nat}, l.Pairwise (· < ·) → rising l = true
  | [], _ => rfl
  | [_], _ => rfl
  | a :: b :: r, h => by
    have h' := List.pairwise_cons.mp h
    show (decide (a < b) && rising (b :: r)) = true
    rw [rising_of h'.2, decide_eq_true (h'.1 b List.mem_cons_self)]
    rfl
theorem pw_nat {l : List Nat} : (l.map fun (i : Nat) => (i : Int)).Pairwise (· < ·) ↔ l.Pairwise (· < ·) := by
  rw [List.pairwise_map]
  refine ⟨fun h => h.imp fun z => by omega, fun h => h.imp fun z => by omega⟩
/-- a list of numbers is its own sorted set only if it rises -/
theorem rising_set {l : List Nat} {ns : List Int} (hp : ns.Pairwise (· < ·)) (hm : ∀ k : Int, k ∈ ns ↔ k ∈ l.map fun (i : Nat) => (i : Int)) : decide ((l.map fun (i : Nat) => (i : Int)) = ns) = rising l := by
  rw [Bool.eq_iff_iff, decide_eq_true_iff]
  constructor
  · intro e
    rw [← e] at hp
    exact rising_of (pw_nat.mp hp)
  · intro h
    exact pw_ext (pw_nat.mpr (rising_pw h)) hp fun k => (hm k).symm
theorem dps_ints {K : PySem.W.Frag} {H : Hp} : ∀ zs : List Int, DpAll K H (zs.map V.int) (zs.map PyData.int)
  | [] => .nil
  | z :: r => .cons (.int z) (dps_ints r)
theorem dp_ints {K : PySem.W.Frag} {H : Hp} {a : Addr} {zs : List Int} (h : H a = some (.lst (zs.map V.int))) : Dp K H (.ref a) (.list (zs.map PyData.int)) := .lst (SqL.of h) (dps_ints zs)
theorem eqv_ints : ∀ zs ys : List Int, PyData.eqvAll (zs.map PyData.int) (ys.map PyData.int) = decide (zs = ys)
  | [], [] => by simp [PyData.eqvAll]
  | [], _ :: _ => by simp [PyData.eqvAll]
  | _ :: _, [] => by simp [PyData.eqvAll]
  | z :: r, y :: s => by
    have ih := eqv_ints r s
    simp only [List.map_cons, PyData.eqvAll, PyData.eqv, ih, List.cons.injEq]
    rw [Bool.eq_iff_iff]
    simp
theorem depth_ints : ∀ zs : List Int, PyData.depthAll (zs.map PyData.int) = 0
  | [] => rfl
  | z :: r => by
    show max 0 (PyData.depthAll (r.map PyData.int)) = 0
    rw [depth_ints r]
    rfl
theorem lay_ints : ∀ zs : List Int, PyData.canLayAll0 (zs.map PyData.int) = true
  | [] => by simp [PyData.canLayAll0]
  | z :: r => by simp [PyData.canLayAll0, PyData.canLay0, lay_ints r]
theorem shaped_ints (zs : List Int) : SeqAt.shaped (.list (zs.map PyData.int)) = true := by
  unfold SeqAt.shaped
  rw [Bool.and_eq_true]
  refine ⟨?_, ?_⟩
  · simp only [PyData.canLay0, lay_ints zs]
  · rw [decide_eq_true_eq]
    show PyData.depthAll (zs.map PyData.int) + 1 ≤ 64
    rw [depth_ints]
    decide
section
variable {P : Program} {w : World} {K : PySem.W.Frag} {mg : Str → Option Value} {base : Heap} {f c C fnw : Addr} {fd fdnw : FuncData} {GT : List Addr} {tp : Addr}
/-- what the law's own reader gives -/
def spLRead : Sp := fun vs H Q _ => ∃ (v : V), vs = [v] ∧ (((v = .non ∨ ∃ i, v = .int i) ∧ ∀ H', Ext [] [] H H' → Q (.int 0) H') ∨
  ∃ z, v = .str z ∧ okS z ∧ z.length ≤ 90000 ∧ (∀ l ∈ splitC 10 (tl z), l.head? = some 116 → l.length ≤ 60) ∧ ∀ v H', Ext [] [] H H' → DAt H' v (resD (readF (tl z))) → Q v H')
theorem ok_lread (F : FunC K "_law_read" "_law_read" sLRead f fd c) (T : Bl mg) (Gw : Cal P w K mg base 1 "_law_is_word" pLIsWord (fun vs H Q _ => ∃ z, vs = [.str z] ∧ okS z ∧ z.length ≤ 1000000 ∧ ∀ H', Same H H' → Q (.bl (isWordF z)) H')) (Gn : Cal P w K mg base 1 "_law_number" pLNumber spDigit)
    (Ge : CalR P w K mg base (Rm 252) "_law_equation" pLEquation spLEq) : FnR P w K mg base (Rm 253) f fd pLRead spLRead := by
  refine F.okR scLRead (fun vs H Q E h => ?_) (fun A outer s H vs Q E hr h => ?_)
  · obtain ⟨u, rfl, _⟩ := h
    rfl
  obtain ⟨v, rfl, h⟩ := h
  refine ⟨_, pss_cons (ps_if (PW.pt (pw_or (pt_not (pt_val (pe_callB call_isY (by rfl) T.isinstance boot_isinstance (pa_cons (pv 0) (pa_cons (pe_bltn (v := .ty "str") (by rfl) T.str boot_str rfl) pa_nil))))) (pw_or1 (pt_cmpR op_eq (pv 0) pe_str (nomark _))))) (pss_one (ps_ret pe_int)) pss_nil) (pss_cons (ps_set (i := 1) scLRead.nd rfl (.inl rfl) (pe_split (pv 0) pe_str)) (pss_cons (ps_if (pt_cmpR op_ne (pe_ix ix_list (pv 1) (pe_un un_neg pe_int) (fun _ _ => rfl)) pe_str (nomark _)) (pss_one (ps_ret (pe_op op_sub (pe_callB call_len_seq (by rfl) T.len PySem.boot_len (pa_cons (pv 1) pa_nil)) pe_int))) pss_nil) (pss_cons (ps_asg (pe_tup (pa_cons (pe_slice sl_list (pv 1) po_none (po_some (pe_un un_neg pe_int))) (pa_cons (pe_lst pa_nil) (pa_cons (pe_lst pa_nil) (pa_cons pe_int pa_nil))))) (pg_tup rfl (pgs_cons (pg_name (i := 1) scLRead.nd rfl (.inl rfl)) (pgs_cons (pg_name (i := 2) scLRead.nd rfl (.inr rfl)) (pgs_cons (pg_name (i := 3) scLRead.nd rfl (.inl rfl)) (pgs_cons (pg_name (i := 4) scLRead.nd rfl (.inl rfl)) pgs_nil)))))) (pss_cons (ps_if (pt_cmpR op_notIn_seq (pe_ix ix_list (pv 1) pe_int (fun _ _ => rfl)) (pe_lst (pa_cons pe_str (pa_cons pe_str (pa_cons pe_str pa_nil)))) (by rfl)) (pss_one (ps_ret pe_int)) pss_nil) (pss_cons (ps_while PassesOwn.never (PW.pt (pw_and (pt_cmpR op_lt (pv 4) (pe_callB call_len_seq (by rfl) T.len PySem.boot_len (pa_cons (pv 1) pa_nil)) (nomark _)) (pw_and1 (pt_cmpR op_eq (pe_slice sl_str (pe_ix ix_list (pv 1) (pv 4) (fun _ _ => rfl)) po_none (po_some pe_int)) pe_str (nomark _))))) (pss_cons (ps_set (i := 5) scLRead.nd rfl (.inl rfl) (pe_split (pe_ix ix_list (pv 1) (pv 4) (fun _ _ => rfl)) pe_str)) (pss_cons (ps_if (PW.pt (pw_or (pt_cmpR op_eq (pe_callB call_len_seq (by rfl) T.len PySem.boot_len (pa_cons (pv 2) pa_nil)) pe_int (nomark _)) (pw_or (pt_cmpR op_ne (pe_callB call_len_seq (by rfl) T.len PySem.boot_len (pa_cons (pv 5) pa_nil)) pe_int (nomark _)) (pw_or (pt_cmpR op_ne (pe_ix ix_list (pv 5) pe_int (fun _ _ => rfl)) pe_str (nomark _)) (pw_or (pt_not (pt_val (pe_cal Gw (hr.room.mono (by omega)) rfl (pa_cons (pe_ix ix_list (pv 5) pe_int (fun _ _ => rfl)) pa_nil)))) (pw_or (pt_cmpR op_in_seq (pe_ix ix_list (pv 5) pe_int (fun _ _ => rfl)) (pv 2) (by rfl)) (pw_or1 (pt_cmpR op_notIn_seq (pe_ix ix_list (pv 5) pe_int (fun _ _ => rfl)) (pe_lst (pa_cons pe_str (pa_cons pe_str pa_nil))) (by rfl))))))))) (pss_one (ps_ret (pv 4))) pss_nil) (pss_cons (ps_if (pt_cmpR op_isN (pe_cal Gn (hr.room.mono (by omega)) rfl (pa_cons (pe_ix ix_list (pv 5) pe_int (fun _ _ => rfl)) (pa_cons pe_int (pa_cons (pe_op op_sub (pe_callTy call_int_str (by rfl) T.int boot_int (pa_cons (pe_ix ix_list (pv 5) pe_int (fun _ _ => rfl)) pa_nil)) pe_int) pa_nil)))) pe_non (nomark _)) (pss_one (ps_ret (pv 4))) pss_nil) (pss_one (ps_asg (pe_tup (pa_cons (pe_op op_cat (pv 2) (pe_lst (pa_cons (pe_ix ix_list (pv 5) pe_int (fun _ _ => rfl)) pa_nil))) (pa_cons (pe_op op_cat (pv 3) (pe_lst (pa_cons (pe_tup (pa_cons (pe_callTy call_int_str (by rfl) T.int boot_int (pa_cons (pe_ix ix_list (pv 5) pe_int (fun _ _ => rfl)) pa_nil)) (pa_cons (pe_callTy call_int_str (by rfl) T.int boot_int (pa_cons (pe_ix ix_list (pv 5) pe_int (fun _ _ => rfl)) pa_nil)) pa_nil))) pa_nil))) (pa_cons (pe_op op_add (pv 4) pe_int) pa_nil)))) (pg_tup rfl (pgs_cons (pg_name (i := 2) scLRead.nd rfl (.inr rfl)) (pgs_cons (pg_name (i := 3) scLRead.nd rfl (.inl rfl)) (pgs_cons (pg_name (i := 4) scLRead.nd rfl (.inl rfl)) pgs_nil)))))))))) (pss_cons (ps_set (i := 5) scLRead.nd rfl (.inl rfl) (pe_ifExp (pt_cmpR op_lt (pv 4) (pe_callB call_len_seq (by rfl) T.len PySem.boot_len (pa_cons (pv 1) pa_nil)) (nomark _)) (pe_split (pe_ix ix_list (pv 1) (pv 4) (fun _ _ => rfl)) pe_str) (pe_lst pa_nil))) (pss_cons (ps_if (PW.pt (pw_or (pt_cmpR (op_eqL hr.room.units) (pv 2) (pe_lst pa_nil) (nomark _)) (pw_or (pt_cmpR (op_neL hr.room.units) (pe_slice sl_list (pv 5) po_none (po_some pe_int)) (pe_lst (pa_cons pe_str pa_nil)) (nomark _)) (pw_or (pt_cmpR op_lt (pe_callB call_len_seq (by rfl) T.len PySem.boot_len (pa_cons (pv 5) pa_nil)) pe_int (nomark _)) (pw_or1 (pt_cmpR (op_neL hr.room.units) (pe_lc (own := [("_law_part", 10)]) rfl scLRead.nd (pi_list (pe_slice sl_list (pv 5) (po_some pe_int) po_none)) (blkOk_by (own := [("_law_part", 10)]) (N := nLRead) (sc := defScope sLRead) (by decide +kernel)) (fun _ _ _ _ _ => pg_name (i := 10) scLRead.nd rfl (.inl rfl)) (fun _ _ _ _ _ => pts_one (pt_cmpR (op_notIn_seqK (K := K)) (pv 10) (pv 2) (by rfl))) (fun _ _ _ _ _ => (pv 10))) (pe_lst pa_nil) (nomark _))))))) (pss_one (ps_ret (pv 4))) pss_nil) (pss_cons (ps_setLc (i := 6) (own := [("_law_part", 10)]) rfl scLRead.nd rfl rfl (by rfl) (pi_list (pe_slice sl_list (pv 5) (po_some pe_int) po_none)) (blkOk_by (own := [("_law_part", 10)]) (N := nLRead) (sc := defScope sLRead) (by decide +kernel)) (fun _ _ _ _ _ => pg_name (i := 10) scLRead.nd rfl (.inl rfl)) (fun _ _ _ _ _ => pts_nil) (fun _ _ _ _ _ => pe_bmK (K := K) PySem.F.plainAttrs_list PySem.F.slot_list_index PySem.F.type_list_index (mt_indexK (K := K)) (pv 2) (pa_cons (pv 10) pa_nil))) (pss_cons (ps_if (pt_cmpR (op_neD hr.room.units) (pv 6) (pe_callB (cr_sortedSet rfl) (by rfl) T.sorted boot_sorted (pa_cons (pe_callTy (cr_setL rfl) (by rfl) T.set boot_set (pa_cons (pv 6) pa_nil)) pa_nil)) (nomark _)) (pss_one (ps_ret (pv 4))) pss_nil) (pss_cons (ps_set (i := 7) scLRead.nd rfl (.inl rfl) (pe_lst pa_nil)) (pss_cons (ps_for PassesOwn.never rfl (pi_range2 (by rfl) T.range (pa_cons (pe_op op_add (pv 4) pe_int) (pa_cons (pe_callB call_len_seq (by rfl) T.len PySem.boot_len (pa_cons (pv 1) pa_nil)) pa_nil))) (pg_name (i := 8) scLRead.nd rfl (.inl rfl)) (pss_cons (ps_set (i := 9) scLRead.nd rfl (.inl rfl) (pe_calR Ge hr rfl (pa_cons (pe_ix ix_list (pv 1) (pv 8) (fun _ _ => rfl)) (pa_cons (pv 2) pa_nil)))) (pss_cons (ps_if (PW.pt (pw_or (pt_cmpR op_isN (pv 9) pe_non (nomark _)) (pw_or1 (pt_cmpR op_eq (pe_callB call_len_seq (by rfl) T.len PySem.boot_len (pa_cons (pv 7) pa_nil)) pe_int (nomark _))))) (pss_one (ps_ret (pv 8))) pss_nil) (pss_one (ps_expr (pe_bm PySem.F.plainAttrs_list PySem.F.slot_list_append PySem.F.type_list_append mt_append (pv 7) (pa_cons (pv 9) pa_nil))))))) (pss_one (ps_ret (pe_tup (pa_cons (pe_tup (pa_cons (pe_callTy call_int_str (by rfl) T.int boot_int (pa_cons (pe_ix ix_str (pe_ix ix_list (pv 1) pe_int (fun _ _ => rfl)) (pe_un un_neg pe_int) (fun _ _ => rfl)) pa_nil)) (pa_cons (pe_callTy call_tuple_of (by rfl) T.tuple boot_tuple (pa_cons (pv 3) pa_nil)) (pa_cons (pe_callTy call_tuple_of (by rfl) T.tuple boot_tuple (pa_cons (pv 6) pa_nil)) (pa_cons (pe_callTy call_tuple_of (by rfl) T.tuple boot_tuple (pa_cons (pv 7) pa_nil)) pa_nil))))) (pa_cons (pe_callTy call_tuple_of (by rfl) T.tuple boot_tuple (pa_cons (pv 2) pa_nil)) pa_nil)))))))))))))))), ?_⟩
  rcases h with ⟨hv, q⟩ | ⟨z, rfl, okz, zl, ht, q⟩
  · rcases hv with rfl | ⟨i, rfl⟩
    · refine ⟨_, rfl, _, "str", "NoneType", false, rfl, .non, kb, _, rfl, iteT ?_⟩
      exact q _ .refl
    · refine ⟨_, rfl, _, "str", "int", false, rfl, .int _, kb, _, rfl, iteT ?_⟩
      exact q _ .refl
  refine ⟨_, rfl, _, "str", "str", true, rfl, .str _, kb, _, rfl, iteF ?_⟩
  refine ⟨_, rfl, rfl, _, rfl, ?_⟩
  by_cases h0 : tl z = []
  · have hz : z = "" := ext_tl h0
    refine iteDT (by rw [hz]) ?_
    exact q (.int 0) _ .refl (by rw [h0]; exact .int 0)
  refine iteDF (fun e => h0 (by injection e with e; rw [e]; decide)) ?_
  refine ⟨_, rfl, ⟨_, rfl⟩, _, _, rfl, rfl, (by decide), line100 (by omega), fun pl hpl => ?_⟩
  rw [split_C tl_nl (by decide)]
  have x1 : Ext [] [] H (upd H pl (.lst (((splitC 10 (tl z)).map S).map V.str))) := .new hpl
  have e1 : (upd H pl (.lst (((splitC 10 (tl z)).map S).map V.str))) pl = some (.lst (((splitC 10 (tl z)).map S).map V.str)) := upd_same
  generalize upd H pl (.lst (((splitC 10 (tl z)).map S).map V.str)) = H1 at x1 e1 ⊢
  obtain ⟨l0, c0, el⟩ : ∃ l0 c0, tl z = l0 ++ [c0] := ⟨_, _, (List.dropLast_concat_getLast h0).symm⟩
  obtain ⟨ls, lz, els⟩ : ∃ ls lz, splitC 10 (tl z) = ls ++ [lz] := ⟨_, _, (List.dropLast_concat_getLast (splitC_ne _ _)).symm⟩
  refine ⟨_, rfl, _, rfl, pl, _, _, _, rfl, rfl, SqL.of e1, (by rw [els, List.map_append, List.map_append]; exact atI_last _ _), rfl, _, rfl, ?_⟩
  by_cases hlz : ¬ lz = []
  · refine iteNDF (fun e => hlz (by injection e with e; exact congrArg tl e)) ?_
    refine ⟨_, rfl, pl, _, rfl, .inl (SqL.of e1), _, _, rfl, rfl, ?_⟩
    refine q _ _ x1 ?_
    have : readF (tl z) = .inl ((splitC 10 (tl z)).length - 1) := by
      unfold readF
      rw [if_neg h0, if_pos (by rw [els, List.getLast?_concat]; exact fun e => hlz (Option.some.inj e))]
    rw [this]
    have hl1 : (((List.map V.str (List.map S (splitC 10 (tl z)))).length : Int) - 1) = (((splitC 10 (tl z)).length - 1 : Nat) : Int) := by
      rw [List.length_map, List.length_map, els, List.length_append]
      show ((ls.length + 1 : Nat) : Int) - 1 = ((ls.length + 1 - 1 : Nat) : Int)
      omega
    show DAt H1 (.int (((List.map V.str (List.map S (splitC 10 (tl z)))).length : Int) - 1)) _
    rw [hl1]
    exact .int _
  have hlz := Classical.not_not.mp hlz
  subst hlz
  refine iteNDT rfl ?_
  rw [readF_lines h0 els] at q
  have nne : ls ≠ [] := fun e => by
    rw [e, el] at els
    have := congrArg List.length els
    by_cases hc : c0 = 10
    · rw [hc, splitC_snoc] at els
      have h2 := congrArg List.length els
      have := splitC_ne 10 l0
      rw [List.length_append] at h2
      cases hh : splitC 10 l0 with
      | nil => exact this hh
      | cons a r => rw [hh] at h2; simp at h2
    · have h3 := splitC_last 10 c0 hc l0
      rw [els] at h3
      exact h3 rfl
  refine ⟨_, rfl, _, rfl, _, rfl, pl, _, rfl, SqL.of e1, fun p2 hp2 => ?_⟩
  have ec : cutV (((splitC 10 (tl z)).map S).map V.str) none (some (-1)) = (ls.map S).map V.str := by
    rw [els, List.map_append, List.map_append]
    exact cutV_init _ _
  rw [ec]
  have x2 := x1.trans (Ext.new (GT := []) (M := []) (o := .lst ((ls.map S).map V.str)) hp2)
  have e2 : (upd H1 p2 (.lst ((ls.map S).map V.str))) p2 = some (.lst ((ls.map S).map V.str)) := upd_same
  generalize upd H1 p2 (.lst ((ls.map S).map V.str)) = H2 at x2 e2 ⊢
  refine ⟨(by show 0 ≤ sizeLine; decide), fun pw hpw => ⟨(by show 0 ≤ sizeLine; decide), fun pn hpn => ?_⟩⟩
  refine ⟨(by show 4 ≤ sizeLine; decide), fun pt hpt => ?_⟩
  have y1 : Ext [] [] H2 (upd H2 pw (.lst [])) := .new hpw
  have y2 := y1.trans (Ext.new (GT := []) (M := []) (o := .lst []) hpn)
  have y3 := y2.trans (Ext.new (GT := []) (M := []) (o := .tup [.ref p2, .ref pw, .ref pn, .int 1]) hpt)
  have ew : (upd (upd (upd H2 pw (.lst [])) pn (.lst [])) pt (.tup [.ref p2, .ref pw, .ref pn, .int 1])) pw = some (.lst []) := ((Ext.new (GT := []) (M := []) (o := .lst []) hpn).trans (Ext.new (GT := []) (M := []) hpt)).lst upd_same
  have en : (upd (upd (upd H2 pw (.lst [])) pn (.lst [])) pt (.tup [.ref p2, .ref pw, .ref pn, .int 1])) pn = some (.lst []) := (Ext.new (GT := []) (M := []) hpt).lst upd_same
  refine ⟨pt, _, rfl, SqT.of upd_same, rfl, .ref p2, _, rfl, .ref pw, _, rfl, .ref pn, _, rfl, .int 1, _, rfl, rfl, ?_⟩
  have e3 := y3.lst e2
  have x3 := x2.trans y3
  generalize upd (upd (upd H2 pw (.lst [])) pn (.lst [])) pt (.tup [.ref p2, .ref pw, .ref pn, .int 1]) = H3 at ew en e3 x3 ⊢
  obtain ⟨h, r, hs⟩ : ∃ h r, ls = h :: r := by
    cases ls with
    | nil => exact absurd rfl nne
    | cons a r => exact ⟨a, r, rfl⟩
  refine ⟨_, rfl, p2, _, _, _, rfl, rfl, SqL.of e3, (by rw [hs]; exact atI_nat (j := 0) rfl), (by show 3 ≤ sizeLine; decide), fun p4 hp4 => ⟨p4, _, rfl, .inl (SqL.of upd_same), ?_⟩⟩
  refine ⟨rfl, rfl, _, rfl, ?_⟩
  have x4 := x3.trans (Ext.new (GT := []) (M := []) (o := .lst [.str "letters 1", .str "letters 2", .str "letters 3"]) hp4)
  have y4 : Ext [] [] H3 (upd H3 p4 (.lst [.str "letters 1", .str "letters 2", .str "letters 3"])) := .new hp4
  have ew := y4.lst ew
  have en := y4.lst en
  have e3 := y4.lst e3
  generalize upd H3 p4 (.lst [.str "letters 1", .str "letters 2", .str "letters 3"]) = H4 at ew en e3 x4 ⊢
  rcases letters_in h with ⟨kl, k1, k3, hkl, hh⟩ | ⟨hkl, n1, n2, n3⟩
  case inr =>
    have hq : headF ls = .inl 0 := by
      rw [hs, headF_none hkl]
    rw [hq] at q
    have hin : inV (V.str (S h)) [V.str "letters 1", V.str "letters 2", V.str "letters 3"] = false := by
      show inV (V.str (S h)) (([("letters 1" : Str), "letters 2", "letters 3"] : List Str).map V.str) = false
      rw [inV_str]
      exact decide_eq_false (by simp [n1, n2, n3])
    rw [hin]
    refine iteT ?_
    exact q _ _ x4 (.int 0)
  have hin : inV (V.str (S h)) [V.str "letters 1", V.str "letters 2", V.str "letters 3"] = true := by
    rw [hh]
    match kl, k1, k3 with
    | 1, _, _ => decide +kernel
    | 2, _, _ => decide +kernel
    | 3, _, _ => decide +kernel
  rw [hin]
  refine iteF ?_
  have hq : headF ls = restOfF kl 1 r [] [] := by
    rw [hs, headF_some hkl]
  have hq0 := hq
  subst hs
  have lL : LnL H4 p2 (h :: r) := ⟨e3, fun l hl => by
    have := splitC_ok (s := 10) okz l (by rw [els]; exact List.mem_append_left _ hl)
    exact ⟨this.1, by have h2 := this.2; rw [len_tl] at h2; have h3 : l.length ≤ _ := h2; omega⟩, by
    have h1 := splitC_len 10 (tl z)
    rw [els, List.length_append] at h1
    have : (tl z).length = z.length := (len_tl z).symm
    have h2 : (h :: r).length + 1 ≤ (tl z).length + 1 := h1
    omega⟩
  have ht2 : ∀ l ∈ h :: r, l.head? = some 116 → l.length ≤ 60 := fun l hl => ht l (by rw [els]; exact List.mem_append_left _ hl)
  have fewl := lL.few
  refine ⟨fun m σ' H' => ∃ (k : Nat) (pw pn : Addr) (o5 : Option V) (ws : List Str) (ns : List (Nat × Nat)), σ' = [some (.str z), some (.ref p2), some (.ref pw), some (.ref pn), some (.int (k : Nat)), o5, none, none, none, none, none] ∧ m = (h :: r).length - k ∧ 1 ≤ k ∧ k ≤ (h :: r).length ∧ Ext [] [] H4 H' ∧ H' pw = some (.lst (ws.map V.str)) ∧
    LAt H' pn (ns.map fun n => D.tup [.int n.1, .int n.2]) ∧ ws.length = ns.length ∧ ws.length ≤ 3 ∧ (∀ z ∈ ws, isWordF z = true) ∧ restOfF kl 1 r [] [] = restOfF kl k ((h :: r).drop k) ws ns,
    ⟨_, 1, pw, pn, none, [], [], rfl, rfl, Nat.le_refl _, by simp, .refl, ew, ⟨[], en, .nil⟩, rfl, by decide, by simp, rfl⟩, ?_⟩
  rintro m σ' H5 ⟨k, pw, pn, o5, ws, ns, rfl, rfl, hk1, hk2, x5, hW, hN, hlen, h3, hword, hq⟩
  have lL5 := lL.ext x5
  have xB := x4.trans x5
  have hSg : SgL H5 pw ws := ⟨hW, fun z hz => by obtain ⟨a, b, _⟩ := isWord_ok (hword z hz); exact ⟨a, by omega⟩, by omega⟩
  refine ⟨_, rfl, _, rfl, p2, _, rfl, .inl (SqL.of lL5.at_), _, _, rfl, rfl, _, rfl, ?_⟩
  by_cases hk : ¬ k < (h :: r).length
  · refine iteDF (by rw [List.length_map, List.length_map]; omega) ?_
    have ed : (h :: r).drop k = [] := List.drop_eq_nil_of_le (by omega)
    rw [ed] at hq
    have hq : restOfF kl 1 r [] [] = .inl k := hq.trans (by cases k <;> rfl)
    rw [hq0, hq] at q
    refine iteF ?_
    refine ⟨_, rfl, _, rfl, p2, _, rfl, .inl (SqL.of lL5.at_), _, _, rfl, rfl, _, rfl, ?_⟩
    refine iteDF (by rw [List.length_map, List.length_map]; omega) ?_
    refine ⟨(by show 0 ≤ sizeLine; decide), fun pq hpq => ?_⟩
    have x6 : Ext [] [] H5 (upd H5 pq (.lst [])) := .new hpq
    have e6 : (upd H5 pq (.lst [])) pq = some (.lst (([] : List Str).map V.str)) := upd_same
    have hW6 := x6.lst hW
    generalize upd H5 pq (.lst []) = H6 at x6 e6 hW6 ⊢
    refine ⟨_, rfl, (by show 0 ≤ sizeLine; decide), fun pe hpe => ?_⟩
    have x7 : Ext [] [] H6 (upd H6 pe (.lst [])) := .new hpe
    have e7 : (upd H6 pe (.lst [])) pe = some (.lst (([] : List Str).map V.str)) := upd_same
    have e67 := x7.lst e6
    have hW7 := x7.lst hW6
    generalize upd H6 pe (.lst []) = H7 at x7 e7 e67 hW7 ⊢
    refine ⟨pw, pe, ws, [], rfl, rfl, hW7, e7, hSg.okS, by simp, _, rfl, ?_⟩
    refine iteD (fun _ => iteT ?_) (fun _ => ?_)
    · exact ⟨_, rfl, q _ _ ((xB.trans x6).trans x7) (.int _)⟩
    refine ⟨_, rfl, _, rfl, pq, _, rfl, SqL.of e67, fun p8 hp8 => ?_⟩
    have x8 : Ext [] [] H7 (upd H7 p8 (.lst (cutV ((([] : List Str)).map V.str) none (some 1)))) := .new hp8
    have e8 : (upd H7 p8 (.lst (cutV ((([] : List Str)).map V.str) none (some 1)))) p8 = some (.lst (([] : List Str).map V.str)) := upd_same
    generalize upd H7 p8 (.lst (cutV ((([] : List Str)).map V.str) none (some 1))) = H8 at x8 e8 ⊢
    refine ⟨(by show 1 ≤ sizeLine; decide), fun p9 hp9 => ?_⟩
    have x9 : Ext [] [] H8 (upd H8 p9 (.lst [.str "tells"])) := .new hp9
    refine ⟨p8, p9, [], ["tells"], rfl, rfl, x9.lst e8, upd_same, (by simp), (fun z hz => by rw [List.mem_singleton.mp hz]; exact okd), _, rfl, ?_⟩
    refine iteNDF (by simp) (iteT ?_)
    exact ⟨_, rfl, q _ _ ((((xB.trans x6).trans x7).trans x8).trans x9) (.int _)⟩
  have hk := Classical.not_not.mp hk
  refine iteDT (by rw [List.length_map, List.length_map]; omega) ?_
  obtain ⟨l, hl1⟩ : ∃ l, (h :: r)[k]? = some l := ⟨_, List.getElem?_eq_getElem hk⟩
  have ed : (h :: r).drop k = l :: (h :: r).drop (k + 1) := by
    obtain ⟨h1, e1⟩ := List.getElem?_eq_some_iff.mp hl1
    rw [List.drop_eq_getElem_cons h1, e1]
  rw [ed] at hq
  have ml := List.mem_of_getElem? hl1
  obtain ⟨okl, lenl⟩ := lL.ok l ml
  have hlt := ht2 l ml
  have atl : (((h :: r).map S).map V.str)[k]? = some (.str (S l)) := by rw [List.getElem?_map, List.getElem?_map, hl1]; rfl
  have eS : restOfF kl k (l :: (h :: r).drop (k + 1)) ws ns = if nameP l then (match nameF ws l with
      | none => .inl k
      | some (w, v, f) => if ws.length = 3 then .inl k else restOfF kl (k + 1) ((h :: r).drop (k + 1)) (ws ++ [w]) (ns ++ [(v, f)]))
    else if ws = [] then .inl k else match toldF ws l with
      | none => .inl k
      | some told => match eqsF ws (k + 1) ((h :: r).drop (k + 1)) [] with
        | .inl j => .inl j
        | .inr es => .inr (⟨kl, ns, told, es⟩, ws) := rfl
  rw [eS] at hq
  refine ⟨_, rfl, _, rfl, p2, _, _, _, rfl, rfl, SqL.of lL5.at_, atI_nat atl, _, rfl, S l, rfl, line100 (by rw [len_tl]; show l.length ≤ _; omega), ?_⟩
  rw [show cutS (S l) none (some 5) = S (l.take 5) from cutS_to (z := S l) (k := 5)]
  have enp : decide (V.str (S (l.take 5)) = V.str (Str.ofString "name ")) = nameP l := by
    rw [Bool.eq_iff_iff, decide_eq_true_iff, beq_iff_eq]
    refine ⟨fun e => by injection e with e; exact congrArg tl e, fun e => by rw [e]; decide +kernel⟩
  refine ⟨rfl, _, rfl, ?_⟩
  rw [enp]
  cases hnp : nameP l with
  | true =>
    rw [hnp, if_pos rfl] at hq
    refine iteT ⟨_, fun _ _ h => h, ?_⟩
    refine ⟨_, rfl, _, rfl, p2, _, _, _, rfl, rfl, SqL.of lL5.at_, atI_nat atl, ⟨_, rfl⟩, _, _, rfl, rfl, (by decide), line100 (by rw [len_tl]; show l.length + 2 ≤ _; omega), fun pp hpp => ?_⟩
    rw [split_C tl_sp (by decide), tl_S]
    have x6 : Ext [] [] H5 (upd H5 pp (.lst (((splitC 32 l).map S).map V.str))) := .new hpp
    have e6 : (upd H5 pp (.lst (((splitC 32 l).map S).map V.str))) pp = some (.lst (((splitC 32 l).map S).map V.str)) := upd_same
    generalize upd H5 pp (.lst (((splitC 32 l).map S).map V.str)) = H6 at x6 e6 ⊢
    have hW6 := x6.lst hW
    have X6 := xB.trans x6
    have bad : restOfF kl 1 r [] [] = .inl k → ∀ H', Ext [] [] H6 H' → Q (.int (k : Nat)) H' := fun e H' x => q _ _ (X6.trans x) (by rw [hq0, e]; exact .int _)
    refine ⟨_, rfl, pw, _, rfl, .inl (SqL.of hW6), rfl, _, rfl, ?_⟩
    by_cases e3 : ws.length = 3
    · refine iteDT (by rw [List.length_map, e3]; rfl) (iteT ?_)
      have hq : restOfF kl 1 r [] [] = .inl k := by
        rw [hq]
        split
        · rfl
        · rw [if_pos e3]
      exact ⟨_, rfl, bad hq _ .refl⟩
    refine iteDF (fun z => e3 (by rw [List.length_map] at z; injection z with z; omega)) ?_
    have hqN : nameF ws l = none → restOfF kl 1 r [] [] = .inl k := fun e => by rw [hq, e]
    have hqS : ∀ (w : Str) (v f : Nat), nameF ws l = some (w, v, f) → restOfF kl 1 r [] [] = restOfF kl (k + 1) ((h :: r).drop (k + 1)) (ws ++ [w]) (ns ++ [(v, f)]) := fun w v f e => by
      rw [hq, e]
      exact if_neg e3
    clear hq eS
    refine ⟨_, rfl, pp, _, rfl, .inl (SqL.of e6), rfl, _, rfl, ?_⟩
    by_cases h5 : ¬ (splitC 32 l).length = 5
    · refine iteNDF (fun z => h5 (by rw [List.length_map, List.length_map] at z; injection z with z; omega)) (iteT ?_)
      exact ⟨_, rfl, bad (hqN (name_len h5)) _ .refl⟩
    have h5 := Classical.not_not.mp h5
    refine iteNDT (by rw [List.length_map, List.length_map, h5]; rfl) ?_
    obtain ⟨pa, pb, pc, pd, pe, hp5⟩ : ∃ a b c d e, splitC 32 l = [a, b, c, d, e] := by
      match splitC 32 l, h5 with
      | [a, b, c, d, e], _ => exact ⟨a, b, c, d, e, rfl⟩
    have hpa : S pa = "name" := by
      obtain ⟨r', hr'⟩ := nameP_head hnp
      rw [hp5] at hr'
      injection hr' with e1 e2
      rw [e1]
    have eN := name_parts (ws := ws) hp5
    have pok := splitC_ok (s := 32) okl
    rw [tl_S, hp5] at pok
    rw [hp5] at e6
    refine ⟨_, rfl, pp, _, _, _, rfl, rfl, SqL.of e6, atI_nat (j := 3) rfl, rfl, _, rfl, ?_⟩
    by_cases hpd : ¬ S pd = "from"
    · refine iteNDF (fun z => hpd (by injection z)) (iteT ?_)
      exact ⟨_, rfl, bad (hqN (by rw [eN, if_neg (fun z => hpd z.2.1)])) _ .refl⟩
    have hpd := Classical.not_not.mp hpd
    refine iteNDT (by rw [hpd]) ?_
    refine ⟨_, rfl, pp, _, _, _, rfl, rfl, SqL.of e6, atI_nat (j := 1) rfl, ?_⟩
    obtain ⟨okb, lenb⟩ := pok pb (by simp)
    refine ⟨S pb, rfl, okb, by have h9 := lenb; rw [len_tl (S l)] at h9; have h8 : (S pb).length ≤ l.length := h9; omega, fun H7 s7 => ?_⟩
    have x7 : Ext [] [] H6 H7 := .same s7
    have e7 := x7.lst e6
    have hW7 := x7.lst hW6
    by_cases hwb : ¬ isWordF (S pb) = true
    · have hwf : isWordF (S pb) = false := by simpa using hwb
      rw [hwf]
      refine ⟨_, rfl, iteT (iteT ?_)⟩
      exact ⟨_, rfl, bad (hqN (by rw [eN, if_neg (fun z => hwb z.2.2.1)])) _ x7⟩
    have hwb := Classical.not_not.mp hwb
    rw [hwb]
    refine ⟨_, rfl, iteF ?_⟩
    refine ⟨_, rfl, pp, _, _, _, rfl, rfl, SqL.of e7, atI_nat (j := 1) rfl, _, rfl, pw, _, rfl, .inl (SqL.of hW7), rfl, (by simp [flatV]), _, rfl, ?_⟩
    show if (inV (V.str (S pb)) (ws.map V.str)) = true then _ else _
    rw [inV_str]
    by_cases hm : S pb ∈ ws
    · refine iteDT hm (iteT ?_)
      exact ⟨_, rfl, bad (hqN (by rw [eN, if_neg (fun z => z.2.2.2 hm)])) _ x7⟩
    refine iteDF hm ?_
    rw [if_pos ⟨hpa, hpd, hwb, hm⟩] at eN
    refine ⟨_, rfl, pp, _, _, _, rfl, rfl, SqL.of e7, atI_nat (j := 2) rfl, (by show 2 ≤ sizeLine; decide), fun p8 hp8 => ⟨p8, _, rfl, .inl (SqL.of upd_same), rfl, rfl, _, rfl, ?_⟩⟩
    have x8 := x7.trans (Ext.new (GT := []) (M := []) (o := .lst [.str "2", .str "3"]) hp8)
    have y8 : Ext [] [] H7 (upd H7 p8 (.lst [.str "2", .str "3"])) := .new hp8
    have e8 := y8.lst e7
    have hW8 := y8.lst hW7
    generalize upd H7 p8 (.lst [.str "2", .str "3"]) = H8 at x8 y8 e8 hW8 ⊢
    rw [show inV (V.str (S pc)) [V.str "2", V.str "3"] = decide (S pc ∈ [("2" : Str), "3"]) from inV_str _ [("2" : Str), "3"]]
    show if (!decide (S pc ∈ [("2" : Str), "3"])) = true then _ else _
    obtain ⟨v, hv2, hv3, hpc⟩ | ⟨n2, n3, hpc⟩ : (∃ v : Nat, 2 ≤ v ∧ v ≤ 3 ∧ S pc = S [48 + v] ∧ digitF (S pc) 2 3 = some (v : Int)) ∨ (S pc ≠ "2" ∧ S pc ≠ "3" ∧ digitF (S pc) 2 3 = none) := by
      rcases two_three (S pc) with ⟨a, b⟩ | ⟨a, b⟩ | ⟨a, b, c⟩
      · exact .inl ⟨2, by decide, by decide, by rw [a]; decide +kernel, b⟩
      · exact .inl ⟨3, by decide, by decide, by rw [a]; decide +kernel, b⟩
      · exact .inr ⟨a, b, c⟩
    case inr =>
      refine iteNDF (by simp [n2, n3]) ?_
      rw [hpc] at eN
      exact ⟨_, rfl, bad (hqN eN) _ x8⟩
    obtain ⟨hpc, hdc⟩ := hpc
    have hmem : S pc ∈ [("2" : Str), "3"] := by
      rw [hpc]
      have : v = 2 ∨ v = 3 := by omega
      rcases this with rfl | rfl
      · rw [show S [48 + 2] = ("2" : Str) by decide +kernel]; simp
      · rw [show S [48 + 3] = ("3" : Str) by decide +kernel]; simp
    have ivt : PySem.intText? (S pc) = some (v : Int) := by rw [hpc, int_dig (by omega) (by omega)]; congr 1; omega
    refine iteNDT hmem ?_
    refine ⟨_, rfl, pp, _, _, _, rfl, rfl, SqL.of e8, atI_nat (j := 4) rfl, ?_⟩
    have lpc : (S pc).length ≤ 640 := by rw [hpc]; show 1 ≤ 640; decide
    refine ⟨_, rfl, pp, _, _, _, rfl, rfl, SqL.of e8, atI_nat (j := 2) rfl, S pc, v, rfl, ivt, lpc, _, _, rfl, rfl, ?_⟩
    have lpe : (S pe).length ≤ l.length := by
      have h9 := (pok pe (by simp)).2
      rw [len_tl (S l)] at h9
      exact h9
    refine ⟨S pe, 0, (v : Int) - 1, rfl, by omega, ?_⟩
    rw [hdc] at eN
    simp only at eN
    cases hde : digitF (S pe) 0 ((v : Int) - 1) with
    | none =>
      rw [hde] at eN
      refine ⟨rfl, _, rfl, iteDT rfl ?_⟩
      exact ⟨_, rfl, bad (hqN eN) _ x8⟩
    | some fd0 =>
      rw [hde] at eN
      obtain ⟨cf, hcf, cf1, cf2, hfd, fd1, fd2⟩ := digit_ch hde
      refine ⟨rfl, _, rfl, iteDF (fun z => by cases z) ?_⟩
      have hq1 := hqS (S pb) v fd0.toNat eN
      refine ⟨_, rfl, _, rfl, pp, _, _, _, rfl, rfl, SqL.of e8, atI_nat (j := 1) rfl, ?_⟩
      refine ⟨(by show 1 ≤ sizeLine; decide), fun p9 hp9 => ?_⟩
      have x9 := x8.trans (Ext.new (GT := []) (M := []) (o := .lst [.str (S pb)]) hp9)
      have y9 : Ext [] [] H8 (upd H8 p9 (.lst [.str (S pb)])) := .new hp9
      have e9 : (upd H8 p9 (.lst [.str (S pb)])) p9 = some (.lst [.str (S pb)]) := upd_same
      have e10 := y9.lst e8
      have hW9 := y9.lst hW8
      generalize upd H8 p9 (.lst [.str (S pb)]) = H9 at x9 y9 e9 e10 hW9 ⊢
      refine ⟨pw, p9, _, _, rfl, rfl, hW9, e9, Nat.le_trans (by rw [List.length_map]; show ws.length + 1 ≤ 10; omega) (by show 10 ≤ sizeLine; decide), fun pw2 hpw2 => ?_⟩
      have eWc : ws.map V.str ++ [V.str (S pb)] = (ws ++ [S pb]).map V.str := by rw [List.map_append]; rfl
      rw [eWc]
      have x10 := x9.trans (Ext.new (GT := []) (M := []) (o := .lst ((ws ++ [S pb]).map V.str)) hpw2)
      have y10 : Ext [] [] H9 (upd H9 pw2 (.lst ((ws ++ [S pb]).map V.str))) := .new hpw2
      have hW10 : (upd H9 pw2 (.lst ((ws ++ [S pb]).map V.str))) pw2 = some (.lst ((ws ++ [S pb]).map V.str)) := upd_same
      have e11 := y10.lst e10
      generalize upd H9 pw2 (.lst ((ws ++ [S pb]).map V.str)) = H10 at x10 y10 hW10 e11 ⊢
      refine ⟨_, rfl, _, rfl, pp, _, _, _, rfl, rfl, SqL.of e11, atI_nat (j := 2) rfl, S pc, v, rfl, ivt, lpc, ?_⟩
      have hpe : S pe = S [cf] := congrArg S hcf
      have ive : PySem.intText? (S pe) = some (fd0.toNat : Int) := by rw [hpe, int_dig cf1 cf2]; congr 1; omega
      have lpe2 : (S pe).length ≤ 640 := by rw [hpe]; show 1 ≤ 640; decide
      refine ⟨_, rfl, pp, _, _, _, rfl, rfl, SqL.of e11, atI_nat (j := 4) rfl, S pe, fd0.toNat, rfl, ive, lpe2, ?_⟩
      refine ⟨(by show 2 ≤ sizeLine; decide), fun pt hpt => ?_⟩
      have xt : Ext [] [] H10 (upd H10 pt (.tup [.int v, .int fd0.toNat])) := .new hpt
      have Dt : DAt (upd H10 pt (.tup [.int v, .int fd0.toNat])) (.ref pt) (.tup [.int v, .int fd0.toNat]) := .mk2 upd_same (.int _) (.int _)
      have x11 := x10.trans xt
      have hW11 := xt.lst hW10
      generalize upd H10 pt (.tup [.int v, .int fd0.toNat]) = H11 at xt Dt x11 hW11 ⊢
      refine ⟨(by show 1 ≤ sizeLine; decide), fun p12 hp12 => ?_⟩
      have x12 : Ext [] [] H11 (upd H11 p12 (.lst [.ref pt])) := .new hp12
      have e12 : (upd H11 p12 (.lst [.ref pt])) p12 = some (.lst [.ref pt]) := upd_same
      have Dt12 := Dt.ext x12
      have hW12 := x12.lst hW11
      have hN12 := hN.ext ((x6.trans x11).trans x12)
      have x12 := x11.trans x12
      generalize upd H11 p12 (.lst [.ref pt]) = H12 at x12 e12 Dt12 hW12 hN12 ⊢
      obtain ⟨xn, en12, an12⟩ := hN12
      have xnl : xn.length = ns.length := by rw [an12.1, List.length_map]
      refine ⟨pn, p12, _, _, rfl, rfl, en12, e12, Nat.le_trans (by rw [xnl]; show ns.length + 1 ≤ 10; omega) (by show 10 ≤ sizeLine; decide), fun pn2 hpn2 => ?_⟩
      have x13 : Ext [] [] H12 (upd H12 pn2 (.lst (xn ++ [.ref pt]))) := .new hpn2
      have LN : LAt (upd H12 pn2 (.lst (xn ++ [.ref pt]))) pn2 ((ns ++ [(v, fd0.toNat)]).map fun n => D.tup [.int n.1, .int n.2]) := ⟨_, upd_same, by rw [List.map_append]; exact (an12.snoc Dt12).ext x13⟩
      have hW13 := x13.lst hW12
      have x13 := x12.trans x13
      generalize upd H12 pn2 (.lst (xn ++ [.ref pt])) = H13 at x13 LN hW13 ⊢
      refine ⟨_, rfl, _, _, rfl, rfl, (by show 3 ≤ sizeLine; decide), fun p14 hp14 => ?_⟩
      have x14 : Ext [] [] H13 (upd H13 p14 (.tup [.ref pw2, .ref pn2, .int ((k : Nat) + 1)])) := .new hp14
      refine ⟨p14, _, rfl, SqT.of upd_same, rfl, .ref pw2, _, rfl, .ref pn2, _, rfl, .int ((k : Nat) + 1), _, rfl, rfl, ?_⟩
      refine ⟨(h :: r).length - (k + 1), by omega, k + 1, pw2, pn2, some (.ref pp), ws ++ [S pb], ns ++ [(v, fd0.toNat)], rfl, rfl, by omega, by omega, ((x5.trans x6).trans x13).trans x14, x14.lst hW13, LN.ext x14, by rw [List.length_append, List.length_append, hlen]; rfl, by rw [List.length_append]; show ws.length + 1 ≤ 3; omega, fun z hz => ?_, hq1⟩
      rcases List.mem_append.mp hz with z1 | z1
      · exact hword z z1
      · rw [List.mem_singleton.mp z1]; exact hwb
  | false =>
    rw [hnp, if_neg (by decide)] at hq
    refine iteF ?_
    refine ⟨_, rfl, _, rfl, p2, _, rfl, .inl (SqL.of lL5.at_), _, _, rfl, rfl, _, rfl, ?_⟩
    refine iteDT (by rw [List.length_map, List.length_map]; omega) ?_
    refine ⟨_, rfl, _, rfl, p2, _, _, _, rfl, rfl, SqL.of lL5.at_, atI_nat atl, ⟨_, rfl⟩, _, _, rfl, rfl, (by decide), line100 (by rw [len_tl]; show l.length + 2 ≤ _; omega), fun pp hpp => ?_⟩
    rw [split_C tl_sp (by decide), tl_S]
    have x6 : Ext [] [] H5 (upd H5 pp (.lst (((splitC 32 l).map S).map V.str))) := .new hpp
    have e6 : (upd H5 pp (.lst (((splitC 32 l).map S).map V.str))) pp = some (.lst (((splitC 32 l).map S).map V.str)) := upd_same
    generalize upd H5 pp (.lst (((splitC 32 l).map S).map V.str)) = H6 at x6 e6 ⊢
    have hW6 := x6.lst hW
    have X6 := xB.trans x6
    have bad : restOfF kl 1 r [] [] = .inl k → ∀ H', Ext [] [] H6 H' → Q (.int (k : Nat)) H' := fun e H' x => q _ _ (X6.trans x) (by rw [hq0, e]; exact .int _)
    refine ⟨_, rfl, (by show 0 ≤ sizeLine; decide), fun pe hpe => ?_⟩
    have x7 : Ext [] [] H6 (upd H6 pe (.lst [])) := .new hpe
    have e7 : (upd H6 pe (.lst [])) pe = some (.lst (([] : List Str).map V.str)) := upd_same
    have e67 := x7.lst e6
    have hW7 := x7.lst hW6
    generalize upd H6 pe (.lst []) = H7 at x7 e7 e67 hW7 ⊢
    refine ⟨pw, pe, ws, [], rfl, rfl, hW7, e7, hSg.okS, by simp, _, rfl, ?_⟩
    by_cases hws : ws = []
    · refine iteDT hws (iteT ?_)
      exact ⟨_, rfl, bad (by rw [hq, if_pos hws]) _ x7⟩
    refine iteDF hws ?_
    rw [if_neg hws] at hq
    obtain ⟨ph, pr, hps⟩ : ∃ ph pr, splitC 32 l = ph :: pr := by
      cases e : splitC 32 l with
      | nil => exact absurd e (splitC_ne _ _)
      | cons a r => exact ⟨a, r, rfl⟩
    have pok := splitC_ok (s := 32) okl
    rw [tl_S, hps] at pok
    rw [hps] at e67
    refine ⟨_, rfl, _, rfl, pp, _, rfl, SqL.of e67, fun p8 hp8 => ?_⟩
    have x8 : Ext [] [] H7 (upd H7 p8 (.lst ([S ph].map V.str))) := .new hp8
    have ec8 : cutV (((ph :: pr).map S).map V.str) none (some 1) = [S ph].map V.str := by
      rw [show (some 1 : Option Int) = some ((1 : Nat) : Int) from rfl, cut_to]
      rfl
    rw [ec8]
    have e8 : (upd H7 p8 (.lst ([S ph].map V.str))) p8 = some (.lst ([S ph].map V.str)) := upd_same
    have e88 := x8.lst e67
    have hW8 := x8.lst hW7
    have x8 := x7.trans x8
    show tLst _ _ _ _
    generalize upd H7 p8 (.lst ([S ph].map V.str)) = H8 at x8 e8 e88 hW8 ⊢
    refine ⟨(by show 1 ≤ sizeLine; decide), fun p9 hp9 => ?_⟩
    have x9 : Ext [] [] H8 (upd H8 p9 (.lst [.str "tells"])) := .new hp9
    have e99 := x9.lst e88
    have hW9 := x9.lst hW8
    have e98 := x9.lst e8
    have x9 := x8.trans x9
    refine ⟨p8, p9, [S ph], ["tells"], rfl, rfl, e98, upd_same, (fun z hz => by rw [List.mem_singleton.mp hz]; exact (pok ph (by simp)).1), (fun z hz => by rw [List.mem_singleton.mp hz]; exact okd), _, rfl, ?_⟩
    show if (!decide ([S ph] = [("tells" : Str)])) = true then _ else _
    generalize upd H8 p9 (.lst [.str "tells"]) = H9 at x9 e99 hW9 ⊢
    have eT : toldF ws l = if S ph = "tells" ∧ pr ≠ [] ∧ (∀ x ∈ pr, S x ∈ ws) ∧ rising (pr.map fun x => ws.idxOf (S x)) = true then some (pr.map fun x => ws.idxOf (S x)) else none := by
      unfold toldF
      rw [hps]
    have hqN : toldF ws l = none → restOfF kl 1 r [] [] = .inl k := fun e => by rw [hq, e]
    by_cases hph : ¬ S ph = "tells"
    · refine iteNDF (fun z => hph (List.cons.inj z).1) (iteT ?_)
      exact ⟨_, rfl, bad (hqN (by rw [eT, if_neg (fun z => hph z.1)])) _ x9⟩
    have hph := Classical.not_not.mp hph
    refine iteNDT (by rw [hph]) ?_
    refine ⟨_, rfl, pp, _, rfl, .inl (SqL.of e99), _, _, rfl, rfl, _, rfl, ?_⟩
    have lsh : l.head? = some 116 := by
      have hg := splitC_glue 32 l
      have e1 : ph = tl ("tells" : Str) := congrArg tl hph
      rw [hps, e1] at hg
      rw [← hg]
      cases pr <;> rfl
    have l60 := hlt lsh
    cases pr with
    | nil =>
      refine iteDT (by show ((1 : Nat) : Int) < 2; decide) (iteT ?_)
      exact ⟨_, rfl, bad (hqN (by rw [eT, if_neg (fun z => z.2.1 rfl)])) _ x9⟩
    | cons b pr =>
    refine iteDF (by rw [List.length_map, List.length_map, List.length_cons, List.length_cons]; omega) ?_
    have plen : (b :: pr).length ≤ 60 := by
      have h1 := splitC_len 32 l
      rw [hps] at h1
      have h2 : (b :: pr).length + 1 ≤ l.length + 1 := h1
      omega
    refine ⟨_, rfl, _, rfl, pp, _, rfl, SqL.of e99, fun p10 hp10 => ?_⟩
    have ec10 : cutV (((ph :: b :: pr).map S).map V.str) (some 1) none = ((b :: pr).map S).map V.str := by
      rw [show (some (1 : Int)) = some ((1 : Nat) : Int) from rfl, cutStr_from]
      rfl
    rw [ec10]
    have x10 : Ext [] [] H9 (upd H9 p10 (.lst (((b :: pr).map S).map V.str))) := .new hp10
    have e10 : (upd H9 p10 (.lst (((b :: pr).map S).map V.str))) p10 = some (.lst (((b :: pr).map S).map V.str)) := upd_same
    have e910 := x10.lst e99
    have hW10 := x10.lst hW9
    have x10 := x9.trans x10
    generalize upd H9 p10 (.lst (((b :: pr).map S).map V.str)) = H10 at x10 e10 e910 hW10 ⊢
    refine ⟨p10, rfl, ⟨_, SqL.of e10⟩, fun D0 hD => ?_⟩
    refine lc_list (Acc [] [] H10 D0 (fun i ds => ds = ((((b :: pr).take i).filter fun x => !decide (S x ∈ ws)).map S).map D.str)) (acc0 hD rfl) (fun i H11 hi ac => SqL.of (ac.ext.lst e10)) (fun i x H11 hx ac => ?_) (fun H11 ac => ?_)
    · rw [List.getElem?_map] at hx
      obtain ⟨sx, hsx, rfl⟩ := Option.map_eq_some_iff.mp hx
      rw [List.getElem?_map] at hsx
      obtain ⟨lx, hlx, rfl⟩ := Option.map_eq_some_iff.mp hsx
      have hi : i < 1000000 := by
        have := (List.getElem?_eq_some_iff.mp hlx).1
        omega
      have hW11 := ac.ext.lst hW10
      refine ⟨rfl, _, rfl, _, rfl, pw, _, rfl, .inl (SqL.of hW11), rfl, (by simp [flatV]), _, rfl, ?_⟩
      show if (!(inV (V.str (S lx)) (ws.map V.str))) = true then _ else _
      rw [inV_str]
      by_cases hm : S lx ∈ ws
      · refine iteNDT hm ?_
        exact ac.skip (by simp) .refl (fun ds e => by rw [e, List.take_add_one, hlx]; simp [hm])
      · refine iteNDF hm ?_
        refine ⟨_, rfl, ?_⟩
        exact ac.step hD (by simp) hi .refl (.str _) (fun ds e => by rw [e, List.take_add_one, hlx]; simp [hm])
    obtain ⟨⟨ds, l11, g, _⟩, x11⟩ := ac
    have g : ds = ((((b :: pr).take (((b :: pr).map S).map V.str).length).filter fun x => !decide (S x ∈ ws)).map S).map D.str := g
    rw [List.length_map, List.length_map, List.take_length] at g
    subst g
    have l11 := l11.str
    refine ⟨(by show 0 ≤ sizeLine; decide), fun p12 hp12 => ?_⟩
    have x12 : Ext [] [] H11 (upd H11 p12 (.lst [])) := .new hp12
    have l12 := x12.lst l11
    have e12 : (upd H11 p12 (.lst [])) p12 = some (.lst (([] : List Str).map V.str)) := upd_same
    have e912 := x12.lst (x11.lst e910)
    have hW12 := x12.lst (x11.lst hW10)
    have x12 := (x10.trans x11).trans x12
    generalize upd H11 p12 (.lst []) = H12 at x12 l12 e12 e912 hW12 ⊢
    refine ⟨D0, p12, _, [], rfl, rfl, l12, e12, (fun z hz => by
      obtain ⟨c, hc, rfl⟩ := List.mem_map.mp hz
      exact (pok c (List.mem_cons_of_mem _ (List.mem_filter.mp hc).1)).1), by simp, _, rfl, ?_⟩
    by_cases hall : ¬ ∀ x ∈ b :: pr, S x ∈ ws
    · refine iteNDF (fun z => hall fun x hx => ?_) ?_
      · rw [List.map_eq_nil_iff, List.filter_eq_nil_iff] at z
        have := z x hx
        simpa using this
      exact ⟨_, rfl, bad (hqN (by rw [eT, if_neg (fun z => hall z.2.2.1)])) _ x12⟩
    have hall := Classical.not_not.mp hall
    refine iteNDT (by
      rw [List.map_eq_nil_iff, List.filter_eq_nil_iff]
      intro x hx
      simp [hall x hx]) ?_
    show tSeq _ _ _ _ _
    refine ⟨_, rfl, _, rfl, pp, _, rfl, SqL.of e912, fun p13 hp13 => ?_⟩
    rw [ec10]
    have y13 : Ext [] [] H12 (upd H12 p13 (.lst (((b :: pr).map S).map V.str))) := .new hp13
    have e13 : (upd H12 p13 (.lst (((b :: pr).map S).map V.str))) p13 = some (.lst (((b :: pr).map S).map V.str)) := upd_same
    have hW13 := y13.lst hW12
    have x13 := x12.trans y13
    generalize upd H12 p13 (.lst (((b :: pr).map S).map V.str)) = H13 at x13 e13 hW13 ⊢
    refine ⟨p13, rfl, ⟨_, SqL.of e13⟩, fun D1 hD1 => ?_⟩
    refine lc_list (Acc [] [] H13 D1 (fun i ds => ds = ((b :: pr).take i).map fun x => D.int (ws.idxOf (S x) : Nat))) (acc0 hD1 rfl) (fun i H14 hi ac => SqL.of (ac.ext.lst e13)) (fun i x H14 hx ac => ?_) (fun H14 ac => ?_)
    · rw [List.getElem?_map] at hx
      obtain ⟨sx, hsx, rfl⟩ := Option.map_eq_some_iff.mp hx
      rw [List.getElem?_map] at hsx
      obtain ⟨lx, hlx, rfl⟩ := Option.map_eq_some_iff.mp hsx
      have hm := hall lx (List.mem_of_getElem? hlx)
      have hi : i < 1000000 := by
        have := (List.getElem?_eq_some_iff.mp hlx).1
        omega
      have hW14 := ac.ext.lst hW13
      refine ⟨rfl, _, rfl, .inl ⟨rfl, _, SqL.of hW14⟩, _, rfl, pw, _, _, ws.idxOf (S lx), _, rfl, rfl, SqL.of hW14, rfl, ?_, (by rw [List.getElem?_map, idx_at hm]; rfl), ?_, ?_, ?_⟩
      · simp [flatV]
      · simp [eqV]
      · intro m z' hmm hz
        rw [List.getElem?_map] at hz
        obtain ⟨y, hy, rfl⟩ := Option.map_eq_some_iff.mp hz
        have : y ≠ S lx := fun z => idx_first hmm (by rw [hy, z])
        simp [eqV, this]
      exact ac.step hD1 (by simp) hi .refl (.int _) fun ds e => map_Gs (f := fun x => D.int (ws.idxOf (S x) : Nat)) hlx e
    obtain ⟨⟨ds, ⟨ys, ey, ay⟩, g, _⟩, y14⟩ := ac
    have g : ds = ((b :: pr).take (((b :: pr).map S).map V.str).length).map fun x => D.int (ws.idxOf (S x) : Nat) := g
    rw [List.length_map, List.length_map, List.take_length] at g
    subst g
    obtain ⟨tl0, htl⟩ : ∃ tl0 : List Nat, tl0 = (b :: pr).map fun x => ws.idxOf (S x) := ⟨_, rfl⟩
    have ey2 : ys = (tl0.map fun (i : Nat) => (i : Int)).map V.int := by
      have := allD_intI (zs := tl0.map fun (i : Nat) => (i : Int)) (H := H14) (xs := ys) (by rw [htl, List.map_map, List.map_map]; exact ay)
      exact this
    subst ey2
    rw [← htl] at eT
    have tlen : tl0.length = (b :: pr).length := by rw [htl, List.length_map]
    have hW14 := y14.lst hW13
    have x14 := x13.trans y14
    show tSeq _ _ _ _ _
    refine ⟨_, rfl, _, rfl, D1, _, rfl, SqL.of ey, by rw [List.length_map]; omega, fun p15 c15 hp15 hc15 => ?_⟩
    rw [List.length_map] at hc15
    have y15 : Ext [] [] H14 (upd H14 p15 (SetO w p15 (fun j => decide (j ∈ tl0.map fun (i : Nat) => (i : Int))) c15)) := .new hp15
    refine ⟨p15, _, c15, rfl, upd_same, by omega, fun nset p16 hpw hmem hlen16 hp16 => ?_⟩
    have y16 := y15.trans (Ext.new (GT := []) (M := []) (o := .lst (nset.map V.int)) hp16)
    have e16 : (upd (upd H14 p15 (SetO w p15 (fun j => decide (j ∈ tl0.map fun (i : Nat) => (i : Int))) c15)) p16 (.lst (nset.map V.int))) p16 = some (.lst (nset.map V.int)) := upd_same
    have ey16 := y16.lst ey
    have hW16 := y16.lst hW14
    have x16 := x14.trans y16
    refine ⟨_, _, dp_ints ey16, dp_ints e16, shaped_ints _, shaped_ints _, _, rfl, ?_⟩
    rw [show PyData.eqv (.list ((tl0.map fun (i : Nat) => (i : Int)).map PyData.int)) (.list (nset.map PyData.int)) = rising tl0 from (eqv_ints _ _).trans (rising_set hpw fun k => (hmem k).trans decide_eq_true_iff)]
    cases hri : rising tl0 with
    | false =>
      refine iteT ?_
      exact ⟨_, rfl, bad (hqN (by rw [eT, if_neg (fun z => by rw [hri] at z; cases z.2.2.2)])) _ x16⟩
    | true =>
    refine iteF ?_
    show tSeq _ _ _ _ _
    have eTl : toldF ws l = some tl0 := by rw [eT, if_pos ⟨hph, by simp, hall, hri⟩]
    rw [eTl] at hq
    simp only at hq
    obtain ⟨Hc, hHc⟩ : ∃ Hc, Hc = upd (upd H14 p15 (SetO w p15 (fun j => decide (j ∈ tl0.map fun (i : Nat) => (i : Int))) c15)) p16 (.lst (nset.map V.int)) := ⟨_, rfl⟩
    rw [← hHc] at y16 ey16 hW16 x16
    refine ⟨(by show 0 ≤ sizeLine; decide), fun pq hpq => ?_⟩
    have hpqc : Hc pq = none := by rw [hHc]; exact hpq
    have lLc := lL5.ext (x6.trans x16)
    have lLq := lLc.ext (GT := []) (Ext.new (o := .lst []) hpqc)
    refine ⟨_, rfl, _, _, rfl, rfl, _, rfl, p2, _, rfl, .inl (SqL.of (by rw [hHc] at lLq; exact lLq.at_)), (k : Int) + 1, ((h :: r).length : Int), by rw [List.length_map, List.length_map], ⟨by omega, by omega, by omega, by omega⟩, ?_⟩
    rw [show (((h :: r).length : Int) - ((k : Int) + 1)).toNat = (h :: r).length - (k + 1) by omega]
    have hNc := hN.ext (x6.trans x16)
    refine for_range (lo := (k : Int) + 1) (n := (h :: r).length - (k + 1)) (fun i σ' H' => ∃ (es : List (Tm × Tm)) (a8 a9 : Option V), σ' = [some (.str z), some (.ref p2), some (.ref pw), some (.ref pn), some (.int (k : Nat)), some (.ref pp), some (.ref D1), some (.ref pq), a8, a9, none] ∧ Ext [] [] Hc H' ∧ LAt H' pq (es.map fun e => D.tup [e.1.d, e.2.d]) ∧ es.length ≤ 6 ∧
      eqsF ws (k + 1) ((h :: r).drop (k + 1)) [] = eqsF ws (k + 1 + i) ((h :: r).drop (k + 1 + i)) es) ⟨[], none, none, rfl, by rw [hHc]; exact .new hpq, ⟨[], upd_same, .nil⟩, by decide, rfl⟩ (fun i σ' H' hi hv => ?_) (fun σ' H' hv => ?_)
    · obtain ⟨es, a8, a9, rfl, x2, la, h6, hqe⟩ := hv
      have hlt2 : k + 1 + i < (h :: r).length := by omega
      obtain ⟨l2, hl2⟩ : ∃ l2, (h :: r)[k + 1 + i]? = some l2 := ⟨_, List.getElem?_eq_getElem hlt2⟩
      have ed2 : (h :: r).drop (k + 1 + i) = l2 :: (h :: r).drop (k + 1 + i + 1) := by
        obtain ⟨h1, e1⟩ := List.getElem?_eq_some_iff.mp hl2
        rw [List.drop_eq_getElem_cons h1, e1]
      rw [ed2] at hqe
      have eS2 : eqsF ws (k + 1 + i) (l2 :: (h :: r).drop (k + 1 + i + 1)) es = match eqF ws l2 with
        | none => .inl (k + 1 + i)
        | some e => if es.length = 6 then .inl (k + 1 + i) else eqsF ws (k + 1 + i + 1) ((h :: r).drop (k + 1 + i + 1)) (es ++ [e]) := rfl
      rw [eS2] at hqe
      have lL2 := lLc.ext x2
      obtain ⟨okl2, lenl2⟩ := lL.ok l2 (List.mem_of_getElem? hl2)
      have hSg2 : SgL H' pw ws := ⟨x2.lst hW16, hSg.ok, hSg.few⟩
      have bad2 : eqsF ws (k + 1) ((h :: r).drop (k + 1)) [] = .inl (k + 1 + i) → ∀ H3, Ext [] [] H' H3 → Q (.int ((k : Int) + 1 + (i : Int))) H3 := fun e H3 x3 => q _ _ (((X6.trans x16).trans x2).trans x3) (by
        rw [hq0, hq, e]
        rw [show ((k : Int) + 1 + (i : Int)) = ((k + 1 + i : Nat) : Int) by omega]
        exact .int _)
      refine ⟨_, rfl, _, rfl, p2, _, _, _, rfl, rfl, SqL.of lL2.at_, (by rw [show (k : Int) + 1 + (i : Int) = ((k + 1 + i : Nat) : Int) by omega]; exact atI_nat (j := k + 1 + i) (by rw [List.getElem?_map, List.getElem?_map, hl2]; rfl)), _, rfl, ?_⟩
      refine ⟨S l2, pw, ws, rfl, okl2, by rw [len_tl]; exact lenl2, hSg2, (fun z hz e => by have := hword z hz; rw [e] at this; exact absurd this (by decide)), fun e H3 x3 => ?_, fun a b e H3 v x3 dv => ?_⟩
      · have e : eqF ws l2 = none := e
        rw [e] at hqe
        refine ⟨_, rfl, rfl, _, rfl, iteDT rfl (iteT ?_)⟩
        exact ⟨_, rfl, bad2 hqe H3 x3⟩
      · have e : eqF ws l2 = some (a, b) := e
        rw [e] at hqe
        have hvn : v ≠ .non := fun z => by
          rw [z] at dv
          cases dv
        refine ⟨_, rfl, rfl, _, rfl, iteDF hvn ?_⟩
        obtain ⟨ys, ey, ay⟩ := la.ext x3
        have ly : ys.length = es.length := by rw [ay.1, List.length_map]
        refine ⟨_, rfl, pq, _, rfl, .inl (SqL.of ey), rfl, _, rfl, ?_⟩
        by_cases e6 : es.length = 6
        · refine iteDT (by rw [ly, e6]; rfl) ?_
          simp only [e6, if_true] at hqe
          exact ⟨_, rfl, bad2 hqe H3 x3⟩
        · refine iteDF (fun z => e6 (by injection z with z; omega)) ?_
          simp only [e6, if_false] at hqe
          refine ⟨_, rfl, .inl ⟨rfl, _, SqL.of ey⟩, _, rfl, pq, _, _, rfl, rfl, ey, Nat.lt_of_lt_of_le (by omega : ys.length < 1000000) (by decide), ?_⟩
          refine ⟨es ++ [(a, b)], _, _, rfl, (x2.trans x3).mutN hpqc, ?_, by rw [List.length_append, List.length_singleton]; omega, ?_⟩
          · rw [List.map_append]
            exact ⟨_, upd_same, (ay.snoc dv).put ey⟩
          · rw [hqe]
            rfl
    · obtain ⟨es, a8, a9, rfl, x2, ⟨ys, ey, ay⟩, h6, hqe⟩ := hv
      have ed2 : (h :: r).drop (k + 1 + ((h :: r).length - (k + 1))) = [] := List.drop_eq_nil_of_le (by omega)
      rw [ed2] at hqe
      have hqe : eqsF ws (k + 1) ((h :: r).drop (k + 1)) [] = .inr es := hqe.trans (by cases (k + 1 + ((h :: r).length - (k + 1))) <;> rfl)
      rw [hqe] at hq
      simp only at hq
      have lL2 := lLc.ext x2
      have hW2 := x2.lst hW16
      have ey2 := x2.lst ey16
      have hN2 := hNc.ext x2
      have X2 := (X6.trans x16).trans x2
      have hlast : (tl (S h)) = tl ("letters " : Str) ++ [48 + kl] := hh
      have hch : (48 + kl : Nat) < 0x110000 := by omega
      refine ⟨_, rfl, p2, _, _, _, rfl, rfl, SqL.of lL2.at_, atI_nat (j := 0) rfl, _, rfl, S h, _, _, rfl, rfl, line100 (by rw [len_tl, hlast]; show 9 ≤ _; decide), (by rw [show (S h).cps.toList = tl (S h) from rfl, hlast]; exact atI_last _ _), ?_⟩
      refine ⟨S [48 + kl], (kl : Int), rfl, (by rw [int_dig (by omega) (by omega)]; congr 1; omega), (by show 1 ≤ 640; decide), ?_⟩
      obtain ⟨xn, en, an⟩ := hN2
      refine ⟨_, rfl, pn, xn, rfl, .inl ⟨SqL.of en, fun pa hpa => ?_⟩⟩
      have z1 : Ext [] [] H' (upd H' pa (.tup xn)) := .new hpa
      have dn : DAt (upd H' pa (.tup xn)) (.ref pa) (.tup (ns.map fun n => D.tup [.int n.1, .int n.2])) := .new hpa an
      have ey3 := z1.lst ey2
      have eyq := z1.lst ey
      have ayq := ay.ext z1
      have hW3 := z1.lst hW2
      generalize upd H' pa (.tup xn) = H3 at z1 dn ey3 eyq ayq hW3 ⊢
      refine ⟨_, rfl, D1, _, rfl, .inl ⟨SqL.of ey3, fun pb hpb => ?_⟩⟩
      have z2 : Ext [] [] H3 (upd H3 pb (.tup ((tl0.map fun (i : Nat) => (i : Int)).map V.int))) := .new hpb
      have dt : DAt (upd H3 pb (.tup ((tl0.map fun (i : Nat) => (i : Int)).map V.int))) (.ref pb) (.tup (tl0.map fun (i : Nat) => D.int i)) := by
        have := DAt.new hpb (allD_int (H := H3) (zs := tl0.map fun (i : Nat) => (i : Int)))
        rw [show (tl0.map fun (i : Nat) => D.int i) = (tl0.map fun (i : Nat) => (i : Int)).map D.int by rw [List.map_map]; rfl]
        exact this
      have eyq2 := z2.lst eyq
      have ayq2 := ayq.ext z2
      have hW4 := z2.lst hW3
      have dn2 := dn.ext z2
      have z2 := z1.trans z2
      generalize upd H3 pb (.tup ((tl0.map fun (i : Nat) => (i : Int)).map V.int)) = H4 at z2 dt eyq2 ayq2 hW4 dn2 ⊢
      refine ⟨_, rfl, pq, _, rfl, .inl ⟨SqL.of eyq2, fun pc hpc => ?_⟩⟩
      have z3 : Ext [] [] H4 (upd H4 pc (.tup ys)) := .new hpc
      have de : DAt (upd H4 pc (.tup ys)) (.ref pc) (.tup (es.map fun e => D.tup [e.1.d, e.2.d])) := .new hpc ayq2
      have dn3 := dn2.ext z3
      have dt3 := dt.ext z3
      have hW5 := z3.lst hW4
      have z3 := z2.trans z3
      generalize upd H4 pc (.tup ys) = H5' at z3 de dn3 dt3 hW5 ⊢
      refine ⟨(by show 4 ≤ sizeLine; decide), fun pm hpm => ?_⟩
      have z4 : Ext [] [] H5' (upd H5' pm (.tup [.int kl, .ref pa, .ref pb, .ref pc])) := .new hpm
      have dM : DAt (upd H5' pm (.tup [.int kl, .ref pa, .ref pb, .ref pc])) (.ref pm) (Mill.d ⟨kl, ns, tl0, es⟩) := .mk4 upd_same (.int _) (dn3.ext z4) (dt3.ext z4) (de.ext z4)
      have hW6 := z4.lst hW5
      have z4 := z3.trans z4
      generalize upd H5' pm (.tup [.int kl, .ref pa, .ref pb, .ref pc]) = H6' at z4 dM hW6 ⊢
      refine ⟨_, rfl, pw, _, rfl, .inl ⟨SqL.of hW6, fun pv hpv => ⟨(by show 2 ≤ sizeLine; decide), fun pz hpz => ?_⟩⟩⟩
      have z5 : Ext [] [] H6' (upd H6' pv (.tup (ws.map V.str))) := .new hpv
      have z6 : Ext [] [] (upd H6' pv (.tup (ws.map V.str))) (upd (upd H6' pv (.tup (ws.map V.str))) pz (.tup [.ref pm, .ref pv])) := .new hpz
      refine q _ _ (((X2.trans z4).trans z5).trans z6) ?_
      rw [hq0, hq]
      exact .mk2 upd_same ((dM.ext z5).ext z6) (DAt.ext z6 (.ofAll upd_same allD_str))
end
end ML
set_option maxHeartbeats 4000000
namespace ML
open PySem PySem.Spec PyProof.Rows L2 TL Gn
/-! ### try: .. / except a as n: .. / except b: .. -/
section
variable {X : Cx} {x1 x2 n : Str} {c1 c2 : Value} {i : Nat} {body su1 su2 : List Stmt} {b1 b2 : Stmt} {np1 np2 pos pos1 pos2 : Pos} {tb : WX → TS} {ts1 ts2 : Addr → Value → Option Addr → TS} {Wout : WX}
/-- what both clauses wish -/
def wTwo (K : PySem.W.Frag) (c1 c2 : Value) (i : Nat) (ts1 ts2 : Addr → Value → Option Addr → TS) (Wout : WX) (D : Ends) : WX := wAs K c1 i ts1 (wMany K Wout D [(c2, ts2)]) D
theorem ps_try_two (hs : X.stack = X.env :: X.outer) (hf : X.env.frame = some X.env.locals) (hN : X.N.Nodup) (hi : X.N[i]? = some n) (hln : X.env.kindOf n = some .local) (hc1 : Names X x1 c1) (hc2 : Names X x2 c2) (tk : Takes X Wout)
    (hb : ∀ (W : WX) (pn : List (Addr × Obj)) (xe : Value → Shared → Prop), Takes (X.tr pn xe) W → PassesOwn (model X.prog X.w) X.A X.env xe → PSs (X.tr pn xe) body (tb W))
    (h1 : ∀ (a : Addr) (oe : Obj) (cls : Value) (d : Option Addr) (pn : List (Addr × Obj)), Zc cls d oe → (∃ vs, oe.data = .fields vs) → PSs (X.suite a ((a, oe) :: pn)) (b1 :: su1) (ts1 a cls d))
    (h2 : ∀ (a : Addr) (oe : Obj) (cls : Value) (d : Option Addr) (pn : List (Addr × Obj)), Zc cls d oe → (∃ vs, oe.data = .fields vs) → PSs (X.suite a ((a, oe) :: pn)) (b2 :: su2) (ts2 a cls d)) :
    PS X (.Try body [.ExceptHandler (some (.Name x1 np1)) (some n) (b1 :: su1) pos1, .ExceptHandler (some (.Name x2 np2)) none (b2 :: su2) pos2] [] [] pos) (fun D σ H => tb (wTwo X.K c1 c2 i ts1 ts2 Wout D) D σ H) := by
  refine ⟨fun pins s0 σ0 H0 D I0 h => ?_⟩
  have ok := I0.ok
  have fr0 : X.A.frames = some (X.env :: X.outer) := by rw [ok.frames, hs]
  -- what a suite's end comes to, back in the def
  refine wpAny_Try_except (wpAny_mono ((hb (wTwo X.K c1 c2 i ts1 ts2 Wout D) (X.pn ++ pins) _ (fun u s' xx => ?_) PassesOwn.looking).run [] s0 σ0 H0 D (I0.toTry _) h) (fun f s1 hsp => ?_) (fun _ _ he => he))
  case refine_2 =>
    cases f with
    | next => obtain ⟨σe, He, Je, qe⟩ := hsp; exact wpAny_execs_nil ⟨σe, He, Je.ofTry ok, qe⟩
    | brk => obtain ⟨σe, He, Je, qe⟩ := hsp; exact ⟨σe, He, Je.ofTry ok, qe⟩
    | cont => obtain ⟨σe, He, Je, qe⟩ := hsp; exact ⟨σe, He, Je.ofTry ok, qe⟩
    | ret u => obtain ⟨ve, σe, He, Je, re, qe⟩ := hsp; exact ⟨ve, σe, He, Je.ofTry ok, re, qe⟩
  obtain ⟨a, B, sI, _, σ, H, cls, d, rfl, Jt, nb, up, sky, na, os, ag, w1⟩ := xx
  have J : Inv X pins σ H sI := Jt.ofTry ok
  rw [show (X.tr (X.pn ++ pins) _).stack = X.stack from rfl, hs] at sky
  show wpAny (model X.prog X.w) X.A (noteFrame (.ref a) X.env) _ _ _
  refine Sky.land Zc.steady fr0 hf sky fun h3 fl up3 => ?_
  have up13 := up.trans up3
  have J3 : Inv X pins σ H { s' with heap := h3 } := J.landed nb fl.1 up13 os ag
  obtain ⟨oe, vs, he, hz, hd⟩ := fl.there
  have away : a ∉ frs (X.env :: X.outer) := fun hm => by
    obtain ⟨_, o', e', hnf⟩ := fl.2.2.1.mem hm
    rw [he] at e'
    cases e'
    exact hnf _ hd
  have nL : a ≠ X.env.locals := fun z => away (List.mem_filterMap.mpr ⟨X.env, List.mem_cons_self, by rw [hf, z]⟩)
  have nF : a ∉ X.fs := fun hm => by
    obtain ⟨e, he, q⟩ := List.mem_filterMap.mp hm
    exact away (List.mem_filterMap.mpr ⟨e, List.mem_cons_of_mem _ he, q⟩)
  have S3 := J3.suite he hd na nL nF
  have asks : ∀ {y : Str} {c : Value} {p : Pos} {Q : Value → Shared → Prop} {E : Value → Shared → Prop}, Names X y c → Q c { s' with heap := h3 } → wpAny (model X.prog X.w) (X.A.mark (some (.ref a))) (eval (.Name y p) X.env) Q E { s' with heap := h3 } := fun {y c p Q E} hc q => by
    obtain ⟨g1, g2, m | ⟨m, v, nn⟩⟩ := hc
    · exact ld_glob (X := X.suite a ((a, oe) :: (X.pn ++ pins))) S3 g1 m q g2
    · exact ld_blt (X := X.suite a ((a, oe) :: (X.pn ++ pins))) S3 g1 m v q nn g2
  have kind : PySem.W.Looks (model X.prog X.w) h3 (typeOf (.ref a)) cls := fun A Q E s k q => wpAny_typeOf_ref (k _ _ he) (by rw [hz.1]; exact q)
  obtain ⟨t1, e1, y1, n1⟩ := w1
  refine wpAny_handleBy_cons (codeAny_handlers_test (asks hc1 ((PySem.W.exm_one (M := model X.prog X.w) J3.kIn kind e1).here ?_))) (by intro q; cases q)
  cases t1 with
  | true =>
    refine codeAny_handlers_suite_as (HandSPX.lands_againZ fl fun h4 fl4 up4 => ?_)
    have J4 : Inv X pins σ H { s' with heap := h4 } := J.landed nb fl4.1 (up13.trans up4) os ag
    obtain ⟨o4, v4, he4, hz4, hd4⟩ := fl4.there
    refine store_ok (X := X.suite a ((a, o4) :: (X.pn ++ pins))) (v := .ref a) (J4.suite he4 hd4 na nL nF) hN hi (.inl hln) rfl (fun s5 S5 => ?_) (.inr hln)
    refine wpAny_mono ((h1 a o4 cls d (X.pn ++ pins) hz4 ⟨_, hd4⟩).run [] s5 _ H _ S5 (y1 rfl a na)) (fun f s6 hsp => ?_) (fun _ _ z => z.elim)
    cases f with
    | next => obtain ⟨σe, He, Je, qe⟩ := hsp; exact gone_ok (Je.unsuite ok) hN hi hln fun s7 J7 => ⟨_, _, J7, qe⟩
    | brk => obtain ⟨σe, He, Je, qe⟩ := hsp; exact gone_ok (Je.unsuite ok) hN hi hln fun s7 J7 => ⟨_, _, J7, qe⟩
    | cont => obtain ⟨σe, He, Je, qe⟩ := hsp; exact gone_ok (Je.unsuite ok) hN hi hln fun s7 J7 => ⟨_, _, J7, qe⟩
    | ret u => obtain ⟨ve, σe, He, Je, re, qe⟩ := hsp; exact gone_ok (Je.unsuite ok) hN hi hln fun s7 J7 => ⟨_, _, _, J7, re, qe⟩
  | false =>
    obtain ⟨t2, e2, y2, n2⟩ := n1 rfl
    show wpAny _ X.A (handleBy (.ref a) X.env [_]) _ _ _
    refine wpAny_handleBy_cons (codeAny_handlers_test (asks hc2 ((PySem.W.exm_one (M := model X.prog X.w) J3.kIn kind e2).here ?_))) (by intro q; cases q)
    cases t2 with
    | true =>
      refine codeAny_handlers_suite (HandSPX.lands_againZ fl fun h4 fl4 up4 => ?_)
      have J4 : Inv X pins σ H { s' with heap := h4 } := J.landed nb fl4.1 (up13.trans up4) os ag
      obtain ⟨o4, v4, he4, hz4, hd4⟩ := fl4.there
      refine wpAny_mono ((h2 a o4 cls d (X.pn ++ pins) hz4 ⟨_, hd4⟩).run [] _ _ H _ (J4.suite he4 hd4 na nL nF) (y2 rfl a na)) (fun f s6 hsp => ?_) (fun _ _ z => z.elim)
      cases f with
      | next => obtain ⟨σe, He, Je, qe⟩ := hsp; exact ⟨_, _, Je.unsuite ok, qe⟩
      | brk => obtain ⟨σe, He, Je, qe⟩ := hsp; exact ⟨_, _, Je.unsuite ok, qe⟩
      | cont => obtain ⟨σe, He, Je, qe⟩ := hsp; exact ⟨_, _, Je.unsuite ok, qe⟩
      | ret u => obtain ⟨ve, σe, He, Je, re, qe⟩ := hsp; exact ⟨_, _, _, Je.unsuite ok, re, qe⟩
    | false =>
      refine wpAny_handleBy_nil ?_
      obtain ⟨k1, k2, k3, oe5, vs5, T5, oT5, ts5, he5, hz5, hd5, hT5, hr5⟩ := id fl
      have out : wpAny (model X.prog X.w) X.A (setFlight (.ref a) X.env.frame) (fun _ s4 => wpAny (model X.prog X.w) X.A (throw (.ref a) : Sem Flow) (SP X pins D) X.xe s4) X.xe { s' with heap := h3 } := by
        rw [hf]
        refine HandSPX.setFlight_upZ fl fun h4 hh4 up4 => wpAny_throw (tk _ _ ⟨a, B, sI, pins, σ, H, cls, d, rfl, J, nb, up13.trans up4, .inr (.inr (by rw [hs]; exact hh4)), na, os, ag, n2 rfl⟩)
      unfold PySem.passOn
      refine wpAny_bind (wpAny_field he5 hd5 hT5 ?_)
      rw [if_neg (show ¬ ((Value.ref T5 == Value.none) = true) by simp)]
      first
        | exact wpAny_bind (wpAny_pure (wpAny_bind out))
        | exact wpAny_bind out
end
/-! ### a lambda without parameters, made where tables of other defs stand -/
section
variable {X : Cx} {pins : List (Addr × Obj)} {σ : L2.St} {H : Hp} {s : Shared}
abbrev lamO (X : Cx) (params : Arguments) (body : Expr) (scope : Scope) (pm : Value) (c' : Addr) (ctv : Value) : Obj := PySem.W.kla_obj "<lambda>" (X.env.qual ++ "<lambda>") params body scope (cloFrom X.env.cells scope.names []) pm c' ctv
theorem lam_new {c P : Addr} {params : Arguments} {body : Expr} {scope : Scope} {pos : Pos} {E : Value → Shared → Prop} {Q : Value → Shared → Prop} (I : Inv X pins σ H s) (TB : LamX.TabB X.base X.mg c P) (hcode : X.env.code = .ref c)
    (hT : LamX.TabS H P (X.env.qual ++ "<lambda>")) (hdef : defaultsOf params X.env = ([], [])) (hfree : ∀ y ∈ scope.names, y.2 = .free → ∃ c, X.env.cells.lookup y.1 = some c)
    (h : ∀ (f c' : Addr) (pm ctv : Value) (H1 : Hp) (s' : Shared), Inv X pins σ H1 s' → Ext [P] [] H H1 → LamX.TabS H1 P (X.env.qual ++ "<lambda>") →
      s'.heap.get? f = some (lamO X params body scope pm c' ctv) → H1 f = none → f ∉ frs X.stack → H1 c' = some (LamX.CodeO c' (X.env.qual ++ "<lambda>")) → Q (.ref f) s') :
    wpAny (model X.prog X.w) X.A (eval (.Lambda params body scope pos) X.env) Q E s := by
  obtain ⟨ps, hP, ok3, names⟩ := hT
  have hPs : s.heap.get? P = some { cls := .none, data := .fields ps } := I.hok P _ hP
  have bP : s.heap.BuiltinsAt X.mg P := TB.bm.keeps I.bk
  have nofr : ∀ f, s.heap.objs.size ≤ f → f ∉ frs X.stack := fun f hf z => by
    rcases List.mem_cons.mp (I.stkSub _ z) with e | e
    · have hlt := I.lt
      rw [← e] at hlt
      exact absurd hlt (Nat.not_lt_of_le hf)
    · exact I.nofs hf e
  refine PySem.W.kla_eval hdef ?_
  cases hc : codeAmong pos ps.toList with
  | some cv =>
    obtain ⟨c', rfl, hco⟩ := names pos cv hc
    refine PySem.W.kla_makeFunctionHit (mg := X.mg) (c := c) (P := P) (ps := ps) (closure_ok hfree) I.ok.glob (I.mod.glob.keeps I.bk) hcode (TB.code.keeps I.bk) hPs ok3 hc bP fun ctv h' tk hx hsz => ?_
    exact h h'.objs.size c' ((X.mg "__name__").getD .none) ctv H _ (I.kept (t' := tk) (h' := h'.push (lamO X params body scope ((X.mg "__name__").getD .none) c' ctv)) fun b o e => Heap.get?_push_of_some _ (hx b o e)) .refl ⟨ps, hP, ok3, names⟩
      (Heap.get?_push_size _ rfl) (I.hok.fresh hsz) (nofr _ hsz) hco
  | none =>
    refine PySem.W.kla_makeFunction (mg := X.mg) (c := c) (P := P) (ps := ps) (closure_ok hfree) I.ok.glob (I.mod.glob.keeps I.bk) hcode (TB.code.keeps I.bk) hPs ok3 hc TB.gP bP fun c' ctv h' tk hx hge hlt hrec htb => ?_
    obtain ⟨c2, oc, vs, t, e2, hoc, hd, hv⟩ := hrec
    cases e2
    have hsz : s.heap.objs.size ≤ h'.objs.size := Nat.le_trans hge (Nat.le_of_lt hlt)
    have nC : H c' = none := I.hok.fresh hge
    have nPc : P ≠ c' := ne_of_none hP nC
    have I1 := LamX.inv_table (t' := tk) (more := #[rawInt pos.line, rawInt pos.col, .ref c']) (h' := h'.push (lamO X params body scope ((X.mg "__name__").getD .none) c' ctv)) I hP
      (fun b o hb e => Heap.get?_push_of_some _ (hx b o hb e)) (Heap.get?_push_of_some _ htb) hge ⟨oc, vs, t, Heap.get?_push_of_some _ hoc, hd, hv⟩
    have eL : (ps ++ #[rawInt pos.line, rawInt pos.col, .ref c']).toList = ps.toList ++ [rawInt pos.line, rawInt pos.col, .ref c'] := by simp
    have ok4 : TriplesOk (ps ++ #[rawInt pos.line, rawInt pos.col, .ref c']).toList := by
      rw [eL]
      exact PySem.TriplesOk_snoc _ _ _ _ ok3
    have xT : Ext [P] [] H (upd H P (.tbl (ps ++ #[rawInt pos.line, rawInt pos.col, .ref c']))) := Ext.tabbed ⟨⟨_, upd_same, ok4⟩, fun b hb => upd_ne hb⟩ ⟨ps, hP, ok3⟩ (by simp)
    have nC2 : upd H P (.tbl (ps ++ #[rawInt pos.line, rawInt pos.col, .ref c'])) c' = none := by
      rw [upd_ne (Ne.symm nPc)]
      exact nC
    have x1 : Ext [P] [] H (upd (upd H P (.tbl (ps ++ #[rawInt pos.line, rawInt pos.col, .ref c']))) c' (LamX.CodeO c' (X.env.qual ++ "<lambda>"))) := xT.trans (.new nC2)
    refine h h'.objs.size c' ((X.mg "__name__").getD .none) ctv _ _ I1 x1 ⟨_, by rw [upd_ne nPc, upd_same], ok4, fun p' cv hcv => ?_⟩ (Heap.get?_push_size _ rfl) ?_ (nofr _ hsz) upd_same
    · rw [eL] at hcv
      rcases LamX.among_app _ ok3 hcv with z | z
      · obtain ⟨c0, e1, e2⟩ := names p' cv z
        exact ⟨c0, e1, x1.keep _ _ e2 LamX.codeO_ne (by simp)⟩
      · exact ⟨c', z, upd_same⟩
    · rw [upd_ne (Nat.ne_of_gt hlt), upd_ne (Nat.ne_of_gt (Nat.lt_of_lt_of_le (Heap.lt_size hPs) hsz))]
      exact I.hok.fresh hsz
/-- x(lambda: body): the table at P tells lambdas of the name q -/
def tLam2 (P : Addr) (q : Str) (TT : (XK → Hp → VK → Prop) → Hp → VK → Prop) (t : XK → TE) : TE := fun σ H Q => LamX.TabS H P q ∧ ∀ H1, Ext [P] [] H H1 → LamX.TabS H1 P q → TT (fun E H' Q' => t E σ H' Q') H1 Q
theorem pe_lam {TT : (XK → Hp → VK → Prop) → Hp → VK → Prop} {x a : Str} {g c cg P : Addr} {gd : FuncData} {k : Nat} {stg : Stmt} {Ng : List Str} {params : Arguments} {body : Expr} {scope : Scope} {t : XK → TE} {p lpos pos : Pos} (hg : Gl X x) (hm : X.mg x = some (.ref g))
    (Fg : FunC X.K x x stg g gd cg) (hb : L2.Binds X.K gd [a] []) (Sg : FnScope Ng [a] (defScope stg)) (hNg : Ng[0]? = some a) (hva : Vis (defScope stg) a) (hG : LamX.GivesTo X Ng x (defScope stg) g (.ref cg) (defBody stg) a (X.env.qual ++ "<lambda>") TT)
    (TB : LamX.TabB X.base X.mg c P) (hcode : X.env.code = .ref c) (hr : Room (k + 2) X.A) (L : LamX.LamS X.env.scope scope) (hdef : defaultsOf params X.env = ([], []))
    (hbind : ∀ (q : Str) (cl : List (Str × Addr)) (pm cv ctv : Value), bindArgs (PySem.W.kla_fn "<lambda>" q params body scope cl pm cv ctv) ⟨[], []⟩ = pure [])
    (hbody : ∀ (A : Around) (outer : List Env) (s : Shared) (H : Hp) (E : XK) (f c' : Addr), Room k (A.deeper (LamX.lamEnv X scope s.heap.objs.size f c')) → PE (LamX.lamCx X A outer s H E scope f c') body (t E))
    (hdb : (x == ("__debug__" : Str)) = false := by decide) (hd : (a == ("__debug__" : Str)) = false := by decide) (hcd : (a == ("__classdict__" : Str)) = false := by decide) :
    PE X (.Call (.Name x p) [.Lambda params body scope lpos] [] pos) (tLam2 P (X.env.qual ++ "<lambda>") TT t) := by
  obtain ⟨oc, od, kV, doc, pm0, an, ct, osl, rfl, lk, hcg⟩ := Fg.ex
  refine ⟨fun pins s σ H Q I ⟨hT, h⟩ => wpAny_Call_Name_kw (ld_glob I hg hm (PySem.W.callWith_K (h₀ := X.base) I.ok.mod.kin Fg.kp ?_ (by rfl) (by rfl)) hdb)⟩
  show wpAny _ _ (spliced ((false, eval (.Lambda params body scope lpos) X.env) :: backTo pos (starEach [] X.env))) _ _ s
  refine Calls.spliced_cons (lam_new I TB hcode hT hdef (L.has I.ok) fun f c' pm ctv H1 s1 I1 x1 T1 hf hfn hfr hco => Calls.spliced_nil ⟨I1.kIn, ?_⟩)
  have called : codeAny (model X.prog X.w) X.A (.call (.ref g) ⟨[.ref f], []⟩) (CR C8.CX0 X.stack X.prog X.w H1 s1 Q C8.E0) s1 := LamX.run_ofS (k := k + 1) (N := Ng) (ps := [a]) (us := [.ref f]) (vs := [.ref f]) lk hcg Sg hr I1.env0 (hb s1 [.ref f] I1.kIn rfl) (.cons rfl .nil) rfl fun hr' => by
    obtain ⟨t', ht, hq⟩ := hG f c' s1 H1 Q (fun E H' Q' => t E σ H' Q') (fun W pn xe E p1 p2 tk hW => LamX.pe_act (i := 0) I1 L hf hfn hfr (hbind _ _ _ _ _) tk hW hr' (fun A outer s H hr2 => hbody A outer s H E f c' hr2) hNg hva hd hcd) hco (h H1 x1 T1)
    exact ⟨t', ht.nox, hq⟩
  refine wpAny_call (codeAny_mono called fun r s2 hq => ?_)
  match r, hq with
  | .ok (.ret u), hq => exact I1.after hq
  | .ok .next, hq => exact hq.elim
  | .ok .brk, hq => exact hq.elim
  | .ok .cont, hq => exact hq.elim
  | .error e, hq => exact (show False from hq).elim
end
/-! ### _law_told_by -/
def TTold2 (K : PySem.W.Frag) (CT CW : Addr) : (XK → Hp → VK → Prop) → Hp → VK → Prop := fun tl H Q =>
  tl (fun cls d H' => ∃ b, PySem.W.exmOne K cls (.ref CT) = some b ∧ (b = true → cls = .ref CT ∧ ∃ (dd : Addr) (fs : List (Str × V)) (v : V), d = some dd ∧ H' dd = some (.xd fs) ∧ fs.lookup ("line" : Str) = some v ∧ Q v H') ∧
    (b = false → ∃ b2, PySem.W.exmOne K cls (.ref CW) = some b2 ∧ (b2 = true → Q (.str "words") H') ∧ (b2 = false → False))) H Q
theorem takes_len {X : Cx} {W W' : WX} (tk : Takes X W) (h : ∀ cls d σ H, σ.length = X.N.length → W' cls d σ H → W cls d σ H) : Takes X W' := fun u s' ⟨a, B, sI, pins, σ, H, cls, d, e, I, nb, up, sky, na, os, ag, w⟩ =>
  tk u s' ⟨a, B, sI, pins, σ, H, cls, d, e, I, nb, up, sky, na, os, ag, h _ _ _ _ I.len w⟩
theorem told_two {X : Cx} {g cg CT CW : Addr} {q : Str} (mT : X.mg "BadText" = some (.ref CT)) (mW : X.mg "BadWords" = some (.ref CW)) (xf : XfC X.K CT) (nl : PySem.W.findIn X.K (.ref CT) "line" = some none) :
    LamX.GivesTo X nLToldBy "_law_told_by" (defScope sLToldBy) g (.ref cg) (defBody sLToldBy) "_law_work" q (TTold2 X.K CT CW) := by
  intro f c' s H Q tl act hc h
  refine ⟨_, pss_one (ps_try_two (X := (cxOf C8.CX0 X.prog X.w X.K X.mg X.base nLToldBy "_law_told_by" (defScope sLToldBy) g (.ref cg) X.A X.stack s H C8.E0).nox) (c1 := .ref CT) (c2 := .ref CW) (i := 1)
      (tb := fun W D σ H => ∃ Ech : XK, (∀ cls d σ' H', σ'.length = 2 → Ech cls d H' → W cls d σ' H') ∧ σ[0]? = some (some (.ref f)) ∧ H c' = some (LamX.CodeO c' q) ∧ tl Ech H D.rt)
      rfl rfl scLToldBy.nd rfl rfl ⟨rfl, rfl, .inl mT⟩ ⟨rfl, rfl, .inl mW⟩ LamX.takes0 (fun W pn xe tk _ => ?_) (fun a oe cls d pn hz hf => pss_one (ps_ret (pe_xf (C := CT) xf nl hz hf (pv 1)))) (fun a oe cls d pn _ _ => pss_one (ps_ret pe_str))), ?_⟩
  · refine ⟨fun pins s' σ H' D I h' => ?_⟩
    obtain ⟨Ech, hW, h1, h2, h3⟩ := h'
    refine L2.PSs.run (pss_one (ps_ret (act (fun cls d _ H => Ech cls d H) pn xe Ech _ _ ?_ (fun _ _ _ _ hE => hE)))) pins s' σ H' D I ⟨h1, h2, h3⟩
    exact takes_len tk fun cls d σ H hl hE => hW cls d σ H hl hE
  · refine ⟨_, fun cls d σ' H' hl hE => ?_, rfl, hc, h⟩
    obtain ⟨b, e1, e2, e3⟩ := hE
    refine ⟨b, e1, fun hb a na => ?_, fun hb => ?_⟩
    · obtain ⟨ec, dd, fs, v, ed, ex, el, hq⟩ := e2 hb
      refine ⟨_, ?_, rfl, ec, dd, fs, v, ed, ex, el, hq⟩
      match σ', hl with
      | [u, v], _ => rfl
    · obtain ⟨b2, f1, f2, f3⟩ := e3 hb
      exact ⟨b2, f1, fun hb a _ => f2 hb, fun hb => f3 hb⟩
end ML
set_option maxHeartbeats 4000000
namespace ML
open PySem PySem.Spec PyProof.Rows L2 TL Gn
/-! ### data that the law compares -/
theorem DOk.up {n : Nat} {d : D} (h : DOk n d) : DOk (n + 1) d := by
  induction h with
  | int n i => exact .int _ _
  | str n s => exact .str _ _
  | tup h hs ih => exact .tup h ih
theorem DOk.le {n m : Nat} {d : D} (h : DOk n d) (l : n ≤ m) : DOk m d := by
  obtain ⟨k, rfl⟩ := Nat.exists_eq_add_of_le l
  induction k with
  | zero => exact h
  | succ k ih => exact (ih (by omega)).up
theorem dok2 {n : Nat} {a b : D} (ha : DOk n a) (hb : DOk n b) : DOk (n + 1) (.tup [a, b]) := .tup (by show 2 ≤ 1000; decide) fun d hd => by
  rcases List.mem_cons.mp hd with rfl | hd
  · exact ha
  · rw [List.mem_singleton.mp hd]; exact hb
theorem dok3 {n : Nat} {a b c : D} (ha : DOk n a) (hb : DOk n b) (hc : DOk n c) : DOk (n + 1) (.tup [a, b, c]) := .tup (by show 3 ≤ 1000; decide) fun d hd => by
  rcases List.mem_cons.mp hd with rfl | hd
  · exact ha
  · rcases List.mem_cons.mp hd with rfl | hd
    · exact hb
    · rw [List.mem_singleton.mp hd]; exact hc
theorem dok4 {n : Nat} {a b c e : D} (ha : DOk n a) (hb : DOk n b) (hc : DOk n c) (he : DOk n e) : DOk (n + 1) (.tup [a, b, c, e]) := .tup (by show 4 ≤ 1000; decide) fun d hd => by
  rcases List.mem_cons.mp hd with rfl | hd
  · exact ha
  · rcases List.mem_cons.mp hd with rfl | hd
    · exact hb
    · rcases List.mem_cons.mp hd with rfl | hd
      · exact hc
      · rw [List.mem_singleton.mp hd]; exact he
theorem dok_tm : ∀ t : Tm, DOk (t.deep + 1) t.d
  | .inn o => dok2 (.str _ _) (.int _ _)
  | .ofn n o => dok3 (.str _ _) (.int _ _) (.int _ _)
  | .isc c => dok2 (.str _ _) (.int _ _)
  | .rst a c => dok3 (.str _ _) (dok_tm a) (.int _ _)
  | .pck a b c => dok4 (.str _ _) ((dok_tm a).le (by show a.deep + 1 ≤ max a.deep (max b.deep c.deep) + 1; omega)) ((dok_tm b).le (by show b.deep + 1 ≤ max a.deep (max b.deep c.deep) + 1; omega)) ((dok_tm c).le (by show c.deep + 1 ≤ max a.deep (max b.deep c.deep) + 1; omega))
  | .bin op a b => dok3 (.str _ _) ((dok_tm a).le (by show a.deep + 1 ≤ max a.deep b.deep + 1; omega)) ((dok_tm b).le (by show b.deep + 1 ≤ max a.deep b.deep + 1; omega))
theorem dok_map {α : Type} {n : Nat} {l : List α} {f : α → D} (hl : l.length ≤ 1000) (h : ∀ a ∈ l, DOk n (f a)) : DOk (n + 1) (.tup (l.map f)) := .tup (by rw [List.length_map]; exact hl) fun d hd => by
  obtain ⟨a, ha, rfl⟩ := List.mem_map.mp hd
  exact h a ha
theorem dok_mill {m : Mill} (ok : m.ok) : DOk 9 m.d := by
  refine dok4 (.int _ _) (dok_map (by have := ok.names.few; omega) fun n hn => (dok2 (n := 6) (.int _ _) (.int _ _))) (dok_map (by have := ok.told.few; omega) fun n hn => .int _ _) (dok_map (by have := ok.few; omega) fun e he => dok2 (n := 6) ?_ ?_)
  · have := (ok.deep e he).1
    exact (dok_tm e.1).le (by omega)
  · have := (ok.deep e he).2
    exact (dok_tm e.2).le (by omega)
theorem dok_words {ws : List Str} (h : ws.length ≤ 3) : DOk 9 (wordsD ws) := dok_map (by omega) fun z _ => .str _ _
theorem rest_ok {kl : Nat} (h1 : 1 ≤ kl) (h2 : kl ≤ 3) : ∀ (ls : List (List Nat)) (k : Nat) (ws : List Str) (ns : List (Nat × Nat)) (m : Mill) (ws' : List Str), restOfF kl k ls ws ns = .inr (m, ws') → ws.length = ns.length → ws.length ≤ 3 → (∀ n ∈ ns, 2 ≤ n.1 ∧ n.1 ≤ 3 ∧ n.2 < n.1) → m.ok ∧ ws'.length ≤ 3
  | [], k, ws, ns, m, ws', h, _, _, _ => by cases k <;> cases h
  | l :: r, k, ws, ns, m, ws', h, hl, h3, hn => by
    have e : restOfF kl k (l :: r) ws ns = if nameP l then (match nameF ws l with
      | none => .inl k
      | some (w, v, f) => if ws.length = 3 then .inl k else restOfF kl (k + 1) r (ws ++ [w]) (ns ++ [(v, f)]))
      else if ws = [] then .inl k else match toldF ws l with
        | none => .inl k
        | some told => match eqsF ws (k + 1) r [] with
          | .inl j => .inl j
          | .inr es => .inr (⟨kl, ns, told, es⟩, ws) := rfl
    rw [e] at h
    split at h
    · split at h
      · cases h
      · rename_i w v f hnm
        split at h
        · cases h
        · rename_i n3
          obtain ⟨a1, a2, a3, a4, a5⟩ := name_some hnm
          refine rest_ok h1 h2 r (k + 1) _ _ m ws' h (by rw [List.length_append, List.length_append, hl]; rfl) (by rw [List.length_append]; show ws.length + 1 ≤ 3; omega) fun n hn' => ?_
          rcases List.mem_append.mp hn' with z | z
          · exact hn n z
          · rw [List.mem_singleton.mp z]; exact ⟨a3, a4, a5⟩
    · split at h
      · cases h
      · rename_i hw0
        split at h
        · cases h
        · rename_i told ht
          split at h
          · cases h
          · rename_i es hes
            cases h
            have hts := told_some ht h3
            have hes := eqs_some hes (by decide) (by simp)
            have hn1 : 1 ≤ ns.length := by
              rw [← hl]
              cases ws with
              | nil => exact absurd rfl hw0
              | cons a b => exact Nat.succ_le_succ (Nat.zero_le _)
            rw [hl] at hts hes
            exact ⟨⟨⟨h1, h2⟩, ⟨hn1, by show ns.length ≤ 3; omega, hn⟩, hts, fun e he => ⟨(hes.2 e he).1, (hes.2 e he).2.1⟩, hes.1, fun e he => (hes.2 e he).2.2⟩, h3⟩
theorem lettersF_in {h : List Nat} {k : Nat} (e : lettersF h = some k) : 1 ≤ k ∧ k ≤ 3 := by
  rcases letters_in h with ⟨k', k1, k3, hk, _⟩ | ⟨hn, _⟩
  · rw [hk] at e
    cases e
    exact ⟨k1, k3⟩
  · rw [hn] at e
    cases e
theorem read_ok {l : List Nat} {m : Mill} {ws : List Str} (h : readF l = .inr (m, ws)) : m.ok ∧ ws.length ≤ 3 := by
  unfold readF at h
  split at h
  · cases h
  · split at h
    · cases h
    · split at h
      · cases h
      · split at h
        · cases h
        · rename_i hk
          obtain ⟨k1, k2⟩ : 1 ≤ _ ∧ _ ≤ 3 := lettersF_in hk
          exact rest_ok k1 k2 _ _ _ _ _ _ h rfl (by decide) (by simp)
theorem dok_res (l : List Nat) : DOk 10 (resD (readF l)) := by
  cases e : readF l with
  | inl k => exact .int _ _
  | inr x =>
    obtain ⟨m, ws⟩ := x
    obtain ⟨h1, h2⟩ := read_ok e
    exact dok2 (dok_mill h1) (dok_words h2)
end ML
set_option maxHeartbeats 4000000
namespace ML
open PySem PySem.Spec PyProof.Rows L2 TL Gn
/-! ### what stands around the law; a text told and read -/
section
variable {GT GT' M : List Addr} {H H1 : Hp} {PL : Addr} {q : Str}
theorem Ext.grow (x : Ext GT M H H1) (h : ∀ p ∈ GT, p ∈ GT') : Ext GT' M H H1 := ⟨x.keep, x.tups, fun p hp t => by
  by_cases hg : p ∈ GT
  · exact x.tabs p hg t
  · obtain ⟨ps, e, t⟩ := t
    exact ⟨ps, x.oth p ps e hg, t⟩, fun b ps e n => x.oth b ps e fun z => n (h b z), x.dom⟩
theorem tabs_go (t : LamX.TabS H PL q) (x : Ext GT M H H1) (n : PL ∉ GT) (hM : ∀ b ∈ M, ∃ xs, H b = some (.lst xs)) : LamX.TabS H1 PL q := by
  obtain ⟨ps, e, ok, nm⟩ := t
  refine ⟨ps, x.oth PL ps e n, ok, fun pos cv hc => ?_⟩
  obtain ⟨c, e1, e2⟩ := nm pos cv hc
  refine ⟨c, e1, x.keep c _ e2 LamX.codeO_ne fun z => ?_⟩
  obtain ⟨xs, e3⟩ := hM c z
  rw [e2] at e3
  unfold LamX.CodeO at e3
  cases e3
theorem tbs_go (t : Tbs GT H) (x : Ext [PL] [] H H1) (n : PL ∉ GT) : Tbs GT H1 := fun p hp => by
  obtain ⟨ps, e, ok⟩ := t p hp
  exact ⟨ps, x.oth p ps e fun z => n (by rw [List.mem_singleton] at z; rw [← z]; exact hp), ok⟩
end
structure LawC (P : Program) (w : World) (K : PySem.W.Frag) (mg : Str → Option Value) (base : Heap) (GT : List Addr) (cL PL CT CW : Addr) : Prop where
  T : Bl mg
  taken : Cal P w K mg base 1 "_law_taken" pLTaken (spTaken K)
  pick : Cal P w K mg base 2 "_law_pick" pLPick (spPick K)
  term : Cal P w K mg base 7 "_law_term" pLTerm (spDraw K 5)
  mill : Cal P w K mg base 5 "_law_mill" pLMill (spMill K)
  text : Cal P w K mg base 6 "_law_text" pLText (spW 5)
  loose : Cal P w K mg base 8 "_law_loose" pLLoose (spLoose K 5)
  alike : Cal P w K mg base 11 "_law_alike" pLAlike (spAlike 10)
  read : CalR P w K mg base (Rm 253) "_law_read" pLRead spLRead
  signs : Cal P w K mg base 1 "_law_signs" pLSigns spSigns
  rm : ∃ f fd, FnOk P w K mg base (L2.CX P w) 215 f fd pReadMill (spRm GT CT) ∧ mg "read_mill" = some (.ref f) ∧ Binds K fd pReadMill [] ∧ PySem.W.keepIn K (.ref f) = true
  wr : ∃ f fd, FnOk P w K mg base (L2.CX P w) 17 f fd pWritten (spWr GT CW) ∧ mg "written" = some (.ref f) ∧ Binds K fd pWritten [] ∧ PySem.W.keepIn K (.ref f) = true
  told : ∃ f fd c, FunC K "_law_told_by" "_law_told_by" sLToldBy f fd c ∧ mg "_law_told_by" = some (.ref f) ∧ Binds K fd ["_law_work"] []
  mT : mg "BadText" = some (.ref CT)
  mW : mg "BadWords" = some (.ref CW)
  xf : XfC K CT
  nl : PySem.W.findIn K (.ref CT) "line" = some none
  eTT : PySem.W.exmOne K (.ref CT) (.ref CT) = some true
  eWT : PySem.W.exmOne K (.ref CW) (.ref CT) = some false
  eWW : PySem.W.exmOne K (.ref CW) (.ref CW) = some true
  TB : LamX.TabB base mg cL PL
  nin : PL ∉ GT
section
variable {X : Cx} {K : PySem.W.Frag} {q : Str} {GT : List Addr} {cL PL CT CW : Addr} {params : Arguments} {scope : Scope} {i j : Nat} {x y : Str} {p p1 p2 p3 p4 lpos pos : Pos}
theorem lam_pass {A : Around} {outer : List Env} {s : Shared} {H : Hp} {E : XK} {f c' : Addr} : Passes (L2.CX X.prog X.w) (LamX.lamCx X A outer s H E scope f c') E := passes_call (X := LamX.lamCx X A outer s H E scope f c') (takes_of rfl rfl rfl rfl) fun _ _ _ _ h => h
/-- told_by(lambda: read_mill(x)) -/
theorem pe_toldR (L : LawC X.prog X.w X.K X.mg X.base GT cL PL CT CW) (hN : X.N[i]? = some x) (hr : Room 217 X.A) (hL : LamX.LamS X.env.scope scope) (hK : X.K = K := by rfl) (hq : X.env.qual ++ "<lambda>" = q := by rfl) (hg : Gl X "_law_told_by" := by rfl) (hcode : X.env.code = .ref cL := by rfl)
    (hv : scope.names.lookup x = some .free := by rfl) (hgr : scope.names.lookup ("read_mill" : Str) = some .globalImplicit := by rfl) (hdef : defaultsOf params X.env = ([], []) := by rfl)
    (hbind : ∀ (q : Str) (body : Expr) (cl : List (Str × Addr)) (pm cv ctv : Value), bindArgs (PySem.W.kla_fn "<lambda>" q params body scope cl pm cv ctv) ⟨[], []⟩ = pure [] := by intros; rfl) (hd : (x == ("__debug__" : Str)) = false := by decide) (hcd : (x == ("__classdict__" : Str)) = false := by decide) :
    PE X (.Call (.Name "_law_told_by" p) [.Lambda params (.Call (.Name "read_mill" p1) [.Name x p2] [] p3) scope lpos] [] pos) (tLam2 PL q (TTold2 K CT CW) (fun E => tCall (spRm GT CT) [] E (tCons (tVar i) tNil))) := by
  subst hK hq
  obtain ⟨g, gd, cg, Fg, mg0, bg⟩ := L.told
  obtain ⟨fr, fdr, Fr, mr, br, kr⟩ := L.rm
  exact pe_lam (k := 215) (Ng := nLToldBy) hg mg0 Fg bg scLToldBy rfl (.inl rfl) (told_two L.mT L.mW L.xf L.nl) L.TB hcode hr hL hdef (fun q cl pm cv ctv => hbind q _ cl pm cv ctv)
    (fun A outer s H E f c' hr2 => pe_call (X := LamX.lamCx X A outer s H E scope f c') Fr hr2 hgr mr kr br .nil lam_pass (pa_cons (pe_var (i := i) hN (.inr (.inr hv)) hd hcd) pa_nil))
/-- told_by(lambda: written(y, x)) -/
theorem pe_toldW (L : LawC X.prog X.w X.K X.mg X.base GT cL PL CT CW) (hN : X.N[i]? = some x) (hM : X.N[j]? = some y) (hr : Room 217 X.A) (hL : LamX.LamS X.env.scope scope) (hK : X.K = K := by rfl) (hq : X.env.qual ++ "<lambda>" = q := by rfl) (hg : Gl X "_law_told_by" := by rfl) (hcode : X.env.code = .ref cL := by rfl)
    (hv : scope.names.lookup x = some .free := by rfl) (hw : scope.names.lookup y = some .free := by rfl) (hgr : scope.names.lookup ("written" : Str) = some .globalImplicit := by rfl) (hdef : defaultsOf params X.env = ([], []) := by rfl)
    (hbind : ∀ (q : Str) (body : Expr) (cl : List (Str × Addr)) (pm cv ctv : Value), bindArgs (PySem.W.kla_fn "<lambda>" q params body scope cl pm cv ctv) ⟨[], []⟩ = pure [] := by intros; rfl) (hd : (x == ("__debug__" : Str)) = false := by decide) (hcd : (x == ("__classdict__" : Str)) = false := by decide)
    (hd2 : (y == ("__debug__" : Str)) = false := by decide) (hcd2 : (y == ("__classdict__" : Str)) = false := by decide) :
    PE X (.Call (.Name "_law_told_by" p) [.Lambda params (.Call (.Name "written" p1) [.Name y p2, .Name x p4] [] p3) scope lpos] [] pos) (tLam2 PL q (TTold2 K CT CW) (fun E => tCall (spWr GT CW) [] E (tCons (tVar j) (tCons (tVar i) tNil)))) := by
  subst hK hq
  obtain ⟨g, gd, cg, Fg, mg0, bg⟩ := L.told
  obtain ⟨fr, fdr, Fr, mr, br, kr⟩ := L.wr
  exact pe_lam (k := 215) (Ng := nLToldBy) hg mg0 Fg bg scLToldBy rfl (.inl rfl) (told_two L.mT L.mW L.xf L.nl) L.TB hcode hr hL hdef (fun q cl pm cv ctv => hbind q _ cl pm cv ctv)
    (fun A outer s H E f c' hr2 => pe_call (X := LamX.lamCx X A outer s H E scope f c') Fr (hr2.mono (by omega)) hgr mr kr br .nil lam_pass (pa_cons (pe_var (i := j) hM (.inr (.inr hw)) hd2 hcd2) (pa_cons (pe_var (i := i) hN (.inr (.inr hv)) hd hcd) pa_nil)))
end
/-! ### readings -/
/-- what the law hands to the readers -/
def InOk (v : V) : Prop := v = .non ∨ (∃ i, v = .int i) ∨ ∃ z : Str, v = .str z ∧ okS z ∧ z.length ≤ 90000 ∧ ∀ l ∈ splitC 10 (tl z), l.head? = some 116 → l.length ≤ 60
def dueD : V → D
  | .str z => resD (readF (tl z))
  | _ => .int 0
theorem dok_due (v : V) : DOk 10 (dueD v) := by
  cases v with
  | str z => exact dok_res _
  | _ => exact .int _ _
section
variable {P : Program} {w : World} {K : PySem.W.Frag} {mg : Str → Option Value} {base : Heap} {GT : List Addr} {cL PL CT CW : Addr} {q : Str} {i : Nat} {σ : L2.St} {H : Hp} {Q : VK} {v : V}
theorem rd_told (L : LawC P w K mg base GT cL PL CT CW) (hσ : σ[i]? = some (some v)) (hv : InOk v) (tt : Tbs GT H) (tb : LamX.TabS H PL q) (hq : ∀ u H', Ext (PL :: GT) [] H H' → LamX.TabS H' PL q → DAt H' u (dueD v) → Q u H') :
    tLam2 PL q (TTold2 K CT CW) (fun E => tCall (spRm GT CT) [] E (tCons (tVar i) tNil)) σ H Q := by
  refine ⟨tb, fun H1 x1 T1 => ?_⟩
  have go : ∀ H', Ext GT [] H1 H' → Ext (PL :: GT) [] H H' ∧ LamX.TabS H' PL q := fun H' x => ⟨(x1.grow (by simp)).trans (x.grow fun b hb => List.mem_cons_of_mem _ hb), tabs_go T1 x L.nin (by simp)⟩
  have bad : ∀ k : Int, dueD v = .int k → EBT GT CT k H1 (fun cls d H' => ∃ b, PySem.W.exmOne K cls (.ref CT) = some b ∧ (b = true → cls = .ref CT ∧ ∃ (dd : Addr) (fs : List (Str × V)) (v : V), d = some dd ∧ H' dd = some (.xd fs) ∧ fs.lookup ("line" : Str) = some v ∧ Q v H') ∧
    (b = false → ∃ b2, PySem.W.exmOne K cls (.ref CW) = some b2 ∧ (b2 = true → Q (.str "words") H') ∧ (b2 = false → False))) := fun k e d H' x e2 => by
    refine ⟨true, L.eTT, fun _ => ⟨rfl, d, _, .int k, rfl, e2, by simp [List.lookup], ?_⟩, fun z => by cases z⟩
    obtain ⟨y1, y2⟩ := go H' x
    exact hq _ _ y1 y2 (by rw [e]; exact .int _)
  refine ⟨v, hσ, v, rfl, tbs_go tt x1 L.nin, ?_⟩
  rcases hv with rfl | ⟨k, rfl⟩ | ⟨z, rfl, oz, zl, _⟩
  · exact .inl ⟨.inl rfl, bad 0 rfl⟩
  · exact .inl ⟨.inr ⟨k, rfl⟩, bad 0 rfl⟩
  · refine .inr ⟨z, rfl, oz, zl, fun k e => bad k (by show resD (readF (tl z)) = _; rw [e]; rfl), fun m ws e H' v' x d => ?_⟩
    obtain ⟨y1, y2⟩ := go H' x
    exact hq _ _ y1 y2 (by show DAt H' v' (resD (readF (tl z))); rw [e]; exact d)
/-- alike(told_by(lambda: read_mill(x)), read(x)) -/
theorem rd_same (L : LawC P w K mg base GT cL PL CT CW) (hσ : σ[i]? = some (some v)) (hv : InOk v) (tt : Tbs GT H) (tb : LamX.TabS H PL q) (hq : ∀ H', Ext (PL :: GT) [] H H' → LamX.TabS H' PL q → Q (.bl true) H') :
    tCall (spAlike 10) [] E0 (tCons (tLam2 PL q (TTold2 K CT CW) (fun E => tCall (spRm GT CT) [] E (tCons (tVar i) tNil))) (tCons (tCall spLRead [] E0 (tCons (tVar i) tNil)) tNil)) σ H Q := by
  refine rd_told L hσ hv tt tb fun u H1 x1 t1 d1 => ?_
  have fin : ∀ u2 H2, Ext [] [] H1 H2 → DAt H2 u2 (dueD v) → spAlike 10 [u, u2] H2 Q E0 := fun u2 H2 x2 d2 => ⟨u, u2, dueD v, rfl, dok_due v, d1.ext x2, d2, fun H3 x3 => by
    have x23 := x2.trans x3
    exact hq _ (x1.trans (x23.grow (by simp))) (tabs_go t1 x23 (by simp) (by simp))⟩
  refine ⟨v, hσ, v, rfl, ?_⟩
  rcases hv with rfl | ⟨k, rfl⟩ | ⟨z, rfl, oz, zl, hz⟩
  · exact .inl ⟨.inl rfl, fun H2 x2 => fin _ _ x2 (.int _)⟩
  · exact .inl ⟨.inr ⟨k, rfl⟩, fun H2 x2 => fin _ _ x2 (.int _)⟩
  · exact .inr ⟨z, rfl, oz, zl, hz, fun u2 H2 x2 d2 => fin _ _ x2 d2⟩
/-- told_by(lambda: written(m, x)), x no words that fit -/
theorem rd_words (L : LawC P w K mg base GT cL PL CT CW) {j : Nat} {vm : V} {m : Mill} (hσ : σ[i]? = some (some v)) (hj : σ[j]? = some (some vm)) (dm : DAt H vm m.d) (ok : m.ok) (hv : ∀ H', Ext [PL] [] H H' → BadW H' m.names.length v) (tt : Tbs GT H) (tb : LamX.TabS H PL q)
    (hq : ∀ H', Ext (PL :: GT) [] H H' → LamX.TabS H' PL q → Q (.str "words") H') : tLam2 PL q (TTold2 K CT CW) (fun E => tCall (spWr GT CW) [] E (tCons (tVar j) (tCons (tVar i) tNil))) σ H Q := by
  refine ⟨tb, fun H1 x1 T1 => ?_⟩
  refine ⟨vm, hj, v, hσ, vm, v, m, rfl, dm.ext x1, ok, tbs_go tt x1 L.nin, .inr ⟨hv H1 x1, fun H' x => ?_⟩⟩
  refine ⟨false, L.eWT, (fun z => by cases z), fun _ => ⟨true, L.eWW, fun _ => ?_, fun z => by cases z⟩⟩
  exact hq _ ((x1.grow (by simp)).trans (x.grow fun b hb => List.mem_cons_of_mem _ hb)) (tabs_go T1 x L.nin (by simp))
end
end ML
set_option maxHeartbeats 4000000
namespace ML
open PySem PySem.Spec PyProof.Rows L2 TL Gn
/-! ### a text, a tuple, so many times -/
theorem foldl_cps : ∀ (l : List (Array Nat)) (a : Array Nat), (l.foldl (· ++ ·) a).toList = a.toList ++ (l.map (·.toList)).flatten
  | [], a => by simp
  | b :: r, a => by
    rw [List.foldl_cons, foldl_cps r]
    simp
def repS (z : Str) (k : Nat) : Str := S (List.replicate k (tl z)).flatten
def rMulS : R2 := fun x y H Q => ∃ (z : Str) (k : Nat), x = .str z ∧ y = .int k ∧ 2 ≤ k ∧ k ≤ 1000 ∧ 1 ≤ z.length ∧ z.length ≤ 1000 ∧ Q (.str (repS z k)) H
section
variable {X : Cx}
theorem op_mul_str : OpR X (binaryOp .Mult) rMulS := by
  intro pins s σ H x y v u Q I rx ry h
  obtain ⟨z, k, rfl, rfl, k2, k1, z1, z2, q⟩ := h
  obtain ⟨t, rfl⟩ := rx
  obtain ⟨t', rfl⟩ := ry
  have h1 : (((k : Nat) : Int) == 1) = false := by
    rw [beq_eq_false_iff_ne]
    omega
  have h0 : (z.length == 0) = false := by
    rw [beq_eq_false_iff_ne]
    omega
  have hm : z.length * k ≤ 1000 * 1000 := Nat.mul_le_mul z2 k1
  have el : (List.replicate ((k : Nat) : Int).toNat z.cps).foldl (· ++ ·) #[] = ((List.replicate k (tl z)).flatten).toArray := by
    apply Array.ext'
    rw [foldl_cps]
    simp [TL.tl]
  have ln : ((List.replicate k (tl z)).flatten).length ≤ 1000000 := by
    rw [PyProof.Rows.lm_len_rep_flat, ← len_tl, Nat.mul_comm]
    omega
  refine PySem.P.mul_str (by rw [decide_eq_false (by omega), decide_eq_false (by omega)]; rfl) (fun _ _ => ?_) (fun _ _ => ?_) ?_
  · have hd : ((2 : Int) ^ 63 - 1) / (k : Int) ≥ 1000 := by
      rw [ge_iff_le, Int.le_ediv_iff_mul_le (by omega)]
      omega
    omega
  · show Builtin.Str.tooLong (z.length * ((k : Nat) : Int).toNat) = false
    unfold Builtin.Str.tooLong
    rw [sizeLine_eq]
    simp
    omega
  · rw [if_neg (by omega), h1, h0]
    show (Made.str ⟨(List.replicate ((k : Nat) : Int).toNat z.cps).foldl (· ++ ·) #[]⟩).post _ s
    rw [el]
    exact ⟨by show (List.replicate k (tl z)).flatten.toArray.size ≤ _; rw [List.size_toArray, sizeLine_eq]; omega, .str (repS z k), H, I.tok _, ⟨_, rfl⟩, q⟩
end
theorem tuple_mul1 (l : Addr) (items : Array Value) (n : Nat) (dd : Option Addr) (sl : Array (Option Value)) (u : Tok) :
    Meets (Builtin.«tuple.__mul__» ⟨[.ref l, .int 1 u], []⟩) (fun _ R s => s.heap.get? l = some { cls := .type "tuple", dict := dd, data := .seq items n, slots := sl } ∧ R (.ok (.ret (Value.ref l))) s) :=
  .of_wp fun prog w A R s h => by
    obtain ⟨hp, g, d, tk, os⟩ := s
    obtain ⟨hl, h⟩ := h
    have f1 := AutoSeq1.idx_int
    wp_walk using wpAny_loadPart' hl
    exact ⟨_, rfl, h⟩
/-- t * k, k from 1 on: once is t itself -/
def rRepA (K : PySem.W.Frag) : R2 := fun x y H Q => ∃ (l : Addr) (k : Nat) (xs : List V), x = .ref l ∧ y = .int k ∧ SqT K H l xs ∧ xs ≠ [] ∧ 1 ≤ k ∧ k ≤ 1000 ∧ xs.length ≤ 1000 ∧ (k = 1 → Q (.ref l) H) ∧ ∀ p, H p = none → Q (.ref p) (upd H p (.tup (List.replicate k xs).flatten))
section
variable {X : Cx}
theorem op_repA : OpR X (binaryOp .Mult) (rRepA X.K) := by
  intro pins s σ H x y v u Q I rx ry h
  obtain ⟨l, k, xs, rfl, rfl, hT, hne, h1, h2, hz, q1, q⟩ := h
  by_cases hk : k = 1
  · subst hk
    cases rx
    obtain ⟨t, rfl⟩ := ry
    obtain ⟨its, r, ⟨⟨cls, dd, data, sl⟩, ho, hc, n, hd⟩, hs⟩ := I.tuple hT
    simp only at hc hd
    subst hc hd
    refine wpAny_binaryOp_repeat_ref (T := "tuple") (U := "int") (by decide) ⟨_, ho, rfl⟩ (fun s' => typeIs_int s' _ t) noFill_tuple_mul PySem.F.fills_int_mul PySem.F.slot_int_rmul repeat_tuple PySem.F.slot_int_index.lookup
      (call_meets PySem.F.slot_int_rmul (typeIs_int s _ t) PySem.F.entry_int_rmul (PySem.F.args_int_rmul_2 _ _) (int_rmul_tuple _ t l its.toArray n dd sl)
        ⟨ho, rfl, ⟨_, ho, rfl⟩, call_meets PySem.F.slot_tuple_mul ⟨_, ho, rfl⟩ PySem.F.entry_tuple_mul (PySem.F.args_tuple_mul_2 _ _) (tuple_mul1 l its.toArray n dd sl t) ⟨ho, ?_⟩⟩)
    exact ⟨.ref l, H, I, rfl, q1 rfl⟩
  · exact op_repT pins s σ H _ _ v u Q I rx ry ⟨l, k, xs, rfl, rfl, hT, hne, by omega, by omega, hz, by simpa using q⟩
end
end ML
set_option maxHeartbeats 4000000
namespace ML
open PySem PySem.Spec PyProof.Rows L2 TL Gn
/-! ### the law: what stands at each of its lines -/
structure WsOk (m : Mill) (ws : List Str) : Prop where
  len : ws.length = m.names.length
  word : ∀ z ∈ ws, isWordF z = true
  nd : ws.Nodup
  hd : ∀ z ∈ ws, hdT z
structure Ls (K : PySem.W.Frag) (GT : List Addr) (PL : Addr) (q : Str) (r : Addr) (sc : Addr × List Int) (vm : V) (m : Mill) (pw : Addr) (ws : List Str) (H : Hp) : Prop where
  row : RowAt K H r sc
  dm : DAt H vm m.d
  ok : m.ok
  wo : WsOk m ws
  at_ : H pw = some (.tup (ws.map V.str))
  tt : Tbs GT H
  tb : LamX.TabS H PL q
section
variable {K : PySem.W.Frag} {GT M : List Addr} {PL : Addr} {q : Str} {r : Addr} {sc : Addr × List Int} {vm : V} {m : Mill} {pw : Addr} {ws : List Str} {H H' : Hp}
theorem Ls.go (l : Ls K GT PL q r sc vm m pw ws H) (x : Ext (PL :: GT) M H H') (row : RowAt K H' r sc) (tb : LamX.TabS H' PL q) : Ls K GT PL q r sc vm m pw ws H' :=
  ⟨row, l.dm.ext x, l.ok, l.wo, x.tups _ _ l.at_, fun p hp => x.tabs p (List.mem_cons_of_mem _ hp) (l.tt p hp), tb⟩
/-- a step that makes new objects alone -/
theorem Ls.new (l : Ls K GT PL q r sc vm m pw ws H) (x : Ext [] [] H H') : Ls K GT PL q r sc vm m pw ws H' := l.go (x.grow (by simp)) (l.row.ext x) (tabs_go l.tb x (by simp) (by simp))
/-- a draw -/
theorem Ls.draw (l : Ls K GT PL q r sc vm m pw ws H) (x : Ext [] [r] H H') (row : RowAt K H' r sc) : Ls K GT PL q r sc vm m pw ws H' := l.go (x.grow (by simp)) row (tabs_go l.tb x (by simp) fun b hb => by
  obtain ⟨_, _, _, e, _⟩ := l.row.ex
  rw [List.mem_singleton.mp hb]
  exact ⟨_, e⟩)
/-- a text told and read -/
theorem Ls.told (l : Ls K GT PL q r sc vm m pw ws H) (x : Ext (PL :: GT) [] H H') (tb : LamX.TabS H' PL q) : Ls K GT PL q r sc vm m pw ws H' := l.go x (l.row.ext x) tb
theorem Ls.few (l : Ls K GT PL q r sc vm m pw ws H) : 1 ≤ ws.length ∧ ws.length ≤ 3 := by
  rw [l.wo.len]
  exact ⟨l.ok.names.pos, l.ok.names.few⟩
theorem BadW.ext {v : V} {n : Nat} (b : BadW H n v) (x : Ext GT [] H H') : BadW H' n v := by
  cases b with
  | non => exact .non
  | lst e => exact .lst (x.lst e)
  | len e h => exact .len (x.tups _ _ e) h
  | item e h b => exact .item (x.tups _ _ e) h b
  | dup e h hl d => exact .dup (x.tups _ _ e) h hl d
end
section
variable {K : PySem.W.Frag} {σ : L2.St} {H : Hp} {Q : VK} {pw : Addr} {i : Nat} {z : V} {ws : List V}
/-- (z,) * len(words) -/
theorem rd_rep (hσ : σ[i]? = some (some (.ref pw))) (hw : H pw = some (.tup ws)) (h1 : 1 ≤ ws.length) (h3 : ws.length ≤ 3) (hq : ∀ p H', Ext [] [] H H' → H' p = some (.tup (List.replicate ws.length z)) → Q (.ref p) H') :
    tOp (rRepA K) (tTup (tCons (tC z) tNil)) (tCB (fun xs H Q => ∃ p ys, xs = [.ref p] ∧ (SqL K H p ys ∨ SqT K H p ys) ∧ Q (.int ys.length) H) (tCons (tVar i) tNil)) σ H Q := by
  refine ⟨(by show 1 ≤ sizeLine; decide), fun p hp => ?_⟩
  have x1 : Ext [] [] H (upd H p (.tup [z])) := .new hp
  refine ⟨_, hσ, pw, ws, rfl, .inr (SqT.of (x1.tups _ _ hw)), ?_⟩
  refine ⟨p, ws.length, [z], rfl, rfl, SqT.of upd_same, by simp, h1, by omega, by show 1 ≤ 1000; decide, fun e => hq p _ x1 (by rw [e]; exact upd_same), fun p2 hp2 => hq p2 _ (x1.trans (.new hp2)) ?_⟩
  rw [upd_same, show (List.replicate ws.length [z]).flatten = List.replicate ws.length z by simp]
end
/-- the law's own context -/
abbrev lawX (P : Program) (w : World) (K : PySem.W.Frag) (mg : Str → Option Value) (base : Heap) (f cL : Addr) (A : Around) (outer : List Env) (s : Shared) (H : Hp) (E : XK) : Cx := (cxOf CX0 P w K mg base nLaw "law" (defScope sLaw) f (.ref cL) A outer s H E).nox
section
variable {P : Program} {w : World} {K : PySem.W.Frag} {mg : Str → Option Value} {base : Heap} {GT : List Addr} {cL PL CT CW f : Addr} {A : Around} {outer : List Env} {s : Shared} {H0 : Hp} {E : XK} {q : Str}
abbrev qLam : Str := (envOfC "law" (defScope sLaw) 0 0 .none).qual ++ ("<lambda>" : Str)
def spLaw (K : PySem.W.Frag) (GT : List Addr) (PL : Addr) (q : Str) : Sp := fun vs H Q _ => ∃ (a : Addr) (ns : List Int), vs = [.ref a] ∧ SqL K H a (ns.map V.int) ∧ Tbs GT H ∧ LamX.TabS H PL q ∧ ∀ H', Q (.bl true) H'
theorem seg19 (L : LawC P w K mg base GT cL PL CT CW) (hr : Room 218 (A.deeper (envOfC "law" (defScope sLaw) s.heap.objs.size f (.ref cL)))) : ∃ t, PSs (lawX P w K mg base f cL A outer s H0 E) ((defBody sLaw).drop 19) t ∧
    ∀ (Q : VK) (σ : L2.St) (H : Hp) (r : Addr) (sc : Addr × List Int) (vm : V) (m : Mill) (pw : Addr) (ws : List Str) (a0 a3 a5 a6 a7 a8 a9 a10 a11 a12 a13 a14 a15 : Option V), σ = [a0, some (.ref r), some vm, a3, some (.ref pw), a5, a6, a7, a8, a9, a10, a11, a12, a13, a14, a15, none, none, none, none, none] →
      Ls K GT PL qLam r sc vm m pw ws H → (∀ H', Q (.bl true) H') → t { nx := fun _ H' => Q .non H', rt := Q } σ H := by
  have T := L.T
  refine ⟨_, pss_cons (ps_set (i := 15) scLaw.nd rfl (.inl rfl) (pe_lst (pa_cons pe_non (pa_cons (pe_callTy call_list_of (by rfl) T.list boot_list (pa_cons (pv 4) pa_nil)) (pa_cons (pe_slice sl_tup (pv 4) (po_some pe_int) po_none) (pa_cons (pe_op op_catA (pv 4) (pe_tup (pa_cons pe_str pa_nil))) (pa_cons (pe_op op_repA (pe_tup (pa_cons pe_str pa_nil)) (pe_callB call_len_seq (by rfl) T.len PySem.boot_len (pa_cons (pv 4) pa_nil))) (pa_cons (pe_op op_repA (pe_tup (pa_cons pe_str pa_nil)) (pe_callB call_len_seq (by rfl) T.len PySem.boot_len (pa_cons (pv 4) pa_nil))) (pa_cons (pe_op op_repA (pe_tup (pa_cons pe_int pa_nil)) (pe_callB call_len_seq (by rfl) T.len PySem.boot_len (pa_cons (pv 4) pa_nil))) (pa_cons (pe_op op_repA (pe_tup (pa_cons pe_str pa_nil)) (pe_callB call_len_seq (by rfl) T.len PySem.boot_len (pa_cons (pv 4) pa_nil))) (pa_cons (pe_op op_repA (pe_tup (pa_cons pe_str pa_nil)) (pe_callB call_len_seq (by rfl) T.len PySem.boot_len (pa_cons (pv 4) pa_nil))) pa_nil))))))))))) (pss_cons (ps_set (i := 15) scLaw.nd rfl (.inl rfl) (pe_ifExp (pt_cmpR op_gt (pe_callB call_len_seq (by rfl) T.len PySem.boot_len (pa_cons (pv 4) pa_nil)) pe_int (nomark _)) (pe_op op_cat (pv 15) (pe_lst (pa_cons (pe_op op_repA (pe_tup (pa_cons pe_str pa_nil)) (pe_callB call_len_seq (by rfl) T.len PySem.boot_len (pa_cons (pv 4) pa_nil))) pa_nil))) (pv 15))) (pss_one (ps_ret (pe_cmpR (op_eqL hr.units) (pe_lc (own := [("_law_value_here", 9)]) rfl scLaw.nd (pi_list (pv 15)) (blkOk_by (own := [("_law_value_here", 9)]) (N := nLaw) (sc := defScope sLaw) (by decide +kernel)) (fun _ _ _ _ _ => pg_name (i := 9) scLaw.nd rfl (.inr rfl)) (fun _ _ _ _ _ => pts_one (pt_cmpR op_ne (pe_toldW (K := K) (q := qLam) L (i := 9) (j := 2) rfl rfl (hr.mono (by omega)) (LamX.lamS_by (sc := relS _ (defScope sLaw)) (by decide +kernel))) pe_str (nomark _))) (fun _ _ _ _ _ => (pv 9))) (pe_lst pa_nil) (nomark _))))), ?_⟩
  rintro Q σ H r sc vm m pw ws a0 a3 a5 a6 a7 a8 a9 a10 a11 a12 a13 a14 a15 rfl l hq
  obtain ⟨w1, w3⟩ := l.few
  have wl : (ws.map V.str).length = ws.length := List.length_map _
  refine ⟨_, rfl, pw, _, rfl, .inr (SqT.of l.at_), fun p1 hp1 => ?_⟩
  have x1 : Ext [] [] H (upd H p1 (.lst (ws.map V.str))) := .new hp1
  have b1 : BadW (upd H p1 (.lst (ws.map V.str))) m.names.length (.ref p1) := .lst upd_same
  have l1 := l.new x1
  generalize upd H p1 (.lst (ws.map V.str)) = H1 at x1 b1 l1 ⊢
  refine ⟨_, rfl, _, rfl, pw, _, rfl, SqT.of l1.at_, ?_, fun p2 hp2 => ?_⟩
  · intro z
    have z1 : HT.sIx (ws.map V.str).length 0 (some ((1 : Nat) : Int)) = 0 := z.1
    rw [HT.sIx_nat, wl] at z1
    omega
  have ec : cutV (ws.map V.str) (some 1) none = (ws.drop 1).map V.str := by
    rw [show (some (1 : Int)) = some ((1 : Nat) : Int) from rfl, cutStr_from]
  rw [ec]
  have x2 : Ext [] [] H1 (upd H1 p2 (.tup ((ws.drop 1).map V.str))) := .new hp2
  have b2 : BadW (upd H1 p2 (.tup ((ws.drop 1).map V.str))) m.names.length (.ref p2) := .len upd_same (by rw [List.length_map, List.length_drop, ← l.wo.len]; omega)
  have l2 := l1.new x2
  generalize upd H1 p2 (.tup ((ws.drop 1).map V.str)) = H2 at x2 b2 l2 ⊢
  refine ⟨_, rfl, (by show 1 ≤ sizeLine; decide), fun p3 hp3 => ?_⟩
  have x3 : Ext [] [] H2 (upd H2 p3 (.tup [.str "d"])) := .new hp3
  refine ⟨pw, p3, _, _, rfl, rfl, SqT.of (x3.tups _ _ l2.at_), SqT.of upd_same, line100 (by rw [wl]; show ws.length + 1 ≤ _; omega), fun e => ?_, (fun _ e => by cases e), fun _ _ p4 hp4 => ?_⟩
  · rw [e] at wl
    exact absurd wl (by show ¬ 0 = ws.length; omega)
  have b4 : BadW (upd (upd H2 p3 (.tup [.str "d"])) p4 (.tup (ws.map V.str ++ [.str "d"]))) m.names.length (.ref p4) := .len upd_same (by rw [List.length_append, wl, ← l.wo.len]; show ¬ ws.length + 1 = ws.length; omega)
  have x4 : Ext [] [] H2 (upd (upd H2 p3 (.tup [.str "d"])) p4 (.tup (ws.map V.str ++ [.str "d"]))) := x3.trans (.new hp4)
  have l4 := l2.new x4
  generalize upd (upd H2 p3 (.tup [.str "d"])) p4 (.tup (ws.map V.str ++ [.str "d"])) = H4 at x4 b4 l4 ⊢
  have bad : ∀ {Hx : Hp} {p : Addr} {z : V}, Hx p = some (.tup (List.replicate (ws.map V.str).length z)) → ((∃ i, z = .int i) ∨ ∃ y : Str, z = .str y ∧ isWordF y = false ∧ y.length ≤ 100000) → BadW Hx m.names.length (.ref p) := fun {Hx p z} e h => by
    refine .item e (fun x hx => ?_) ⟨z, ?_, ?_⟩
    · rw [List.eq_of_mem_replicate hx]
      rcases h with h | ⟨y, e, _, hy⟩
      · exact .inr h
      · exact .inl ⟨y, e, hy⟩
    · rw [wl]
      exact List.mem_replicate.mpr ⟨by omega, rfl⟩
    · rcases h with h | ⟨y, e, hy, _⟩
      · exact .inl h
      · exact .inr ⟨y, e, hy⟩
  refine rd_rep (pw := pw) (ws := ws.map V.str) rfl l4.at_ (by omega) (by omega) fun p5 H5 x5 e5 => ?_
  have b5 := bad e5 (.inr ⟨_, rfl, by decide +kernel, by decide⟩)
  have l5 := l4.new x5
  refine rd_rep (pw := pw) (ws := ws.map V.str) rfl l5.at_ (by omega) (by omega) fun p6 H6 x6 e6 => ?_
  have b6 := bad e6 (.inr ⟨_, rfl, by decide +kernel, by decide⟩)
  have l6 := l5.new x6
  refine rd_rep (pw := pw) (ws := ws.map V.str) rfl l6.at_ (by omega) (by omega) fun p7 H7 x7 e7 => ?_
  have b7 := bad e7 (.inl ⟨_, rfl⟩)
  have l7 := l6.new x7
  refine rd_rep (pw := pw) (ws := ws.map V.str) rfl l7.at_ (by omega) (by omega) fun p8 H8 x8 e8 => ?_
  have b8 := bad e8 (.inr ⟨_, rfl, by decide +kernel, by decide⟩)
  have l8 := l7.new x8
  refine rd_rep (pw := pw) (ws := ws.map V.str) rfl l8.at_ (by omega) (by omega) fun p9 H9 x9 e9 => ?_
  have b9 := bad e9 (.inr ⟨_, rfl, by decide +kernel, by decide⟩)
  have l9 := l8.new x9
  have x49 := ((((x5.trans x6).trans x7).trans x8).trans x9)
  refine ⟨(by show 9 ≤ sizeLine; decide), fun pb hpb => ?_⟩
  obtain ⟨bs, hbs⟩ : ∃ bs : List V, bs = [.non, .ref p1, .ref p2, .ref p4, .ref p5, .ref p6, .ref p7, .ref p8, .ref p9] := ⟨_, rfl⟩
  have allb : ∀ b ∈ bs, BadW H9 m.names.length b := by
    rw [hbs]
    intro b hb
    simp only [List.mem_cons, List.not_mem_nil, or_false] at hb
    rcases hb with rfl | rfl | rfl | rfl | rfl | rfl | rfl | rfl | rfl
    · exact .non
    · exact ((b1.ext x2).ext x4).ext x49
    · exact (b2.ext x4).ext x49
    · exact b4.ext x49
    · exact (((b5.ext x6).ext x7).ext x8).ext x9
    · exact ((b6.ext x7).ext x8).ext x9
    · exact (b7.ext x8).ext x9
    · exact b8.ext x9
    · exact b9
  have lbs : bs.length = 9 := by rw [hbs]; rfl
  have x10 : Ext [] [] H9 (upd H9 pb (.lst bs)) := .new hpb
  have e10 : (upd H9 pb (.lst bs)) pb = some (.lst bs) := upd_same
  rw [← hbs]
  have allb := fun b hb => (allb b hb).ext x10
  have l10 := l9.new x10
  show tSeq _ _ _ _ _
  generalize upd H9 pb (.lst bs) = H10 at x10 e10 allb l10 ⊢
  -- what the last line reads
  have fin : ∀ (σ' : L2.St) (Hx : Hp) (pB : Addr) (bs : List V), σ' = [a0, some (.ref r), some vm, a3, some (.ref pw), a5, a6, a7, a8, a9, a10, a11, a12, a13, a14, some (.ref pB), none, none, none, none, none] → Hx pB = some (.lst bs) → bs.length ≤ 10 → (∀ b ∈ bs, BadW Hx m.names.length b) → Ls K GT PL qLam r sc vm m pw ws Hx →
      tRet (tOp rEqL (tLc (iList K (tVar 15)) (gName 9) (tTest (tOp rNe (tLam2 PL qLam (TTold2 K CT CW) (fun E => tCall (spWr GT CW) [] E (tCons (tVar 2) (tCons (tVar 9) tNil)))) (tC (.str "words")))) (tVar 9) [9]) (tLst tNil)) { nx := fun _ H' => Q .non H', rt := Q } σ' Hx := by
    rintro σ' Hx pB bs rfl eB lB hB lx
    refine ⟨_, rfl, pB, rfl, ⟨_, SqL.of eB⟩, fun D0 hD => ?_⟩
    have nx0 : Ext (PL :: GT) [] Hx (upd Hx D0 (.lst [])) := .new hD
    refine lc_list (xs := bs) (fun i H' => Acc (PL :: GT) [] Hx D0 (fun i ds => ds = []) i H' ∧ LamX.TabS H' PL qLam) ⟨acc0 hD rfl, (lx.new (.new hD)).tb⟩ (fun i H' hi ac => SqL.of (ac.1.ext.lst eB)) (fun i x H' hx ac => ?_) (fun H' ac => ?_)
    · obtain ⟨ac, tb⟩ := ac
      have lx' := lx.told ac.ext tb
      refine ⟨rfl, ?_⟩
      refine rd_words L (i := 9) (j := 2) rfl rfl lx'.dm lx'.ok (fun H2 x2 => ?_) lx'.tt lx'.tb fun H2 x2 t2 => ?_
      · exact ((hB x (List.mem_of_getElem? hx)).ext ac.ext).ext x2
      · refine ⟨rfl, _, rfl, iteNDT rfl ?_⟩
        exact ⟨ac.skip (by simp) x2 (fun ds e => e), t2⟩
    · obtain ⟨⟨⟨ds, ⟨ys, ey, ay⟩, g, _⟩, xx⟩, tb⟩ := ac
      have g : ds = [] := g
      subst g
      have hys : ys = [] := List.eq_nil_of_length_eq_zero ay.1
      subst hys
      refine ⟨(by show 0 ≤ sizeLine; decide), fun pe hpe => ?_⟩
      have xe : Ext [] [] H' (upd H' pe (.lst [])) := .new hpe
      refine ⟨D0, pe, [], [], rfl, rfl, xe.lst ey, upd_same, (by simp), (by simp), ?_⟩
      exact hq _
  refine ⟨_, rfl, pw, _, rfl, .inr (SqT.of l10.at_), _, _, rfl, rfl, _, rfl, ?_⟩
  refine iteD (fun h2 => ?_) (fun h2 => ?_)
  · refine ⟨_, rfl, ?_⟩
    refine rd_rep (pw := pw) (ws := ws.map V.str) rfl l10.at_ (by omega) (by omega) fun pa Ha xa ea => ?_
    refine ⟨(by show 1 ≤ sizeLine; decide), fun pc hpc => ?_⟩
    have xc : Ext [] [] Ha (upd Ha pc (.lst [.ref pa])) := .new hpc
    refine ⟨pb, pc, _, _, rfl, rfl, xc.lst (xa.lst e10), upd_same, Nat.le_trans (by rw [lbs]; exact Nat.le_refl 10) (by show 10 ≤ sizeLine; decide), fun pd hpd => ?_⟩
    have xd := (xa.trans xc).trans (Ext.new (GT := []) (M := []) (o := .lst (bs ++ [.ref pa])) hpd)
    refine fin _ _ pd (bs ++ [.ref pa]) rfl upd_same (by rw [List.length_append, lbs]; exact Nat.le_refl 10) (fun b hb => ?_) (l10.new xd)
    rcases List.mem_append.mp hb with z | z
    · exact (allb b z).ext xd
    · rw [List.mem_singleton.mp z]
      have hrep : (List.replicate (ws.map V.str).length (V.str "a")) = (List.replicate ws.length ("a" : Str)).map V.str := by rw [List.map_replicate, wl]
      rw [hrep] at ea
      refine .dup ((xc.trans (Ext.new (GT := []) (M := []) (o := .lst (bs ++ [.ref pa])) hpd)).tups _ _ ea) (fun y hy => by rw [List.eq_of_mem_replicate hy]; decide +kernel) (by rw [List.length_replicate]; omega) ?_
      rw [wl] at h2
      obtain ⟨k, hk⟩ : ∃ k, ws.length = k + 2 := ⟨ws.length - 2, by omega⟩
      rw [hk]
      intro nd
      exact (List.nodup_cons.mp nd).1 List.mem_cons_self
  · exact ⟨_, rfl, fin _ _ pb bs rfl e10 (by omega) allb l10⟩
end
end ML
set_option maxHeartbeats 4000000
namespace ML
open PySem PySem.Spec PyProof.Rows L2 TL Gn
/-! ### lines and texts -/
def LnB (a b : Nat) (z : Str) : Prop := okN z ∧ z.length ≤ a ∧ ((tl z).head? = some 116 → z.length ≤ b)
theorem LnB.mono {a b a' b' : Nat} {z : Str} (h : LnB a b z) (ha : a ≤ a') (hb : b ≤ b') : LnB a' b' z := ⟨h.1, Nat.le_trans h.2.1 ha, fun e => Nat.le_trans (h.2.2 e) hb⟩
theorem LnB.d {a b : Nat} {z : Str} (h : (PyData.strOk z && (decide (10 ∉ tl z) && (decide (z.length ≤ a) && decide (z.length ≤ b)))) = true := by decide +kernel) : LnB a b z := by
  simp only [Bool.and_eq_true, decide_eq_true_eq] at h
  exact ⟨⟨h.1, h.2.1⟩, h.2.2.1, fun _ => h.2.2.2⟩
theorem LnB.app {a b k : Nat} {z y : Str} (h : LnB a b z) (oy : okN y) (ly : y.length ≤ k) (hy : (tl y).head? ≠ some 116) : LnB (a + k) (b + k) (z ++ y) := by
  refine ⟨okN_app h.1 oy, by rw [len_app]; have := h.2.1; omega, fun e => ?_⟩
  rw [len_app]
  rw [tl_append] at e
  cases hz : tl z with
  | nil =>
    rw [hz] at e
    exact absurd e hy
  | cons c r =>
    have := h.2.2 (by rw [hz] at e ⊢; exact e)
    omega
abbrev txtL (L : List Str) : Str := Txt.join "" (L.map fun l => l ++ ("\n" : Str))
theorem tl_txt : ∀ L : List Str, tl (txtL L) = (L.map fun z => tl z ++ [10]).flatten
  | [] => by
    show tl (Txt.join "" []) = []
    rw [join_eq]
    rfl
  | [a] => by
    show tl (Txt.join "" [a ++ ("\n" : Str)]) = _
    rw [join_eq]
    show tl (a ++ ("\n" : Str)) = _
    rw [tl_append, tl_nl]
    simp
  | a :: b :: r => by
    have ih := tl_txt (b :: r)
    have e : txtL (a :: b :: r) = (a ++ ("\n" : Str)) ++ ("" : Str) ++ txtL (b :: r) := by
      show Txt.join "" ((a ++ ("\n" : Str)) :: (b ++ ("\n" : Str)) :: r.map fun l => l ++ ("\n" : Str)) = _
      rw [join_eq]
      show _ = _ ++ Txt.join "" ((b :: r).map fun l => l ++ ("\n" : Str))
      rw [join_eq]
      rfl
    rw [e, tl_append, tl_append, tl_append, ih, tl_nl]
    have : tl ("" : Str) = [] := by decide
    rw [this]
    simp
theorem splitC_txt : ∀ (L : List Str) (r : List Nat), (∀ z ∈ L, 10 ∉ tl z) → splitC 10 ((L.map fun z => tl z ++ [10]).flatten ++ r) = L.map tl ++ splitC 10 r
  | [], r, _ => rfl
  | a :: L, r, h => by
    have ih := splitC_txt L r fun z hz => h z (List.mem_cons_of_mem _ hz)
    have e : ((a :: L).map fun z => tl z ++ [10]).flatten ++ r = tl a ++ 10 :: ((L.map fun z => tl z ++ [10]).flatten ++ r) := by simp
    rw [e, splitC_pre 10 _ (h a List.mem_cons_self), ih]
    rfl
theorem splitC_one {l : List Nat} (h : 10 ∉ l) : splitC 10 l = [l] := by
  induction l with
  | nil => rfl
  | cons c r ih =>
    have hc : ¬ c = 10 := fun e => h (by rw [e]; exact List.mem_cons_self)
    rw [splitC, if_neg hc, ih fun z => h (List.mem_cons_of_mem _ z)]
theorem txt_len {a : Nat} : ∀ {L : List Str}, (∀ z ∈ L, z.length ≤ a) → (txtL L).length ≤ L.length * (a + 1) := fun {L} h => by
  rw [len_tl, tl_txt]
  induction L with
  | nil => exact Nat.zero_le _
  | cons z r ih =>
    have h1 := ih fun y hy => h y (List.mem_cons_of_mem _ hy)
    have h2 := h z List.mem_cons_self
    rw [len_tl] at h2
    rw [List.map_cons, List.flatten_cons, List.length_append, List.length_append, show (z :: r).length = r.length + 1 from rfl, Nat.succ_mul, show ([10] : List Nat).length = 1 from rfl]
    omega
theorem txt_ok {L : List Str} (h : ∀ z ∈ L, okS z) : okS (txtL L) := okS_join okd fun z hz => by
  obtain ⟨y, hy, rfl⟩ := List.mem_map.mp hz
  exact okS_app (h y hy) okd
theorem in_txt {L : List Str} (h : ∀ z ∈ L, LnB 4500 60 z) (hl : L.length ≤ 19) : InOk (.str (txtL L)) := by
  refine .inr (.inr ⟨_, rfl, txt_ok fun z hz => (h z hz).1.1, ?_, fun l hl' e => ?_⟩)
  · have := txt_len (a := 4500) (L := L) fun z hz => (h z hz).2.1
    have : L.length * 4501 ≤ 19 * 4501 := Nat.mul_le_mul_right _ hl
    omega
  · have e2 := splitC_txt L [] fun z hz => (h z hz).1.2
    rw [List.append_nil, ← tl_txt] at e2
    rw [e2] at hl'
    rcases List.mem_append.mp hl' with z | z
    · obtain ⟨y, hy, rfl⟩ := List.mem_map.mp z
      have := (h y hy).2.2 e
      rw [len_tl] at this
      exact this
    · rw [show splitC 10 [] = [[]] from rfl, List.mem_singleton] at z
      rw [z] at e
      cases e
theorem in_cut {L : List Str} (h : ∀ z ∈ L, LnB 4500 60 z) (hl : L.length ≤ 19) : InOk (.str (cutS (txtL L) none (some (-1)))) := by
  cases hL : L.reverse with
  | nil =>
    have : L = [] := by simpa using hL
    subst this
    have e : cutS (txtL []) none (some (-1)) = ("" : Str) := by
      show cutS (Txt.join "" []) none (some (-1)) = _
      rw [join_eq]
      decide +kernel
    rw [e]
    exact .inr (.inr ⟨_, rfl, okd, by decide, by decide⟩)
  | cons z L' =>
    have eL : L = L'.reverse ++ [z] := by
      have := congrArg List.reverse hL
      rw [List.reverse_reverse, List.reverse_cons] at this
      exact this
    obtain ⟨M, hM⟩ : ∃ M, M = L'.reverse := ⟨_, rfl⟩
    rw [← hM] at eL
    subst eL
    have et : tl (txtL (M ++ [z])) = ((M.map fun z => tl z ++ [10]).flatten ++ tl z) ++ [10] := by
      rw [tl_txt]
      simp
    rw [cutS_init et]
    have hz := h z (by simp)
    have hM' : ∀ y ∈ M, LnB 4500 60 y := fun y hy => h y (List.mem_append_left _ hy)
    refine .inr (.inr ⟨_, rfl, ?_, ?_, fun l hl' e => ?_⟩)
    · refine okS_iff.mpr fun c hc => ?_
      have hall := okS_iff.mp (txt_ok (L := M ++ [z]) fun z hz => (h z hz).1.1)
      exact hall c (by rw [et]; exact List.mem_append_left _ hc)
    · have h1 := txt_len (a := 4500) (L := M ++ [z]) fun z hz => (h z hz).2.1
      have h2 : (M ++ [z]).length * 4501 ≤ 19 * 4501 := Nat.mul_le_mul_right _ hl
      rw [len_tl, et, List.length_append] at h1
      rw [len_tl]
      show ((M.map fun z => tl z ++ [10]).flatten ++ tl z).length ≤ _
      omega
    · have e2 := splitC_txt M (tl z) fun z hz => (hM' z hz).1.2
      rw [show tl (S ((M.map fun z => tl z ++ [10]).flatten ++ tl z)) = (M.map fun z => tl z ++ [10]).flatten ++ tl z from rfl, e2, splitC_one hz.1.2] at hl'
      rcases List.mem_append.mp hl' with w | w
      · obtain ⟨y, hy, rfl⟩ := List.mem_map.mp w
        have := (hM' y hy).2.2 e
        rw [len_tl] at this
        exact this
      · rw [List.mem_singleton] at w
        subst w
        have := hz.2.2 e
        rw [len_tl] at this
        exact this
section
variable {K : PySem.W.Frag} {H : Hp} {Q : VK} {p : Addr} {i : Nat} {L : List Str} {b0 b1 b2 b3 b4 b5 b6 b7 b8 b9 b10 b11 b12 b13 b14 b15 b16 b17 b18 b19 b20 : Option V}
/-- "".join([line + "\n" for line in lines]) -/
theorem rd_join (hσ : [b0, b1, b2, b3, b4, b5, b6, b7, b8, b9, b10, b11, b12, b13, b14, b15, b16, b17, b18, b19, b20][i]? = some (some (.ref p))) (hp : H p = some (.lst (L.map V.str))) (hz : ∀ z ∈ L, z.length ≤ 50000) (hl : L.length ≤ 19) (hq : ∀ H', Ext [] [] H H' → Q (.str (txtL L)) H') :
    tM1 (fun x xs H Q => ∃ a p, ∃ ys : List Str, x = .str a ∧ xs = [.ref p] ∧ (SqL K H p (ys.map V.str) ∨ SqT K H p (ys.map V.str)) ∧ (ys.map (·.length)).sum + ys.length * a.length ≤ 16777216 ∧ Q (.str (Txt.join a ys)) H) (tC (.str ""))
      (tLc (iList K (tVar i)) (gName 19) tYes (tOp (fun x y H Q => ∃ i j, x = .str i ∧ y = .str j ∧ i.length + j.length ≤ sizeLine ∧ Q (.str (i ++ j)) H) (tVar 19) (tC (.str "\n"))) [19]) [b0, b1, b2, b3, b4, b5, b6, b7, b8, b9, b10, b11, b12, b13, b14, b15, b16, b17, b18, b19, b20] H Q := by
  refine ⟨⟨_, rfl⟩, _, hσ, p, rfl, ⟨_, SqL.of hp⟩, fun D0 hD => ?_⟩
  refine lc_list (xs := L.map V.str) (Acc [] [] H D0 (fun i ds => ds = (L.take i).map fun z => D.str (z ++ ("\n" : Str)))) (acc0 hD rfl) (fun i H1 hi ac => SqL.of (ac.ext.lst hp)) (fun i x H1 hx ac => ?_) (fun H1 ac => ?_)
  · rw [List.getElem?_map] at hx
    obtain ⟨z, hz1, rfl⟩ := Option.map_eq_some_iff.mp hx
    have hi : i < 1000000 := by
      have := (List.getElem?_eq_some_iff.mp hz1).1
      omega
    have hzl := hz z (List.mem_of_getElem? hz1)
    have c1 : ("\n" : Str).length = 1 := by decide
    refine ⟨rfl, _, rfl, _, _, rfl, rfl, line100 (by omega), ?_⟩
    exact ac.step hD (by simp) hi .refl (.str _) fun ds e => map_Gs (f := fun z => D.str (z ++ ("\n" : Str))) hz1 e
  · obtain ⟨⟨ds, l, g, _⟩, x1⟩ := ac
    have g : ds = (L.take (L.map V.str).length).map fun z => D.str (z ++ ("\n" : Str)) := g
    rw [List.length_map, List.take_length] at g
    have g : ds = (L.map fun z => z ++ ("\n" : Str)).map D.str := by rw [g, List.map_map]; rfl
    subst g
    refine ⟨_, D0, L.map fun z => z ++ ("\n" : Str), rfl, rfl, .inl (SqL.of l.str), ?_, hq _ x1⟩
    have c0 : ("" : Str).length = 0 := by decide
    have hs := sum_le (n := 50001) (l := L.map fun z => z ++ ("\n" : Str)) fun y hy => by
      obtain ⟨z, hz1, rfl⟩ := List.mem_map.mp hy
      have := hz z hz1
      have c1 : ("\n" : Str).length = 1 := by decide
      rw [len_app]
      omega
    rw [List.length_map] at hs ⊢
    rw [c0]
    have : L.length * 50001 ≤ 19 * 50001 := Nat.mul_le_mul_right _ hl
    omega
end
end ML
set_option maxHeartbeats 4000000
namespace ML
open PySem PySem.Spec PyProof.Rows L2 TL Gn
section
variable {P : Program} {w : World} {K : PySem.W.Frag} {mg : Str → Option Value} {base : Heap} {GT : List Addr} {cL PL CT CW f : Addr} {A : Around} {outer : List Env} {s : Shared} {H0 : Hp} {E : XK} {q : Str}
theorem cut_tk {xs : List Str} {k : Nat} : cutV (xs.map V.str) none (some (k : Nat)) = (xs.take k).map V.str := by
  rw [cut_to, List.map_take]
theorem cut_dr {xs : List Str} {k : Nat} : cutV (xs.map V.str) (some (k : Nat)) none = (xs.drop k).map V.str := by
  rw [cut_from, List.map_drop]
theorem join_if {c : Bool} {ta tb : TE} {σ : L2.St} {H : Hp} {Q : VK} (Good : V → Hp → Prop) (h : ∀ Q' : VK, (∀ v H', Good v H' → Q' v H') → if c = true then ta σ H Q' else tb σ H Q') (g : ∀ v H', Good v H' → Q v H') : if c = true then ta σ H Q else tb σ H Q := h Q g
theorem txt_app (A B : List Str) : txtL (A ++ B) = txtL A ++ txtL B := ext_tl (by rw [tl_append, tl_txt, tl_txt, tl_txt, List.map_append, List.flatten_append])
theorem seg16 (L : LawC P w K mg base GT cL PL CT CW) (hr : Room 218 (A.deeper (envOfC "law" (defScope sLaw) s.heap.objs.size f (.ref cL)))) (hrm : Rm 253 (A.deeper (envOfC "law" (defScope sLaw) s.heap.objs.size f (.ref cL)))) : ∃ t, PSs (lawX P w K mg base f cL A outer s H0 E) ((defBody sLaw).drop 16) t ∧
    ∀ (Q : VK) (σ : L2.St) (H : Hp) (r : Addr) (sc : Addr × List Int) (vm : V) (m : Mill) (pw pl : Addr) (ws : List Str) (Ln : List Str) (a0 a3 a6 a8 a9 : Option V), σ = [a0, some (.ref r), some vm, a3, some (.ref pw), some (.ref pl), a6, some (.str (txtL Ln)), a8, a9, none, none, none, none, none, none, none, none, none, none, none] →
      Ls K GT PL qLam r sc vm m pw ws H → H pl = some (.lst (Ln.map V.str)) → (∀ z ∈ Ln, LnB 4400 50 z) → 1 ≤ Ln.length → Ln.length ≤ 11 → (∀ H', Q (.bl true) H') → t { nx := fun _ H' => Q .non H', rt := Q } σ H := by
  have T := L.T
  obtain ⟨tR, hR, qR⟩ := seg19 (A := A) (outer := outer) (s := s) (H0 := H0) (E := E) L hr
  refine ⟨_, pss_cons (ps_set (i := 10) scLaw.nd rfl (.inl rfl) (pe_lst (pa_cons pe_str (pa_cons pe_str (pa_cons pe_str (pa_cons pe_str (pa_cons pe_str (pa_cons pe_str (pa_cons pe_str (pa_cons pe_str (pa_cons pe_str (pa_cons pe_str pa_nil)))))))))))) (pss_cons (ps_set (i := 10) scLaw.nd rfl (.inl rfl) (pe_op op_cat (pv 10) (pe_lst (pa_cons pe_str (pa_cons pe_str (pa_cons pe_str (pa_cons pe_str (pa_cons pe_str (pa_cons pe_str (pa_cons pe_str (pa_cons (pe_op op_add_str (pe_op op_add_str (pe_op op_add_str (pe_op op_mul_str pe_str pe_int) pe_str) (pe_op op_mul_str pe_str pe_int)) pe_str) (pa_cons pe_str (pa_cons pe_str (pa_cons pe_str (pa_cons pe_str pa_nil))))))))))))))) (pss_cons (ps_for PassesOwn.never rfl (pi_range1 (by rfl) T.range (pa_cons pe_int pa_nil)) (pg_name (i := 11) scLaw.nd rfl (.inl rfl)) (pss_cons (ps_par (i := 12) (j := 13) rfl scLaw.nd rfl rfl (by decide) rfl rfl (pa_cons (pe_cal L.taken (hr.mono (by omega)) rfl (pa_cons (pv 1) (pa_cons (pe_callB call_len_seq (by rfl) T.len PySem.boot_len (pa_cons (pv 5) pa_nil)) pa_nil))) (pa_cons (pe_cal L.taken (hr.mono (by omega)) rfl (pa_cons (pv 1) (pa_cons pe_int pa_nil))) pa_nil)) rfl) (pss_cons (ps_set (i := 14) scLaw.nd rfl (.inl rfl) (pe_ifExp (pt_cmpR op_lt (pv 13) pe_int (nomark _)) (pe_op op_cat (pe_op op_cat (pe_slice sl_list (pv 5) po_none (po_some (pv 12))) (pe_lst (pa_cons (pe_cal L.pick (hr.mono (by omega)) rfl (pa_cons (pv 1) (pa_cons (pv 10) pa_nil))) pa_nil))) (pe_slice sl_list (pv 5) (po_some (pv 12)) po_none)) (pe_op op_cat (pe_slice sl_list (pv 5) po_none (po_some (pv 12))) (pe_slice sl_list (pv 5) (po_some (pe_op op_add (pv 12) pe_int)) po_none)))) (pss_cons (ps_set (i := 14) scLaw.nd rfl (.inl rfl) (pe_ifExp (pt_cmpR op_eq (pv 13) pe_int (nomark _)) (pe_op op_cat (pe_op op_cat (pe_slice sl_list (pv 5) po_none (po_some (pv 12))) (pe_lst (pa_cons (pe_op op_add_str (pe_ix ix_list (pv 5) (pv 12) (fun _ _ => rfl)) (pe_cal L.pick (hr.mono (by omega)) rfl (pa_cons (pv 1) (pa_cons (pe_lst (pa_cons pe_str (pa_cons pe_str (pa_cons pe_str (pa_cons pe_str (pa_cons pe_str (pa_cons pe_str pa_nil))))))) pa_nil)))) pa_nil))) (pe_slice sl_list (pv 5) (po_some (pe_op op_add (pv 12) pe_int)) po_none)) (pv 14))) (pss_cons (ps_set (i := 9) scLaw.nd rfl (.inr rfl) (pe_join pe_str (pe_lc (own := [("_law_line", 19)]) rfl scLaw.nd (pi_list (pv 14)) (blkOk_by (own := [("_law_line", 19)]) (N := nLaw) (sc := defScope sLaw) (by decide +kernel)) (fun _ _ _ _ _ => pg_name (i := 19) scLaw.nd rfl (.inl rfl)) (fun _ _ _ _ _ => pts_nil) (fun _ _ _ _ _ => pe_op op_add_str (pv 19) pe_str)))) (pss_cons (ps_set (i := 9) scLaw.nd rfl (.inr rfl) (pe_cal L.pick (hr.mono (by omega)) rfl (pa_cons (pv 1) (pa_cons (pe_lst (pa_cons (pv 9) (pa_cons (pv 9) (pa_cons (pv 9) (pa_cons (pe_slice sl_str (pv 9) po_none (po_some (pe_un un_neg pe_int))) (pa_cons pe_non (pa_cons pe_str (pa_cons pe_int (pa_cons (pe_op op_add_str (pv 7) (pe_op op_mul_str pe_str pe_int)) (pa_cons (pe_op op_add_str pe_str (pv 7)) pa_nil)))))))))) pa_nil)))) (pss_one (ps_if (pt_not (pt_val (pe_cal L.alike (hr.mono (by omega)) rfl (pa_cons (pe_toldR (K := K) (q := qLam) L (i := 9) rfl (hr.mono (by omega)) (LamX.lamS_by (sc := defScope sLaw) (by decide +kernel))) (pa_cons (pe_calR L.read hrm rfl (pa_cons (pv 9) pa_nil)) pa_nil))))) (pss_one (ps_ret pe_bl)) pss_nil)))))))) hR)), ?_⟩
  rintro Q σ H r sc vm m pw pl ws Ln a0 a3 a6 a8 a9 rfl l hl hLn n1 n2 hq
  refine ⟨(by show 10 ≤ sizeLine; decide), fun p1 hp1 => ?_⟩
  obtain ⟨m1, hm1⟩ : ∃ m1 : List Str, m1 = [("in = 1" : Str), "in@+3 = 1", "in@+1 = a@-2", "a + b = in", "a < b < in = 1", "a == in == 1 = 0", "pick(a, 1) = 0", "pick(in, 1, 0) = a", "rest(a, 0) = 1", "rest(in + 1, 2) = in"] := ⟨_, rfl⟩
  have x1 : Ext [] [] H (upd H p1 (.lst (m1.map V.str))) := .new hp1
  have e1 : (upd H p1 (.lst (m1.map V.str))) p1 = some (.lst (m1.map V.str)) := upd_same
  have l1 := l.new x1
  have hl1 := x1.lst hl
  have eg : (upd H p1 (.lst [V.str "in = 1", .str "in@+3 = 1", .str "in@+1 = a@-2", .str "a + b = in", .str "a < b < in = 1", .str "a == in == 1 = 0", .str "pick(a, 1) = 0", .str "pick(in, 1, 0) = a", .str "rest(a, 0) = 1", .str "rest(in + 1, 2) = in"])) = upd H p1 (.lst (m1.map V.str)) := by rw [hm1]; rfl
  rw [eg]
  show tSeq _ _ _ _ _
  generalize upd H p1 (.lst (m1.map V.str)) = H1 at x1 e1 l1 hl1 ⊢
  have c1 : (repS "(" 50).length = 50 := by decide +kernel
  have c2 : (repS ")" 50).length = 50 := by decide +kernel
  refine ⟨_, rfl, _, 50, rfl, rfl, by decide, by decide, by decide, by decide, _, _, rfl, rfl, line100 (by rw [c1]; decide), _, 50, rfl, rfl, by decide, by decide, by decide, by decide, _, _, rfl, rfl, line100 (by rw [len_app, c1, c2]; decide), _, _, rfl, rfl, line100 (by rw [len_app, len_app, c1, c2]; decide), (by show 12 ≤ sizeLine; decide), fun p2 hp2 => ?_⟩
  obtain ⟨m2, hm2⟩ : ∃ m2 : List Str, m2 = [("(in = 1" : Str), "in = ", "", "10 = in", "in @+ 1 = 0", "in@+ 1 = 0", "1 = 1 = 1", repS "(" 50 ++ ("1" : Str) ++ repS ")" 50 ++ (" = 1" : Str), "A = 1", "1 + + 1 = 1", "name d 2 from 0", "tells a"] := ⟨_, rfl⟩
  have x2 : Ext [] [] H1 (upd H1 p2 (.lst (m2.map V.str))) := .new hp2
  have e2 : (upd H1 p2 (.lst (m2.map V.str))) p2 = some (.lst (m2.map V.str)) := upd_same
  have eg2 : (upd H1 p2 (.lst [V.str "(in = 1", .str "in = ", .str "", .str "10 = in", .str "in @+ 1 = 0", .str "in@+ 1 = 0", .str "1 = 1 = 1", .str (repS "(" 50 ++ ("1" : Str) ++ repS ")" 50 ++ (" = 1" : Str)), .str "A = 1", .str "1 + + 1 = 1", .str "name d 2 from 0", .str "tells a"])) = upd H1 p2 (.lst (m2.map V.str)) := by rw [hm2]; rfl
  rw [eg2]
  have l2 := l1.new x2
  have hl2 := x2.lst hl1
  have e12 := x2.lst e1
  generalize upd H1 p2 (.lst (m2.map V.str)) = H2 at x2 e2 l2 hl2 e12 ⊢
  refine ⟨p1, p2, _, _, rfl, rfl, e12, e2, Nat.le_trans (by rw [hm1, hm2]; exact Nat.le_refl 22) (by show 22 ≤ sizeLine; decide), fun p3 hp3 => ?_⟩
  obtain ⟨mo, hmo⟩ : ∃ mo : List Str, mo = m1 ++ m2 := ⟨_, rfl⟩
  rw [← List.map_append, ← hmo]
  have moLn : mo.length = 22 := by rw [hmo, hm1, hm2]; rfl
  have moOk : ∀ z ∈ mo, LnB 4500 60 z ∨ z = repS "(" 50 ++ ("1" : Str) ++ repS ")" 50 ++ (" = 1" : Str) := fun z hz => by
    rw [hmo, hm1, hm2] at hz
    simp only [List.cons_append, List.nil_append, List.mem_cons, List.not_mem_nil, or_false] at hz
    rcases hz with rfl | rfl | rfl | rfl | rfl | rfl | rfl | rfl | rfl | rfl | rfl | rfl | rfl | rfl | rfl | rfl | rfl | rfl | rfl | rfl | rfl | rfl
    all_goals first | exact .inr rfl | exact .inl .d
  have moOk : ∀ z ∈ mo, LnB 4500 60 z := fun z hz => by
    rcases moOk z hz with h | rfl
    · exact h
    · refine ⟨okdN, by rw [len_app, len_app, len_app, c1, c2]; decide, fun e => absurd e (by decide +kernel)⟩
  have x3 : Ext [] [] H2 (upd H2 p3 (.lst (mo.map V.str))) := .new hp3
  have e3 : (upd H2 p3 (.lst (mo.map V.str))) p3 = some (.lst (mo.map V.str)) := upd_same
  have l3 := l2.new x3
  have hl3 := x3.lst hl2
  show tSeq _ _ _ _ _
  generalize upd H2 p3 (.lst (mo.map V.str)) = H3 at x3 e3 l3 hl3 ⊢
  have neR : ∀ {Hx : Hp} {p : Addr} {zs : List Str}, RowAt K Hx r sc → Hx p = some (.lst (zs.map V.str)) → p ≠ r := fun {Hx p zs} row e z => by
    obtain ⟨_, _, _, e', _⟩ := row.ex
    rw [← z, e] at e'
    cases zs with
    | nil => cases e'
    | cons a b => cases e'
  have npl := neR l3.row hl3
  have np3 := neR l3.row e3
  refine ⟨6, rfl, by omega, by omega, ?_⟩
  refine for_range (lo := 0) (n := 6) (fun i σ' H' => ∃ (a9 a11 a12 a13 a14 : Option V), σ' = [a0, some (.ref r), some vm, a3, some (.ref pw), some (.ref pl), a6, some (.str (txtL Ln)), a8, a9, some (.ref p3), a11, a12, a13, a14, none, none, none, none, none, none] ∧ Ls K GT PL qLam r sc vm m pw ws H' ∧ H' pl = some (.lst (Ln.map V.str)) ∧ H' p3 = some (.lst (mo.map V.str)))
    ⟨a9, none, none, none, none, rfl, l3, hl3, e3⟩ (fun i σ' H4 hi hv => ?_) (fun σ' H4 hv => ?_)
  · obtain ⟨a9, a11, a12, a13, a14, rfl, l4, hl4, e4⟩ := hv
    have nl : (Ln.map V.str).length = Ln.length := List.length_map _
    refine ⟨_, rfl, _, rfl, pl, _, rfl, .inl (SqL.of hl4), r, (Ln.map V.str).length, sc, rfl, l4.row, by omega, by omega, fun j1 H5 hj1 x5 row5 => ?_⟩
    have l5 := l4.draw x5 row5
    have hl5 := x5.lstM hl4 (by simp [npl])
    have e5 := x5.lstM e4 (by simp [np3])
    refine ⟨_, rfl, r, 6, sc, rfl, row5, by decide, by decide, fun j2 H6 hj2 x6 row6 => ?_⟩
    have l6 := l5.draw x6 row6
    have hl6 := x6.lstM hl5 (by simp [npl])
    have e6 := x6.lstM e5 (by simp [np3])
    refine ⟨_, _, rfl, ?_⟩
    have k1 : j1 < Ln.length := by rw [← nl]; exact hj1
    have tk : ∀ z ∈ Ln.take j1, LnB 4500 60 z := fun z hz => (hLn z (List.mem_of_mem_take hz)).mono (by decide) (by decide)
    have dr : ∀ k, ∀ z ∈ Ln.drop k, LnB 4500 60 z := fun k z hz => (hLn z (List.mem_of_mem_drop hz)).mono (by decide) (by decide)
    have s24 : ∀ {n : Nat}, n ≤ 24 → n ≤ sizeLine := fun h => Nat.le_trans h (by show 24 ≤ sizeLine; decide)
    refine ⟨_, rfl, _, _, rfl, rfl, _, rfl, ?_⟩
    obtain ⟨Good, hGood⟩ : ∃ Good : V → Hp → Prop, Good = fun v Hx => ∃ (pb : Addr) (Lb : List Str), v = .ref pb ∧ Ls K GT PL qLam r sc vm m pw ws Hx ∧ Hx pl = some (.lst (Ln.map V.str)) ∧ Hx p3 = some (.lst (mo.map V.str)) ∧ Hx pb = some (.lst (Lb.map V.str)) ∧ (∀ z ∈ Lb, LnB 4500 60 z) ∧ Lb.length ≤ 12 := ⟨_, rfl⟩
    have nt : ∀ k, (Ln.take k).length ≤ 11 := fun k => Nat.le_trans (by rw [List.length_take]; omega) n2
    have nd : ∀ k, (Ln.drop k).length ≤ 11 := fun k => Nat.le_trans (by rw [List.length_drop]; omega) n2
    have ntd : (Ln.take j1).length + (Ln.drop j1).length ≤ 11 := by rw [List.length_take, List.length_drop]; omega
    have ntd1 : (Ln.take j1).length + (Ln.drop (j1 + 1)).length ≤ 10 := by rw [List.length_take, List.length_drop]; omega
    refine join_if Good (fun Q' hg => ?_) (fun v H7 hG => ?_)
    · refine iteD (fun _ => ?_) (fun _ => ?_)
      · -- a line more
        refine ⟨_, rfl, _, rfl, _, rfl, pl, _, rfl, SqL.of hl6, fun q1 hq1 => ?_⟩
        rw [cut_tk]
        have y1 : Ext [] [] H6 (upd H6 q1 (.lst ((Ln.take j1).map V.str))) := .new hq1
        have g1 : (upd H6 q1 (.lst ((Ln.take j1).map V.str))) q1 = some (.lst ((Ln.take j1).map V.str)) := upd_same
        have l7 := l6.new y1
        have hl7 := y1.lst hl6
        have e7 := y1.lst e6
        have ng1 := neR l7.row g1
        generalize upd H6 q1 (.lst ((Ln.take j1).map V.str)) = H7 at y1 g1 l7 hl7 e7 ng1 ⊢
        refine ⟨_, rfl, _, rfl, r, p3, _, sc, rfl, l7.row, np3, e7, by rw [List.length_map, moLn]; decide, by rw [List.length_map, moLn]; decide, fun jj w8 H8 hw8 x8 row8 => ?_⟩
        rw [List.getElem?_map] at hw8
        obtain ⟨z8, hz8, rfl⟩ := Option.map_eq_some_iff.mp hw8
        have oz8 := moOk z8 (List.mem_of_getElem? hz8)
        have l8 := l7.draw x8 row8
        have hl8 := x8.lstM hl7 (by simp [npl])
        have e8 := x8.lstM e7 (by simp [np3])
        have g8 := x8.lstM g1 (by simp [ng1])
        refine ⟨s24 (by show 1 ≤ 24; decide), fun q2 hq2 => ?_⟩
        have y9 : Ext [] [] H8 (upd H8 q2 (.lst [.str z8])) := .new hq2
        refine ⟨q1, q2, _, _, rfl, rfl, y9.lst g8, upd_same, s24 (by rw [List.length_map]; have := nt j1; show (Ln.take j1).length + 1 ≤ 24; omega), fun q3 hq3 => ?_⟩
        rw [show ((Ln.take j1).map V.str ++ [V.str z8]) = (Ln.take j1 ++ [z8]).map V.str by rw [List.map_append]; rfl]
        have y10 := y9.trans (Ext.new (GT := []) (M := []) (o := .lst ((Ln.take j1 ++ [z8]).map V.str)) hq3)
        have g10 : (upd (upd H8 q2 (.lst [.str z8])) q3 (.lst ((Ln.take j1 ++ [z8]).map V.str))) q3 = some (.lst ((Ln.take j1 ++ [z8]).map V.str)) := upd_same
        have l10 := l8.new y10
        have hl10 := y10.lst hl8
        have e10 := y10.lst e8
        show tSl _ _ _ _ _ _ _
        generalize upd (upd H8 q2 (.lst [.str z8])) q3 (.lst ((Ln.take j1 ++ [z8]).map V.str)) = H10 at g10 l10 hl10 e10 ⊢
        refine ⟨_, rfl, _, rfl, _, rfl, pl, _, rfl, SqL.of hl10, fun q4 hq4 => ?_⟩
        rw [cut_dr]
        have y11 : Ext [] [] H10 (upd H10 q4 (.lst ((Ln.drop j1).map V.str))) := .new hq4
        refine ⟨q3, q4, _, _, rfl, rfl, y11.lst g10, upd_same, s24 (by rw [List.length_map, List.length_map, List.length_append]; show (Ln.take j1).length + 1 + (Ln.drop j1).length ≤ 24; omega), fun q5 hq5 => ?_⟩
        rw [← List.map_append]
        have y12 := y11.trans (Ext.new (GT := []) (M := []) (o := .lst ((Ln.take j1 ++ [z8] ++ Ln.drop j1).map V.str)) hq5)
        refine hg _ _ ?_
        rw [hGood]
        refine ⟨q5, _, rfl, l10.new y12, y12.lst hl10, y12.lst e10, upd_same, fun z hz => ?_, by rw [List.length_append, List.length_append]; show (Ln.take j1).length + 1 + (Ln.drop j1).length ≤ 12; omega⟩
        rcases List.mem_append.mp hz with z1 | z1
        · rcases List.mem_append.mp z1 with z2 | z2
          · exact tk z z2
          · rw [List.mem_singleton.mp z2]; exact oz8
        · exact dr _ z z1
      · -- a line less
        refine ⟨_, rfl, _, rfl, _, rfl, pl, _, rfl, SqL.of hl6, fun q1 hq1 => ?_⟩
        rw [cut_tk]
        have y1 : Ext [] [] H6 (upd H6 q1 (.lst ((Ln.take j1).map V.str))) := .new hq1
        have g1 : (upd H6 q1 (.lst ((Ln.take j1).map V.str))) q1 = some (.lst ((Ln.take j1).map V.str)) := upd_same
        have l7 := l6.new y1
        have hl7 := y1.lst hl6
        have e7 := y1.lst e6
        generalize upd H6 q1 (.lst ((Ln.take j1).map V.str)) = H7 at y1 g1 l7 hl7 e7 ⊢
        refine ⟨_, rfl, _, rfl, _, _, rfl, rfl, _, rfl, pl, _, rfl, SqL.of hl7, fun q4 hq4 => ?_⟩
        rw [show ((j1 : Int) + 1) = ((j1 + 1 : Nat) : Int) from rfl, cut_dr]
        have y11 : Ext [] [] H7 (upd H7 q4 (.lst ((Ln.drop (j1 + 1)).map V.str))) := .new hq4
        refine ⟨q1, q4, _, _, rfl, rfl, y11.lst g1, upd_same, s24 (by rw [List.length_map, List.length_map]; omega), fun q5 hq5 => ?_⟩
        rw [← List.map_append]
        have y12 := y11.trans (Ext.new (GT := []) (M := []) (o := .lst ((Ln.take j1 ++ Ln.drop (j1 + 1)).map V.str)) hq5)
        refine hg _ _ ?_
        rw [hGood]
        refine ⟨q5, _, rfl, l7.new y12, y12.lst hl7, y12.lst e7, upd_same, fun z hz => ?_, by rw [List.length_append]; omega⟩
        rcases List.mem_append.mp hz with z1 | z1
        · exact tk z z1
        · exact dr _ z z1
    rw [hGood] at hG
    obtain ⟨pb, Lb, rfl, l7, hl7, e7, g7, oLb, nLb⟩ := hG
    show tSeq _ _ _ _ _
    refine ⟨_, rfl, rfl, _, rfl, ?_⟩
    refine join_if Good (fun Q' hg => ?_) (fun v H9 hG => ?_)
    · refine iteD (fun _ => ?_) (fun _ => ?_)
      · -- a line with something behind it
        refine ⟨_, rfl, _, rfl, _, rfl, pl, _, rfl, SqL.of hl7, fun q1 hq1 => ?_⟩
        rw [cut_tk]
        have y1 : Ext [] [] H7 (upd H7 q1 (.lst ((Ln.take j1).map V.str))) := .new hq1
        have g1 : (upd H7 q1 (.lst ((Ln.take j1).map V.str))) q1 = some (.lst ((Ln.take j1).map V.str)) := upd_same
        have l8 := l7.new y1
        have hl8 := y1.lst hl7
        have e8 := y1.lst e7
        have ng1 := neR l8.row g1
        generalize upd H7 q1 (.lst ((Ln.take j1).map V.str)) = H8 at y1 g1 l8 hl8 e8 ng1 ⊢
        obtain ⟨zk, hzk⟩ : ∃ zk, Ln[j1]? = some zk := ⟨_, List.getElem?_eq_getElem k1⟩
        have ozk := hLn zk (List.mem_of_getElem? hzk)
        refine ⟨_, rfl, _, rfl, pl, _, _, _, rfl, rfl, SqL.of hl8, atI_nat (j := j1) (by rw [List.getElem?_map, hzk]; rfl), ?_⟩
        refine ⟨_, rfl, s24 (by show 6 ≤ 24; decide), fun qs hqs => ?_⟩
        have y9 : Ext [] [] H8 (upd H8 qs (.lst [.str " ", .str "0", .str ")", .str "@+1", .str " + 1", .str "x"])) := .new hqs
        have l9 := l8.new y9
        refine ⟨r, qs, _, sc, rfl, l9.row, l8.row.ne hqs, upd_same, (by show 1 ≤ 6; decide), (by show 6 < 1000; decide), fun jj w9 H9 hw9 x9 row9 => ?_⟩
        obtain ⟨sf, rfl, osf, lsf, hsf⟩ : ∃ sf : Str, w9 = .str sf ∧ okN sf ∧ sf.length ≤ 4 ∧ (tl sf).head? ≠ some 116 := by
          match jj, hw9 with
          | 0, h => cases h; exact ⟨_, rfl, okdN, by decide, by decide +kernel⟩
          | 1, h => cases h; exact ⟨_, rfl, okdN, by decide, by decide +kernel⟩
          | 2, h => cases h; exact ⟨_, rfl, okdN, by decide, by decide +kernel⟩
          | 3, h => cases h; exact ⟨_, rfl, okdN, by decide, by decide +kernel⟩
          | 4, h => cases h; exact ⟨_, rfl, okdN, by decide, by decide +kernel⟩
          | 5, h => cases h; exact ⟨_, rfl, okdN, by decide, by decide +kernel⟩
          | _ + 6, h => simp at h
        have ozs : LnB 4500 60 (zk ++ sf) := (ozk.app osf lsf hsf).mono (by decide) (by decide)
        have l10 := l9.draw x9 row9
        have hl10 := x9.lstM (y9.lst hl8) (by simp [npl])
        have e10 := x9.lstM (y9.lst e8) (by simp [np3])
        have g10 := x9.lstM (y9.lst g1) (by simp [ng1])
        refine ⟨_, _, rfl, rfl, line100 (by have := ozk.2.1; omega), s24 (by show 1 ≤ 24; decide), fun q2 hq2 => ?_⟩
        have z9 : Ext [] [] H9 (upd H9 q2 (.lst [.str (zk ++ sf)])) := .new hq2
        refine ⟨q1, q2, _, _, rfl, rfl, z9.lst g10, upd_same, s24 (by rw [List.length_map]; have := nt j1; show (Ln.take j1).length + 1 ≤ 24; omega), fun q3 hq3 => ?_⟩
        rw [show ((Ln.take j1).map V.str ++ [V.str (zk ++ sf)]) = (Ln.take j1 ++ [zk ++ sf]).map V.str by rw [List.map_append]; rfl]
        have z10 := z9.trans (Ext.new (GT := []) (M := []) (o := .lst ((Ln.take j1 ++ [zk ++ sf]).map V.str)) hq3)
        have g11 : (upd (upd H9 q2 (.lst [.str (zk ++ sf)])) q3 (.lst ((Ln.take j1 ++ [zk ++ sf]).map V.str))) q3 = some (.lst ((Ln.take j1 ++ [zk ++ sf]).map V.str)) := upd_same
        have l11 := l10.new z10
        have hl11 := z10.lst hl10
        have e11 := z10.lst e10
        show tSl _ _ _ _ _ _ _
        generalize upd (upd H9 q2 (.lst [.str (zk ++ sf)])) q3 (.lst ((Ln.take j1 ++ [zk ++ sf]).map V.str)) = H11 at g11 l11 hl11 e11 ⊢
        refine ⟨_, rfl, _, rfl, _, _, rfl, rfl, _, rfl, pl, _, rfl, SqL.of hl11, fun q4 hq4 => ?_⟩
        rw [show ((j1 : Int) + 1) = ((j1 + 1 : Nat) : Int) from rfl, cut_dr]
        have z11 : Ext [] [] H11 (upd H11 q4 (.lst ((Ln.drop (j1 + 1)).map V.str))) := .new hq4
        refine ⟨q3, q4, _, _, rfl, rfl, z11.lst g11, upd_same, s24 (by rw [List.length_map, List.length_map, List.length_append]; show (Ln.take j1).length + 1 + (Ln.drop (j1 + 1)).length ≤ 24; omega), fun q5 hq5 => ?_⟩
        rw [← List.map_append]
        have z12 := z11.trans (Ext.new (GT := []) (M := []) (o := .lst ((Ln.take j1 ++ [zk ++ sf] ++ Ln.drop (j1 + 1)).map V.str)) hq5)
        refine hg _ _ ?_
        rw [hGood]
        refine ⟨q5, _, rfl, l11.new z12, z12.lst hl11, z12.lst e11, upd_same, fun z hz => ?_, by rw [List.length_append, List.length_append]; show (Ln.take j1).length + 1 + (Ln.drop (j1 + 1)).length ≤ 12; omega⟩
        rcases List.mem_append.mp hz with z1 | z1
        · rcases List.mem_append.mp z1 with z2 | z2
          · exact tk z z2
          · rw [List.mem_singleton.mp z2]; exact ozs
        · exact dr _ z z1
      · refine ⟨_, rfl, hg _ _ ?_⟩
        rw [hGood]
        exact ⟨pb, Lb, rfl, l7, hl7, e7, g7, oLb, nLb⟩
    rw [hGood] at hG
    obtain ⟨pb, Lb, rfl, l9, hl9, e9, g9, oLb, nLb⟩ := hG
    dsimp only [gName, tSeq, tAsg]
    refine rd_join (i := 14) (K := K) (p := pb) (L := Lb) (by rfl) g9 (fun z hz => Nat.le_trans (oLb z hz).2.1 (by decide)) (by omega) fun H10 x10 => ?_
    have l10 := l9.new x10
    have hl10 := x10.lst hl9
    have e10 := x10.lst e9
    have txl : (txtL Ln).length ≤ 60000 := by
      have h1 := txt_len (a := 4400) (L := Ln) fun z hz => (hLn z hz).2.1
      have h2 : Ln.length * 4401 ≤ 11 * 4401 := Nat.mul_le_mul_right _ n2
      omega
    have vbl : (txtL Lb).length ≤ 60000 := by
      have h1 := txt_len (a := 4500) (L := Lb) fun z hz => (oLb z hz).2.1
      have h2 : Lb.length * 4501 ≤ 12 * 4501 := Nat.mul_le_mul_right _ nLb
      omega
    have Ln45 : ∀ z ∈ Ln, LnB 4500 60 z := fun z hz => (hLn z hz).mono (by decide) (by decide)
    have i1 : InOk (.str (txtL Lb)) := in_txt oLb (by omega)
    have i2 : InOk (.str (cutS (txtL Lb) none (some (-1)))) := in_cut oLb (by omega)
    have i3 : InOk (.str (txtL Ln ++ repS "1 = 1\n" 7)) := by
      have e : txtL Ln ++ repS "1 = 1\n" 7 = txtL (Ln ++ List.replicate 7 ("1 = 1" : Str)) := by
        rw [txt_app]
        congr 1
      rw [e]
      refine in_txt (fun z hz => ?_) (by rw [List.length_append, List.length_replicate]; omega)
      rcases List.mem_append.mp hz with h | h
      · exact Ln45 z h
      · rw [List.eq_of_mem_replicate h]; exact .d
    have i4 : InOk (.str (("letters 4\n" : Str) ++ txtL Ln)) := by
      have e : ("letters 4\n" : Str) ++ txtL Ln = txtL ([("letters 4" : Str)] ++ Ln) := by
        rw [txt_app]
        congr 1
      rw [e]
      refine in_txt (fun z hz => ?_) (by rw [List.length_append]; show 1 + Ln.length ≤ 19; omega)
      rcases List.mem_append.mp hz with h | h
      · rw [List.mem_singleton.mp h]; exact .d
      · exact Ln45 z h
    have c7 : (repS "1 = 1\n" 7).length = 42 := by decide +kernel
    refine ⟨_, rfl, _, rfl, _, rfl, _, rfl, _, rfl, _, rfl, _, rfl, txtL Lb, rfl, line100 (by omega), ?_⟩
    refine ⟨_, rfl, ?_⟩
    refine ⟨_, 7, rfl, rfl, by decide, by decide, by decide, by decide, _, _, rfl, rfl, line100 (by rw [c7]; omega), _, rfl, _, _, rfl, rfl, line100 (by show 10 + (txtL Ln).length ≤ _; omega), s24 (by show 9 ≤ 24; decide), fun qv hqv => ?_⟩
    obtain ⟨vs9, hvs9⟩ : ∃ vs9 : List V, vs9 = [.str (txtL Lb), .str (txtL Lb), .str (txtL Lb), .str (cutS (txtL Lb) none (some (-1))), .non, .str "", .int 3, .str (txtL Ln ++ repS "1 = 1\n" 7), .str (("letters 4\n" : Str) ++ txtL Ln)] := ⟨_, rfl⟩
    have all9 : ∀ v ∈ vs9, InOk v := by
      rw [hvs9]
      intro v hv
      simp only [List.mem_cons, List.not_mem_nil, or_false] at hv
      rcases hv with rfl | rfl | rfl | rfl | rfl | rfl | rfl | rfl | rfl
      · exact i1
      · exact i1
      · exact i1
      · exact i2
      · exact .inl rfl
      · exact .inr (.inr ⟨_, rfl, okd, by decide, by decide⟩)
      · exact .inr (.inl ⟨_, rfl⟩)
      · exact i3
      · exact i4
    have len9 : vs9.length = 9 := by rw [hvs9]; rfl
    rw [← hvs9]
    have y11 : Ext [] [] H10 (upd H10 qv (.lst vs9)) := .new hqv
    have l11 := l10.new y11
    have hl11 := y11.lst hl10
    have e11 := y11.lst e10
    refine ⟨r, qv, vs9, sc, rfl, l11.row, l10.row.ne hqv, upd_same, by omega, by omega, fun jj v12 H12 hv12 x12 row12 => ?_⟩
    have l12 := l11.draw x12 row12
    have hl12 := x12.lstM hl11 (by simp [npl])
    have e12 := x12.lstM e11 (by simp [np3])
    have iv := all9 v12 (List.mem_of_getElem? hv12)
    show tIfS _ _ _ _ _ _
    refine not_q fun Q' hQ => ?_
    refine rd_same L (i := 9) rfl iv l12.tt l12.tb fun H13 x13 t13 => hQ _ _ (iteF ?_)
    have l13 := l12.told x13 t13
    exact ⟨_, _, _, _, _, rfl, l13, x13.lst hl12, x13.lst e12⟩
  · obtain ⟨a9, a11, a12, a13, a14, rfl, l4, hl4, e4⟩ := hv
    exact qR Q _ H4 r sc vm m pw ws _ _ _ _ _ _ _ _ _ _ _ _ _ rfl l4 hq
end
end ML
set_option maxHeartbeats 4000000
namespace ML
open PySem PySem.Spec PyProof.Rows L2 TL Gn
/-! ### the signs of a written term -/
def sgo (o : Int) : List Str := if o = 0 then [] else [if 0 < o then ("@+" : Str) else "@-", Str.ofString (toString (if o < 0 then -o else o))]
def sgs (ws : List Str) : Tm → Nat → List Str
  | .inn o, _ => ("in" : Str) :: sgo o
  | .ofn i o, _ => ws.getD i (Str.ofString "") :: sgo o
  | .isc c, _ => [numS c]
  | .rst a c, _ => ("rest" : Str) :: ("(" : Str) :: (sgs ws a 0 ++ ((("," : Str)) :: numS c :: [(")" : Str)]))
  | .pck a b c, _ => ("pick" : Str) :: ("(" : Str) :: (sgs ws a 0 ++ (("," : Str) :: (sgs ws b 0 ++ (("," : Str) :: (sgs ws c 0 ++ [(")" : Str)])))))
  | .bin op a b, r =>
    if op.rank < r then ("(" : Str) :: ((sgs ws a (if 0 < op.rank then op.rank else 1) ++ (op.sign :: sgs ws b (op.rank + 1))) ++ [(")" : Str)]) else sgs ws a (if 0 < op.rank then op.rank else 1) ++ (op.sign :: sgs ws b (op.rank + 1))
/-- a term's text ends here -/
def brk (r : List Nat) : Prop := r = [] ∨ ∃ c r', r = c :: r' ∧ (c = 32 ∨ c = 41 ∨ c = 44)
/-- a word ends here -/
def wbr (r : List Nat) : Prop := ∀ c, r.head? = some c → alnum c = false
theorem wbr_c {c : Nat} {r : List Nat} (h : alnum c = false) : wbr (c :: r) := fun d e => by
  cases e
  exact h
theorem brk.wbr {r : List Nat} (h : brk r) : wbr r := by
  rcases h with rfl | ⟨c, r', rfl, h⟩
  · intro c e; cases e
  · refine wbr_c ?_
    rcases h with rfl | rfl | rfl <;> decide
theorem alnum_ne {c : Nat} (h : alnum c = true) : c ≠ 32 ∧ c ≠ 61 ∧ c ≠ 60 ∧ c ≠ 43 ∧ c ≠ 42 ∧ c ≠ 40 ∧ c ≠ 41 ∧ c ≠ 44 ∧ c ≠ 64 := by
  refine ⟨?_, ?_, ?_, ?_, ?_, ?_, ?_, ?_, ?_⟩ <;> (intro e; subst e; revert h; decide)
theorem signAt_al {c : Nat} {r : List Nat} (h : alnum c = true) : signAt (c :: r) = none := by
  obtain ⟨_, h1, h2, h3, h4, h5, h6, h7, h8⟩ := alnum_ne h
  unfold signAt
  split
  all_goals first
    | rfl
    | (rename_i e; injection e with e1 e2; first | exact absurd e1 h1 | exact absurd e1 h2 | exact absurd e1 h3 | exact absurd e1 h4 | exact absurd e1 h5 | exact absurd e1 h6 | exact absurd e1 h7 | exact absurd e1 h8)
theorem sg_w {w r : List Nat} (h0 : w ≠ []) (ha : ∀ c ∈ w, alnum c = true) (hr : wbr r) : signsF (w ++ r) = (signsF r).map (S w :: ·) := by
  cases w with
  | nil => exact absurd rfl h0
  | cons c w =>
    have hc := ha c List.mem_cons_self
    have etk : ((c :: w) ++ r).takeWhile alnum = c :: w := by
      rw [List.takeWhile_append_of_pos ha]
      have : r.takeWhile alnum = [] := by
        cases r with
        | nil => rfl
        | cons d r => rw [List.takeWhile_cons, hr d rfl]; rfl
      rw [this, List.append_nil]
    have edr : ((c :: w) ++ r).dropWhile alnum = r := by
      rw [List.dropWhile_append_of_pos ha]
      cases r with
      | nil => rfl
      | cons d r => rw [List.dropWhile_cons, hr d rfl]; rfl
    have := sg_word (c := c) (r := w ++ r) (alnum_ne hc).1 (signAt_al hc) (by
      show ((c :: w) ++ r).takeWhile alnum ≠ []
      rw [etk]
      simp)
    rw [show c :: (w ++ r) = (c :: w) ++ r from rfl, etk, edr] at this
    exact this
theorem map_pre {x : Option (List Str)} {a b : List Str} : (x.map (a ++ ·)).map (b ++ ·) = x.map ((b ++ a) ++ ·) := by
  cases x with
  | none => rfl
  | some v => simp
theorem map_cons {x : Option (List Str)} {s : Str} : x.map (s :: ·) = x.map ([s] ++ ·) := rfl
theorem dig_al {c : Nat} (h : c ≤ 9) : tl (numS c) = [48 + c] ∧ alnum (48 + c) = true ∧ numS c = S [48 + c] := by
  have : c = 0 ∨ c = 1 ∨ c = 2 ∨ c = 3 ∨ c = 4 ∨ c = 5 ∨ c = 6 ∨ c = 7 ∨ c = 8 ∨ c = 9 := by omega
  rcases this with rfl | rfl | rfl | rfl | rfl | rfl | rfl | rfl | rfl | rfl <;> exact ⟨by decide +kernel, by decide, by decide +kernel⟩
theorem sg_num {c : Nat} {r : List Nat} (h : c ≤ 9) (hr : wbr r) : signsF (tl (numS c) ++ r) = (signsF r).map ([numS c] ++ ·) := by
  obtain ⟨e1, e2, e3⟩ := dig_al h
  rw [e1, sg_w (by simp) (fun d hd => by rw [List.mem_singleton.mp hd]; exact e2) hr, e3]
  rfl
theorem off_wbr {o : Int} {r : List Nat} (h1 : -2 ≤ o) (h2 : o ≤ 2) (hr : brk r) : wbr (tl (offF o) ++ r) := by
  rcases off_cases h1 h2 with rfl | rfl | rfl | rfl | rfl
  · rw [show tl (offF (-2)) = [64, 45, 50] by decide +kernel]; exact wbr_c (by decide)
  · rw [show tl (offF (-1)) = [64, 45, 49] by decide +kernel]; exact wbr_c (by decide)
  · rw [show tl (offF 0) = [] by decide +kernel]; exact hr.wbr
  · rw [show tl (offF 1) = [64, 43, 49] by decide +kernel]; exact wbr_c (by decide)
  · rw [show tl (offF 2) = [64, 43, 50] by decide +kernel]; exact wbr_c (by decide)
theorem sg_off {o : Int} {r : List Nat} (h1 : -2 ≤ o) (h2 : o ≤ 2) (hr : brk r) : signsF (tl (offF o) ++ r) = (signsF r).map (sgo o ++ ·) := by
  have neg : ∀ d : Nat, alnum d = true → signsF (64 :: 45 :: [d] ++ r) = (signsF r).map ([("@-" : Str), S [d]] ++ ·) := fun d hd => by
    show signsF (64 :: (45 :: ([d] ++ r))) = _
    rw [sg_at (c := 64) (s := "@-") (r' := [d] ++ r) (by decide) rfl, sg_w (by simp) (fun c hc => by rw [List.mem_singleton.mp hc]; exact hd) hr.wbr, map_cons, map_cons, map_pre]
    rfl
  have pos : ∀ d : Nat, alnum d = true → signsF (64 :: 43 :: [d] ++ r) = (signsF r).map ([("@+" : Str), S [d]] ++ ·) := fun d hd => by
    show signsF (64 :: (43 :: ([d] ++ r))) = _
    rw [sg_at (c := 64) (s := "@+") (r' := [d] ++ r) (by decide) rfl, sg_w (by simp) (fun c hc => by rw [List.mem_singleton.mp hc]; exact hd) hr.wbr, map_cons, map_cons, map_pre]
    rfl
  rcases off_cases h1 h2 with rfl | rfl | rfl | rfl | rfl
  · rw [show tl (offF (-2)) = 64 :: 45 :: [50] by decide +kernel, neg 50 (by decide), show sgo (-2) = [("@-" : Str), S [50]] by decide +kernel]
  · rw [show tl (offF (-1)) = 64 :: 45 :: [49] by decide +kernel, neg 49 (by decide), show sgo (-1) = [("@-" : Str), S [49]] by decide +kernel]
  · rw [show tl (offF 0) = [] by decide +kernel, show sgo 0 = [] by decide +kernel, List.nil_append]
    cases signsF r <;> rfl
  · rw [show tl (offF 1) = 64 :: 43 :: [49] by decide +kernel, pos 49 (by decide), show sgo 1 = [("@+" : Str), S [49]] by decide +kernel]
  · rw [show tl (offF 2) = 64 :: 43 :: [50] by decide +kernel, pos 50 (by decide), show sgo 2 = [("@+" : Str), S [50]] by decide +kernel]
/-- words of names -/
def WsW (ws : List Str) : Prop := ∀ z ∈ ws, tl z ≠ [] ∧ ∀ c ∈ tl z, alnum c = true
theorem word_al {z : Str} (h : isWordF z = true) : tl z ≠ [] ∧ ∀ c ∈ tl z, alnum c = true := by
  unfold isWordF at h
  cases e : tl z with
  | nil => rw [e] at h; cases h
  | cons c r =>
    rw [e] at h
    simp only [Bool.and_eq_true, List.all_eq_true] at h
    exact ⟨by simp, h.2.2.2⟩
theorem sg_W {ws : List Str} (hw : WsW ws) : ∀ (t : Tm) (k : Nat) (r : List Nat), t.ok ws.length → brk r → signsF (tl (W ws t k) ++ r) = (signsF r).map (sgs ws t k ++ ·)
  | .inn o, k, r, h, hr => by
    show signsF (tl (("in" : Str) ++ offF o) ++ r) = (signsF r).map ((("in" : Str) :: sgo o) ++ ·)
    rw [tl_append, List.append_assoc, sg_w (by decide) (by decide) (off_wbr h.1 h.2 hr), sg_off h.1 h.2 hr, map_cons, map_pre]
    rfl
  | .ofn i o, k, r, h, hr => by
    obtain ⟨h0, h1, h2⟩ := h
    show signsF (tl (ws.getD i (Str.ofString "") ++ offF o) ++ r) = (signsF r).map ((ws.getD i (Str.ofString "") :: sgo o) ++ ·)
    have hz : ws.getD i (Str.ofString "") ∈ ws := by
      rw [List.getD_eq_getElem?_getD, List.getElem?_eq_getElem h0]
      exact List.getElem_mem h0
    obtain ⟨z1, z2⟩ := hw _ hz
    rw [tl_append, List.append_assoc, sg_w z1 z2 (off_wbr h1 h2 hr), sg_off h1 h2 hr, map_cons, map_pre, S_tl]
    rfl
  | .isc c, k, r, h, hr => sg_num h hr.wbr
  | .rst a c, k, r, h, hr => by
    obtain ⟨h0, h1, h2⟩ := h
    have e : tl (W ws (.rst a c) k) ++ r = tl ("rest" : Str) ++ (40 :: (tl (W ws a 0) ++ (44 :: 32 :: (tl (numS c) ++ (41 :: r))))) := by
      show tl (("rest(" : Str) ++ W ws a 0 ++ (", " : Str) ++ numS c ++ (")" : Str)) ++ r = _
      rw [tl_append, tl_append, tl_append, tl_append, show tl ("rest(" : Str) = tl ("rest" : Str) ++ [40] by decide, show tl (", " : Str) = [44, 32] by decide, show tl (")" : Str) = [41] by decide]
      simp only [List.append_assoc, List.cons_append, List.nil_append]
    rw [e, sg_w (by decide) (by decide) (wbr_c (by decide)), sg_at (c := 40) (s := "(") (by decide) rfl, sg_W hw a 0 _ h0 (.inr ⟨44, _, rfl, .inr (.inr rfl)⟩), sg_at (c := 44) (s := ",") (by decide) rfl, sg_sp, sg_num h2 (wbr_c (by decide)), sg_at (c := 41) (s := ")") (by decide) rfl]
    cases signsF r with
    | none => rfl
    | some v => simp [sgs, S_tl]
  | .pck a b c, k, r, h, hr => by
    obtain ⟨ha, hb, hc⟩ := h
    have e : tl (W ws (.pck a b c) k) ++ r = tl ("pick" : Str) ++ (40 :: (tl (W ws a 0) ++ (44 :: 32 :: (tl (W ws b 0) ++ (44 :: 32 :: (tl (W ws c 0) ++ (41 :: r))))))) := by
      show tl (("pick(" : Str) ++ (W ws a 0 ++ (", " : Str) ++ (W ws b 0 ++ (", " : Str) ++ W ws c 0)) ++ (")" : Str)) ++ r = _
      simp only [tl_append]
      rw [show tl ("pick(" : Str) = tl ("pick" : Str) ++ [40] by decide, show tl (", " : Str) = [44, 32] by decide, show tl (")" : Str) = [41] by decide]
      simp only [List.append_assoc, List.cons_append, List.nil_append]
    rw [e, sg_w (by decide) (by decide) (wbr_c (by decide)), sg_at (c := 40) (s := "(") (by decide) rfl, sg_W hw a 0 _ ha (.inr ⟨44, _, rfl, .inr (.inr rfl)⟩), sg_at (c := 44) (s := ",") (by decide) rfl, sg_sp,
      sg_W hw b 0 _ hb (.inr ⟨44, _, rfl, .inr (.inr rfl)⟩), sg_at (c := 44) (s := ",") (by decide) rfl, sg_sp, sg_W hw c 0 _ hc (.inr ⟨41, _, rfl, .inr (.inl rfl)⟩), sg_at (c := 41) (s := ")") (by decide) rfl]
    cases signsF r with
    | none => rfl
    | some v => simp [sgs, S_tl]
  | .bin op a b, k, r, h, hr => by
    obtain ⟨ha, hb⟩ := h
    have body : ∀ r, brk r → signsF (tl (W ws a (if 0 < op.rank then op.rank else 1) ++ ((" " : Str) ++ op.sign ++ (" " : Str)) ++ W ws b (op.rank + 1)) ++ r) = (signsF r).map ((sgs ws a (if 0 < op.rank then op.rank else 1) ++ (op.sign :: sgs ws b (op.rank + 1))) ++ ·) := fun r hr => by
      have e : tl (W ws a (if 0 < op.rank then op.rank else 1) ++ ((" " : Str) ++ op.sign ++ (" " : Str)) ++ W ws b (op.rank + 1)) ++ r = tl (W ws a (if 0 < op.rank then op.rank else 1)) ++ (32 :: (tl op.sign ++ (32 :: (tl (W ws b (op.rank + 1)) ++ r)))) := by
        simp only [tl_append]
        rw [show tl (" " : Str) = [32] by decide]
        simp only [List.append_assoc, List.cons_append, List.nil_append]
      have es : ∀ l, signsF (tl op.sign ++ (32 :: l)) = (signsF l).map (op.sign :: ·) := fun l => by
        cases op with
        | same => rw [show tl (Op.same.sign) ++ (32 :: l) = 61 :: 61 :: 32 :: l by rfl, sg_at (c := 61) (s := "==") (r' := 32 :: l) (by decide) rfl, sg_sp]; rfl
        | less => rw [show tl (Op.less.sign) ++ (32 :: l) = 60 :: 32 :: l by rfl, sg_at (c := 60) (s := "<") (r' := 32 :: l) (by decide) rfl, sg_sp]; rfl
        | plus => rw [show tl (Op.plus.sign) ++ (32 :: l) = 43 :: 32 :: l by rfl, sg_at (c := 43) (s := "+") (r' := 32 :: l) (by decide) rfl, sg_sp]; rfl
        | times => rw [show tl (Op.times.sign) ++ (32 :: l) = 42 :: 32 :: l by rfl, sg_at (c := 42) (s := "*") (r' := 32 :: l) (by decide) rfl, sg_sp]; rfl
      rw [e, sg_W hw a _ _ ha (.inr ⟨32, _, rfl, .inl rfl⟩), sg_sp, es, sg_W hw b _ _ hb hr]
      cases signsF r with
      | none => rfl
      | some v => simp
    show signsF (tl (if op.rank < k then ("(" : Str) ++ (W ws a (if 0 < op.rank then op.rank else 1) ++ ((" " : Str) ++ op.sign ++ (" " : Str)) ++ W ws b (op.rank + 1)) ++ (")" : Str) else W ws a (if 0 < op.rank then op.rank else 1) ++ ((" " : Str) ++ op.sign ++ (" " : Str)) ++ W ws b (op.rank + 1)) ++ r) = (signsF r).map ((if op.rank < k then ("(" : Str) :: ((sgs ws a (if 0 < op.rank then op.rank else 1) ++ (op.sign :: sgs ws b (op.rank + 1))) ++ [(")" : Str)]) else sgs ws a (if 0 < op.rank then op.rank else 1) ++ (op.sign :: sgs ws b (op.rank + 1))) ++ ·)
    by_cases hk : op.rank < k
    · rw [if_pos hk, if_pos hk]
      have e : ∀ z : Str, tl (("(" : Str) ++ z ++ (")" : Str)) ++ r = 40 :: (tl z ++ (41 :: r)) := fun z => by
        rw [tl_append, tl_append, show tl ("(" : Str) = [40] by decide, show tl (")" : Str) = [41] by decide]
        simp only [List.append_assoc, List.cons_append, List.nil_append]
      rw [e, sg_at (c := 40) (s := "(") (by decide) rfl, body _ (.inr ⟨41, _, rfl, .inr (.inl rfl)⟩), sg_at (c := 41) (s := ")") (by decide) rfl]
      cases signsF r with
      | none => rfl
      | some v => simp
    · rw [if_neg hk, if_neg hk]
      exact body r hr
/-- the signs of an equation's line -/
def sge (ws : List Str) (e : Tm × Tm) : List Str := sgs ws e.1 0 ++ (("=" : Str) :: sgs ws e.2 0)
theorem sg_eq {ws : List Str} (hw : WsW ws) {e : Tm × Tm} (h : e.1.ok ws.length ∧ e.2.ok ws.length) : signsF (tl (eqLF ws e)) = some (sge ws e) := by
  have e1 : tl (eqLF ws e) = tl (W ws e.1 0) ++ (32 :: 61 :: 32 :: (tl (W ws e.2 0) ++ [])) := by
    show tl (W ws e.1 0 ++ (" = " : Str) ++ W ws e.2 0) = _
    rw [tl_append, tl_append, show tl (" = " : Str) = [32, 61, 32] by decide]
    simp only [List.append_assoc, List.cons_append, List.nil_append, List.append_nil]
  rw [e1, sg_W hw _ _ _ h.1 (.inr ⟨32, _, rfl, .inl rfl⟩), sg_sp, sg_at (c := 61) (s := "=") (r' := 32 :: (tl (W ws e.2 0) ++ [])) (by decide) rfl, sg_sp, sg_W hw _ _ _ h.2 (.inl rfl), sg_nil]
  simp [sge]
end ML
set_option maxHeartbeats 4000000
namespace ML
open PySem PySem.Spec PyProof.Rows L2 TL Gn
/-! ### a written term is read back -/
/-- no sign goes on here -/
def stp (k : Nat) (l : List Str) : Prop := ∀ s, l.head? = some s → s ≠ "@+" ∧ s ≠ "@-" ∧ (k ≤ 2 → s ≠ "*") ∧ (k ≤ 1 → s ≠ "+") ∧ (k = 0 → s ≠ "==" ∧ s ≠ "<")
theorem stp.mono {k j : Nat} {l : List Str} (h : stp k l) (hj : k ≤ j) : stp j l := fun s e => by
  obtain ⟨a, b, c, d, g⟩ := h s e
  exact ⟨a, b, fun _ => c (by omega), fun _ => d (by omega), fun _ => g (by omega)⟩
theorem stp_nil {k : Nat} : stp k [] := fun s e => by cases e
theorem stp_c {k : Nat} {s : Str} {l : List Str} (h : s ≠ "@+" ∧ s ≠ "@-" ∧ (k ≤ 2 → s ≠ "*") ∧ (k ≤ 1 → s ≠ "+") ∧ (k = 0 → s ≠ "==" ∧ s ≠ "<")) : stp k (s :: l) := fun x e => by
  cases e
  exact h
theorem stM {p : List Str → PR} {k : Nat} {t : Tm} {l : List Str} (h : stp k l) (hk : k ≤ 2) : chL p opM t l = some (t, l) := by
  cases l with
  | nil => rfl
  | cons s r => exact chL_stop (if_neg ((h s rfl).2.2.1 hk))
theorem stA {p : List Str → PR} {k : Nat} {t : Tm} {l : List Str} (h : stp k l) (hk : k ≤ 1) : chL p opA t l = some (t, l) := by
  cases l with
  | nil => rfl
  | cons s r => exact chL_stop (if_neg ((h s rfl).2.2.2.1 hk))
theorem stC {p : List Str → PR} {t : Tm} {l : List Str} (h : stp 0 l) : compR p t l = some (t, l) := by
  cases l with
  | nil => rfl
  | cons s r =>
    refine compR_stop ?_
    obtain ⟨a, b⟩ := (h s rfl).2.2.2.2 rfl
    unfold opC
    rw [if_neg a, if_neg b]
theorem exp_hd (s : Str) (l : List Str) : expect s (s :: l) = some l := by
  show (if s = s then some l else none) = _
  exact if_pos rfl
theorem offF_cons (s : Str) (r : List Str) : offsetF (s :: r) = if s = "@+" then (match r with | [] => none | w :: r' => (digitF w 1 2).map fun n => (n, r')) else if s = "@-" then (match r with | [] => none | w :: r' => (digitF w 1 2).map fun n => (0 - n, r')) else some (0, s :: r) := rfl
theorem off_back {o : Int} {r : List Str} (h1 : -2 ≤ o) (h2 : o ≤ 2) (h : stp 3 r) : offsetF (sgo o ++ r) = some (o, r) := by
  have neg : ∀ (w : Str) (n : Int), digitF w 1 2 = some n → offsetF (("@-" : Str) :: w :: r) = some (0 - n, r) := fun w n e => by
    rw [offF_cons, if_neg (by decide +kernel), if_pos rfl]
    simp only
    rw [e]
    rfl
  have pos : ∀ (w : Str) (n : Int), digitF w 1 2 = some n → offsetF (("@+" : Str) :: w :: r) = some (n, r) := fun w n e => by
    rw [offF_cons, if_pos rfl]
    simp only
    rw [e]
    rfl
  rcases off_cases h1 h2 with rfl | rfl | rfl | rfl | rfl
  · rw [show sgo (-2) = [("@-" : Str), "2"] by decide +kernel]
    exact neg "2" 2 (by decide +kernel)
  · rw [show sgo (-1) = [("@-" : Str), "1"] by decide +kernel]
    exact neg "1" 1 (by decide +kernel)
  · rw [show sgo 0 = [] by decide +kernel, List.nil_append]
    cases r with
    | nil => rfl
    | cons s r =>
      obtain ⟨a, b, _⟩ := h s rfl
      rw [offF_cons, if_neg a, if_neg b]
  · rw [show sgo 1 = [("@+" : Str), "1"] by decide +kernel]
    exact pos "1" 1 (by decide +kernel)
  · rw [show sgo 2 = [("@+" : Str), "2"] by decide +kernel]
    exact pos "2" 2 (by decide +kernel)
structure WsG (ws : List Str) : Prop where
  word : ∀ z ∈ ws, isWordF z = true
  nd : ws.Nodup
theorem word_ne {z : Str} (h : isWordF z = true) : z ≠ "(" ∧ z ≠ "pick" ∧ z ≠ "rest" ∧ z ≠ "in" ∧ ∀ c : Nat, c ≤ 9 → numS c ≠ z := by
  refine ⟨?_, ?_, ?_, ?_, ?_⟩
  · rintro rfl; revert h; decide +kernel
  · rintro rfl; revert h; decide +kernel
  · rintro rfl; revert h; decide +kernel
  · rintro rfl; revert h; decide +kernel
  · intro c hc e
    subst e
    have : c = 0 ∨ c = 1 ∨ c = 2 ∨ c = 3 ∨ c = 4 ∨ c = 5 ∨ c = 6 ∨ c = 7 ∨ c = 8 ∨ c = 9 := by omega
    rcases this with rfl | rfl | rfl | rfl | rfl | rfl | rfl | rfl | rfl | rfl <;> (revert h; decide +kernel)
theorem getD_mem {ws : List Str} {i : Nat} (h : i < ws.length) : ws.getD i (Str.ofString "") = ws[i] := by
  rw [List.getD_eq_getElem?_getD, List.getElem?_eq_getElem h]
  rfl
theorem idx_getD {ws : List Str} (nd : ws.Nodup) {i : Nat} (h : i < ws.length) : ws.idxOf (ws.getD i (Str.ofString "")) = i := by
  rw [getD_mem h]
  exact List.Nodup.idxOf_getElem nd i h
theorem dig_back {c : Nat} (h : c ≤ 9) : digitF (numS c) 0 9 = some (c : Int) ∧ (1 ≤ c → digitF (numS c) 1 9 = some (c : Int)) := by
  have : c = 0 ∨ c = 1 ∨ c = 2 ∨ c = 3 ∨ c = 4 ∨ c = 5 ∨ c = 6 ∨ c = 7 ∨ c = 8 ∨ c = 9 := by omega
  rcases this with rfl | rfl | rfl | rfl | rfl | rfl | rfl | rfl | rfl | rfl <;> exact ⟨by decide +kernel, by first | (intro _; decide +kernel) | (intro h; omega)⟩
theorem num_ne {c : Nat} (h : c ≤ 9) : numS c ≠ "(" ∧ numS c ≠ "pick" ∧ numS c ≠ "rest" ∧ numS c ≠ "in" := by
  have : c = 0 ∨ c = 1 ∨ c = 2 ∨ c = 3 ∨ c = 4 ∨ c = 5 ∨ c = 6 ∨ c = 7 ∨ c = 8 ∨ c = 9 := by omega
  rcases this with rfl | rfl | rfl | rfl | rfl | rfl | rfl | rfl | rfl | rfl <;> exact ⟨by decide +kernel, by decide +kernel, by decide +kernel, by decide +kernel⟩
theorem alone_eq2 (ws : List Str) (f : Nat) (s : Str) (r : List Str) : aloneF ws (f + 1) (s :: r) =
    if s = "(" then (sideF ws f r).bind fun x => (expect ")" x.2).bind fun r' => some (x.1, r')
    else if s = "pick" then pickF (sideF ws f) r
    else if s = "rest" then restF (sideF ws f) r
    else if s = "in" then (offsetF r).map fun x => (.inn x.1, x.2)
    else if s ∈ ws then (offsetF r).map fun x => (.ofn (ws.idxOf s) x.1, x.2)
    else (digitF s 0 9).map fun n => (.isc n.toNat, r) := rfl
/-- how a term is read back at each rank -/
structure Cl (ws : List Str) (f : Nat) (t : Tm) : Prop where
  al : ∀ rest, stp 3 rest → aloneF ws f (sgs ws t 3 ++ rest) = some (t, rest)
  mc : ∀ rest, stp 3 rest → ∃ t0 l0, aloneF ws f (sgs ws t 2 ++ rest) = some (t0, l0) ∧ chL (aloneF ws f) opM t0 l0 = chL (aloneF ws f) opM t rest
  ac : ∀ rest, stp 2 rest → ∃ t0 l0, mulF ws f (sgs ws t 1 ++ rest) = some (t0, l0) ∧ chL (mulF ws f) opA t0 l0 = chL (mulF ws f) opA t rest
  sd : ∀ rest, stp 0 rest → sideF ws f (sgs ws t 0 ++ rest) = some (t, rest)
section
variable {ws : List Str} {f : Nat} {t a b : Tm} {rest : List Str}
theorem mul_of {l : List Str} (h : stp 2 rest) (g : ∃ t0 l0, aloneF ws f l = some (t0, l0) ∧ chL (aloneF ws f) opM t0 l0 = chL (aloneF ws f) opM t rest) : mulF ws f l = some (t, rest) := by
  obtain ⟨t0, l0, e1, e2⟩ := g
  show chainF (aloneF ws f) opM l = _
  rw [chain_eq, e1]
  show chL (aloneF ws f) opM t0 l0 = _
  rw [e2, stM h (Nat.le_refl 2)]
theorem add_of {l : List Str} (h : stp 1 rest) (g : ∃ t0 l0, mulF ws f l = some (t0, l0) ∧ chL (mulF ws f) opA t0 l0 = chL (mulF ws f) opA t rest) : addF ws f l = some (t, rest) := by
  obtain ⟨t0, l0, e1, e2⟩ := g
  show chainF (mulF ws f) opA l = _
  rw [chain_eq, e1]
  show chL (mulF ws f) opA t0 l0 = _
  rw [e2, stA h (Nat.le_refl 1)]
theorem side_of {l : List Str} (h : stp 0 rest) (g : addF ws f l = some (t, rest)) : sideF ws f l = some (t, rest) := by
  show compF (addF ws f) l = _
  rw [comp_eq, g]
  show compR (addF ws f) t rest = _
  rw [stC h]
theorem Cl.mul (c : Cl ws f t) (h : stp 2 rest) : mulF ws f (sgs ws t 2 ++ rest) = some (t, rest) := mul_of h (c.mc rest (h.mono (by decide)))
theorem Cl.add (c : Cl ws f t) (h : stp 1 rest) : addF ws f (sgs ws t 1 ++ rest) = some (t, rest) := add_of h (c.ac rest (h.mono (by decide)))
theorem cl_atom (hs : ∀ k, sgs ws t k = sgs ws t 3) (al : ∀ rest, stp 3 rest → aloneF ws f (sgs ws t 3 ++ rest) = some (t, rest)) : Cl ws f t := by
  have mc : ∀ rest, stp 3 rest → ∃ t0 l0, aloneF ws f (sgs ws t 3 ++ rest) = some (t0, l0) ∧ chL (aloneF ws f) opM t0 l0 = chL (aloneF ws f) opM t rest := fun rest h => ⟨t, rest, al rest h, rfl⟩
  have ac : ∀ rest, stp 2 rest → ∃ t0 l0, mulF ws f (sgs ws t 3 ++ rest) = some (t0, l0) ∧ chL (mulF ws f) opA t0 l0 = chL (mulF ws f) opA t rest := fun rest h => ⟨t, rest, mul_of h (mc rest (h.mono (by decide))), rfl⟩
  refine ⟨al, fun rest h => ?_, fun rest h => ?_, fun rest h => ?_⟩
  · rw [hs 2]; exact mc rest h
  · rw [hs 1]; exact ac rest h
  · rw [hs 0]; exact side_of h (add_of (h.mono (by decide)) (ac rest (h.mono (by decide))))
theorem al_paren {l : List Str} (h : sideF ws f (l ++ (")" : Str) :: rest) = some (t, (")" : Str) :: rest)) : aloneF ws (f + 1) ((("(" : Str) :: (l ++ [(")" : Str)])) ++ rest) = some (t, rest) := by
  rw [show ((("(" : Str) :: (l ++ [(")" : Str)])) ++ rest) = ("(" : Str) :: (l ++ (")" : Str) :: rest) by simp, alone_eq2, if_pos rfl, h]
  show (expect ")" ((")" : Str) :: rest)).bind (fun r' => some (t, r')) = _
  rw [exp_hd]
  rfl
theorem stp_par {k : Nat} : stp k ((")" : Str) :: rest) := stp_c ⟨by decide +kernel, by decide +kernel, fun _ => by decide +kernel, fun _ => by decide +kernel, fun _ => ⟨by decide +kernel, by decide +kernel⟩⟩
theorem stp_com {k : Nat} : stp k (("," : Str) :: rest) := stp_c ⟨by decide +kernel, by decide +kernel, fun _ => by decide +kernel, fun _ => by decide +kernel, fun _ => ⟨by decide +kernel, by decide +kernel⟩⟩
theorem shrA : Shr (aloneF ws f) := (alone_both ws f).1
theorem shrM : Shr (mulF ws f) := shr_chain shrA
/-- a product's body -/
theorem times_body (ca : Cl ws f a) (cb : Cl ws f b) (h : stp 3 rest) : ∃ t0 l0, aloneF ws f (sgs ws a 2 ++ (("*" : Str) :: sgs ws b 3) ++ rest) = some (t0, l0) ∧ chL (aloneF ws f) opM t0 l0 = chL (aloneF ws f) opM (.bin .times a b) rest := by
  obtain ⟨t0, l0, e1, e2⟩ := ca.mc (("*" : Str) :: (sgs ws b 3 ++ rest)) (stp_c ⟨by decide +kernel, by decide +kernel, fun h => by omega, fun h => by omega, fun h => by omega⟩)
  refine ⟨t0, l0, ?_, ?_⟩
  · rw [List.append_assoc]; exact e1
  · rw [e2, chL_go shrA (o := .times) (if_pos rfl) (cb.al rest h)]
/-- a sum's body -/
theorem plus_body (ca : Cl ws f a) (cb : Cl ws f b) (h : stp 2 rest) : ∃ t0 l0, mulF ws f (sgs ws a 1 ++ (("+" : Str) :: sgs ws b 2) ++ rest) = some (t0, l0) ∧ chL (mulF ws f) opA t0 l0 = chL (mulF ws f) opA (.bin .plus a b) rest := by
  obtain ⟨t0, l0, e1, e2⟩ := ca.ac (("+" : Str) :: (sgs ws b 2 ++ rest)) (stp_c ⟨by decide +kernel, by decide +kernel, fun _ => by decide +kernel, fun h => by omega, fun h => by omega⟩)
  refine ⟨t0, l0, ?_, ?_⟩
  · rw [List.append_assoc]; exact e1
  · rw [e2, chL_go shrM (o := .plus) (if_pos rfl) (cb.mul h)]
theorem comp_body {op : Op} (h0 : op = .same ∨ op = .less) (ca : Cl ws f a) (cb : Cl ws f b) (h : stp 0 rest) : sideF ws f (sgs ws a 1 ++ (op.sign :: sgs ws b 1) ++ rest) = some (.bin op a b, rest) := by
  have hs : stp 1 (op.sign :: (sgs ws b 1 ++ rest)) := by
    rcases h0 with rfl | rfl
    · exact stp_c ⟨by decide +kernel, by decide +kernel, fun _ => by decide +kernel, fun _ => by decide +kernel, fun h => by omega⟩
    · exact stp_c ⟨by decide +kernel, by decide +kernel, fun _ => by decide +kernel, fun _ => by decide +kernel, fun h => by omega⟩
  have ho : opC op.sign = some op := by rcases h0 with rfl | rfl <;> decide +kernel
  show compF (addF ws f) _ = _
  rw [comp_eq, List.append_assoc]
  show ((addF ws f) (sgs ws a 1 ++ (op.sign :: (sgs ws b 1 ++ rest)))).bind _ = _
  rw [ca.add hs]
  show compR (addF ws f) a (op.sign :: (sgs ws b 1 ++ rest)) = _
  rw [compR_go ho, cb.add (h.mono (by decide))]
  rfl
theorem sgs_bin {op : Op} {k : Nat} : sgs ws (.bin op a b) k = if op.rank < k then ("(" : Str) :: ((sgs ws a (if 0 < op.rank then op.rank else 1) ++ (op.sign :: sgs ws b (op.rank + 1))) ++ [(")" : Str)]) else sgs ws a (if 0 < op.rank then op.rank else 1) ++ (op.sign :: sgs ws b (op.rank + 1)) := rfl
theorem cl_bin {op : Op} (ca : Cl ws (f + 1) a) (cb : Cl ws (f + 1) b) (ca' : Cl ws f a) (cb' : Cl ws f b) : Cl ws (f + 1) (.bin op a b) := by
  cases op with
  | times =>
    have e3 : sgs ws (.bin .times a b) 3 = ("(" : Str) :: ((sgs ws a 2 ++ (("*" : Str) :: sgs ws b 3)) ++ [(")" : Str)]) := rfl
    have ek : ∀ k, k ≤ 2 → sgs ws (.bin .times a b) k = sgs ws a 2 ++ (("*" : Str) :: sgs ws b 3) := fun k hk => by
      rw [sgs_bin, if_neg (by show ¬ 2 < k; omega)]
      rfl
    refine ⟨fun rest h => ?_, fun rest h => ?_, fun rest h => ?_, fun rest h => ?_⟩
    · rw [e3]
      refine al_paren (side_of stp_par (add_of stp_par ⟨_, _, mul_of stp_par (times_body ca' cb' stp_par), rfl⟩))
    · rw [ek 2 (by decide)]; exact times_body ca cb h
    · rw [ek 1 (by decide)]; exact ⟨_, _, mul_of h (times_body ca cb (h.mono (by decide))), rfl⟩
    · rw [ek 0 (by decide)]; exact side_of h (add_of (h.mono (by decide)) ⟨_, _, mul_of (h.mono (by decide)) (times_body ca cb (h.mono (by decide))), rfl⟩)
  | plus =>
    have e3 : ∀ k, 1 < k → sgs ws (.bin .plus a b) k = ("(" : Str) :: ((sgs ws a 1 ++ (("+" : Str) :: sgs ws b 2)) ++ [(")" : Str)]) := fun k hk => by
      rw [sgs_bin, if_pos (by show 1 < k; omega)]
      rfl
    have ek : ∀ k, k ≤ 1 → sgs ws (.bin .plus a b) k = sgs ws a 1 ++ (("+" : Str) :: sgs ws b 2) := fun k hk => by
      rw [sgs_bin, if_neg (by show ¬ 1 < k; omega)]
      rfl
    have al : ∀ rest, stp 3 rest → aloneF ws (f + 1) ((("(" : Str) :: ((sgs ws a 1 ++ (("+" : Str) :: sgs ws b 2)) ++ [(")" : Str)])) ++ rest) = some (.bin .plus a b, rest) := fun rest h => al_paren (side_of stp_par (add_of stp_par (plus_body ca' cb' stp_par)))
    refine ⟨fun rest h => ?_, fun rest h => ?_, fun rest h => ?_, fun rest h => ?_⟩
    · rw [e3 3 (by decide)]; exact al rest h
    · rw [e3 2 (by decide)]; exact ⟨_, _, al rest h, rfl⟩
    · rw [ek 1 (by decide)]; exact plus_body ca cb h
    · rw [ek 0 (by decide)]; exact side_of h (add_of (h.mono (by decide)) (plus_body ca cb (h.mono (by decide))))
  | same =>
    have e3 : ∀ k, 0 < k → sgs ws (.bin .same a b) k = ("(" : Str) :: ((sgs ws a 1 ++ (Op.same.sign :: sgs ws b 1)) ++ [(")" : Str)]) := fun k hk => by
      rw [sgs_bin, if_pos (by show 0 < k; omega)]
      rfl
    have al : ∀ rest, stp 3 rest → aloneF ws (f + 1) ((("(" : Str) :: ((sgs ws a 1 ++ (Op.same.sign :: sgs ws b 1)) ++ [(")" : Str)])) ++ rest) = some (.bin .same a b, rest) := fun rest h => al_paren (comp_body (.inl rfl) ca' cb' stp_par)
    refine ⟨fun rest h => ?_, fun rest h => ?_, fun rest h => ?_, fun rest h => ?_⟩
    · rw [e3 3 (by decide)]; exact al rest h
    · rw [e3 2 (by decide)]; exact ⟨_, _, al rest h, rfl⟩
    · rw [e3 1 (by decide)]; exact ⟨_, _, mul_of h ⟨_, _, al rest (h.mono (by decide)), rfl⟩, rfl⟩
    · exact comp_body (.inl rfl) ca cb h
  | less =>
    have e3 : ∀ k, 0 < k → sgs ws (.bin .less a b) k = ("(" : Str) :: ((sgs ws a 1 ++ (Op.less.sign :: sgs ws b 1)) ++ [(")" : Str)]) := fun k hk => by
      rw [sgs_bin, if_pos (by show 0 < k; omega)]
      rfl
    have al : ∀ rest, stp 3 rest → aloneF ws (f + 1) ((("(" : Str) :: ((sgs ws a 1 ++ (Op.less.sign :: sgs ws b 1)) ++ [(")" : Str)])) ++ rest) = some (.bin .less a b, rest) := fun rest h => al_paren (comp_body (.inr rfl) ca' cb' stp_par)
    refine ⟨fun rest h => ?_, fun rest h => ?_, fun rest h => ?_, fun rest h => ?_⟩
    · rw [e3 3 (by decide)]; exact al rest h
    · rw [e3 2 (by decide)]; exact ⟨_, _, al rest h, rfl⟩
    · rw [e3 1 (by decide)]; exact ⟨_, _, mul_of h ⟨_, _, al rest (h.mono (by decide)), rfl⟩, rfl⟩
    · exact comp_body (.inr rfl) ca cb h
theorem cl_main (hw : WsG ws) : ∀ (t : Tm), t.ok ws.length → ∀ f, t.deep ≤ f → Cl ws f t
  | .inn o, h, 0, hd => absurd hd (by show ¬ 1 ≤ 0; decide)
  | .inn o, h, f + 1, hd => cl_atom (fun _ => rfl) fun rest hr => by
    show aloneF ws (f + 1) (("in" : Str) :: (sgo o ++ rest)) = _
    rw [alone_eq2, if_neg (by decide +kernel), if_neg (by decide +kernel), if_neg (by decide +kernel), if_pos rfl, off_back h.1 h.2 hr]
    rfl
  | .ofn i o, h, 0, hd => absurd hd (by show ¬ 1 ≤ 0; decide)
  | .ofn i o, h, f + 1, hd => cl_atom (fun _ => rfl) fun rest hr => by
    obtain ⟨h0, h1, h2⟩ := h
    have hm : ws.getD i (Str.ofString "") ∈ ws := by rw [getD_mem h0]; exact List.getElem_mem h0
    obtain ⟨n1, n2, n3, n4, _⟩ := word_ne (hw.word _ hm)
    show aloneF ws (f + 1) (ws.getD i (Str.ofString "") :: (sgo o ++ rest)) = _
    rw [alone_eq2, if_neg n1, if_neg n2, if_neg n3, if_neg n4, if_pos hm, off_back h1 h2 hr, idx_getD hw.nd h0]
    rfl
  | .isc c, h, 0, hd => absurd hd (by show ¬ 1 ≤ 0; decide)
  | .isc c, h, f + 1, hd => cl_atom (fun _ => rfl) fun rest hr => by
    obtain ⟨n1, n2, n3, n4⟩ := num_ne h
    show aloneF ws (f + 1) (numS c :: rest) = _
    rw [alone_eq2, if_neg n1, if_neg n2, if_neg n3, if_neg n4, if_neg (fun hm => (word_ne (hw.word _ hm)).2.2.2.2 c h rfl), (dig_back h).1]
    rfl
  | .rst a c, h, 0, hd => absurd hd (by show ¬ a.deep + 1 ≤ 0; omega)
  | .rst a c, h, f + 1, hd => cl_atom (fun _ => rfl) fun rest hr => by
    obtain ⟨h0, h1, h2⟩ := h
    have ca := cl_main hw a h0 f (by have : a.deep + 1 ≤ f + 1 := hd; omega)
    have e : sgs ws (.rst a c) 3 ++ rest = ("rest" : Str) :: ("(" : Str) :: (sgs ws a 0 ++ (("," : Str) :: numS c :: (")" : Str) :: rest)) := by simp [sgs]
    rw [e, alone_eq2, if_neg (by decide +kernel), if_neg (by decide +kernel), if_pos rfl]
    unfold restF
    rw [show expect "(" (("(" : Str) :: (sgs ws a 0 ++ (("," : Str) :: numS c :: (")" : Str) :: rest))) = some (sgs ws a 0 ++ (("," : Str) :: numS c :: (")" : Str) :: rest)) from exp_hd _ _]
    simp only [Option.bind_some]
    rw [ca.sd _ stp_com]
    simp only [Option.bind_some]
    rw [show expect "," (("," : Str) :: numS c :: (")" : Str) :: rest) = some (numS c :: (")" : Str) :: rest) from exp_hd _ _]
    simp only [Option.bind_some]
    rw [show numF 1 9 (numS c :: (")" : Str) :: rest) = (digitF (numS c) 1 9).map fun n => (n.toNat, (")" : Str) :: rest) from rfl, (dig_back h2).2 h1]
    simp only [Option.map_some, Option.bind_some]
    rw [show expect ")" ((")" : Str) :: rest) = some rest from exp_hd _ _]
    rfl
  | .pck a b c, h, 0, hd => absurd hd (by show ¬ max a.deep (max b.deep c.deep) + 1 ≤ 0; omega)
  | .pck a b c, h, f + 1, hd => cl_atom (fun _ => rfl) fun rest hr => by
    obtain ⟨ha, hb, hc⟩ := h
    have hd : max a.deep (max b.deep c.deep) + 1 ≤ f + 1 := hd
    have ca := cl_main hw a ha f (by omega)
    have cb := cl_main hw b hb f (by omega)
    have cc := cl_main hw c hc f (by omega)
    have e : sgs ws (.pck a b c) 3 ++ rest = ("pick" : Str) :: ("(" : Str) :: (sgs ws a 0 ++ (("," : Str) :: (sgs ws b 0 ++ (("," : Str) :: (sgs ws c 0 ++ ((")" : Str) :: rest)))))) := by simp [sgs]
    rw [e, alone_eq2, if_neg (by decide +kernel), if_pos rfl]
    have ex := exp_hd
    unfold pickF
    simp only [ex, Option.bind_some, ca.sd _ stp_com, cb.sd _ stp_com, cc.sd _ stp_par]
  | .bin op a b, h, 0, hd => absurd hd (by show ¬ max a.deep b.deep + 1 ≤ 0; omega)
  | .bin op a b, h, f + 1, hd => by
    have hd : max a.deep b.deep + 1 ≤ f + 1 := hd
    exact cl_bin (cl_main hw a h.1 (f + 1) (by omega)) (cl_main hw b h.2 (f + 1) (by omega)) (cl_main hw a h.1 f (by omega)) (cl_main hw b h.2 f (by omega))
theorem pair_back (hw : WsG ws) {e : Tm × Tm} (h : e.1.ok ws.length ∧ e.2.ok ws.length) (d : e.1.deep ≤ 5 ∧ e.2.deep ≤ 5) : pairF ws (sge ws e) = some e := by
  have c1 := cl_main hw e.1 h.1 41 (by omega)
  have c2 := cl_main hw e.2 h.2 41 (by omega)
  have e2 := c2.sd [] stp_nil
  rw [List.append_nil] at e2
  unfold pairF sge
  rw [c1.sd _ (stp_c ⟨by decide +kernel, by decide +kernel, fun _ => by decide +kernel, fun _ => by decide +kernel, fun _ => ⟨by decide +kernel, by decide +kernel⟩⟩)]
  simp only [Option.bind_some]
  rw [show expect "=" (("=" : Str) :: sgs ws e.2 0) = some (sgs ws e.2 0) from exp_hd _ _]
  simp only [Option.bind_some]
  rw [e2]
  simp only [Option.bind_some]
  simp [d.1, d.2]
end
end ML
set_option maxHeartbeats 4000000
namespace ML
open PySem PySem.Spec PyProof.Rows L2 TL Gn
/-! ### a written text is read back -/
theorem wsw_of {ws : List Str} (h : ∀ z ∈ ws, isWordF z = true) : WsW ws := fun z hz => word_al (h z hz)
theorem word_no {z : Str} {c : Nat} (h : isWordF z = true) (hc : alnum c = false) : c ∉ tl z := fun m => by
  have := (word_al h).2 c m
  rw [hc] at this
  cases this
theorem splitC_last1 {s : Nat} {l : List Nat} (h : s ∉ l) : splitC s l = [l] := by
  induction l with
  | nil => rfl
  | cons c r ih =>
    have hc : ¬ c = s := fun e => h (by rw [e]; exact List.mem_cons_self)
    rw [splitC, if_neg hc, ih fun z => h (List.mem_cons_of_mem _ z)]
theorem eq_back {ws : List Str} (hw : WsG ws) {e : Tm × Tm} (h : e.1.ok ws.length ∧ e.2.ok ws.length) (d : e.1.deep ≤ 5 ∧ e.2.deep ≤ 5) (hl : (sge ws e).length ≤ 200) : eqF ws (tl (eqLF ws e)) = some e := by
  unfold eqF
  rw [sg_eq (wsw_of hw.word) h]
  show (if (sge ws e).length ≤ 200 then pairF ws (sge ws e) else none) = _
  rw [if_pos hl, pair_back hw h d]
theorem eqs_back {ws : List Str} (hw : WsG ws) : ∀ (es fs : List (Tm × Tm)) (k : Nat), (∀ e ∈ es, e.1.ok ws.length ∧ e.2.ok ws.length) → (∀ e ∈ es, e.1.deep ≤ 5 ∧ e.2.deep ≤ 5) → (∀ e ∈ es, (sge ws e).length ≤ 200) → fs.length + es.length ≤ 6 → eqsF ws k ((es.map (eqLF ws)).map tl) fs = .inr (fs ++ es)
  | [], fs, k, _, _, _, _ => by
    rw [List.append_nil]
    cases k <;> rfl
  | e :: es, fs, k, h1, h2, h3, h4 => by
    have e1 : eqsF ws k (tl (eqLF ws e) :: (es.map (eqLF ws)).map tl) fs = match eqF ws (tl (eqLF ws e)) with
      | none => .inl k
      | some e => if fs.length = 6 then .inl k else eqsF ws (k + 1) ((es.map (eqLF ws)).map tl) (fs ++ [e]) := rfl
    rw [List.length_cons] at h4
    show eqsF ws k (tl (eqLF ws e) :: (es.map (eqLF ws)).map tl) fs = _
    rw [e1, eq_back hw (h1 e List.mem_cons_self) (h2 e List.mem_cons_self) (h3 e List.mem_cons_self)]
    show (if fs.length = 6 then _ else _) = _
    rw [if_neg (by omega), eqs_back hw es (fs ++ [e]) (k + 1) (fun x hx => h1 x (List.mem_cons_of_mem _ hx)) (fun x hx => h2 x (List.mem_cons_of_mem _ hx)) (fun x hx => h3 x (List.mem_cons_of_mem _ hx)) (by rw [List.length_append]; show fs.length + 1 + es.length ≤ 6; omega)]
    simp
/-- the line of a name -/
theorem name_back {ws : List Str} {w : Str} {n : Nat × Nat} (hw : isWordF w = true) (hn : w ∉ ws) (h1 : 2 ≤ n.1) (h2 : n.1 ≤ 3) (h3 : n.2 < n.1) : nameF ws (tl (nameLF w n)) = some (w, n.1, n.2) ∧ nameP (tl (nameLF w n)) = true := by
  have d1 : tl (numS n.1) = [48 + n.1] := (dig_al (by omega)).1
  have d2 : tl (numS n.2) = [48 + n.2] := (dig_al (by omega)).1
  have e : tl (nameLF w n) = [110, 97, 109, 101] ++ 32 :: (tl w ++ 32 :: ([48 + n.1] ++ 32 :: ([102, 114, 111, 109] ++ 32 :: [48 + n.2]))) := by
    show tl (("name " : Str) ++ w ++ (" " : Str) ++ numS n.1 ++ (" from " : Str) ++ numS n.2) = _
    simp only [tl_append]
    rw [d1, d2, show tl ("name " : Str) = [110, 97, 109, 101, 32] by decide, show tl (" " : Str) = [32] by decide, show tl (" from " : Str) = [32, 102, 114, 111, 109, 32] by decide]
    simp
  have w32 : 32 ∉ tl w := word_no hw (by decide)
  have sp : splitC 32 (tl (nameLF w n)) = [[110, 97, 109, 101], tl w, [48 + n.1], [102, 114, 111, 109], [48 + n.2]] := by
    rw [e, splitC_pre 32 _ (by decide), splitC_pre 32 _ w32, splitC_pre 32 [48 + n.1] (by simp; omega), splitC_pre 32 _ (by decide), splitC_last1 (by simp; omega)]
  refine ⟨?_, by rw [e]; rfl⟩
  rw [name_parts sp, S_tl, if_pos ⟨by decide +kernel, by decide +kernel, hw, hn⟩]
  obtain ⟨v, f⟩ := n
  have hv : v = 2 ∨ v = 3 := by
    have : 2 ≤ v := h1
    have : v ≤ 3 := h2
    omega
  have hf : f < v := h3
  rcases hv with rfl | rfl
  · have : f = 0 ∨ f = 1 := by omega
    rw [show digitF (S [48 + 2]) 2 3 = some 2 by decide +kernel]
    rcases this with rfl | rfl
    · show ((digitF (S [48 + 0]) 0 (2 - 1)).map fun f => (w, 2, f.toNat)) = _
      rw [show digitF (S [48 + 0]) 0 (2 - 1) = some 0 by decide +kernel]
      rfl
    · show ((digitF (S [48 + 1]) 0 (2 - 1)).map fun f => (w, 2, f.toNat)) = _
      rw [show digitF (S [48 + 1]) 0 (2 - 1) = some 1 by decide +kernel]
      rfl
  · have : f = 0 ∨ f = 1 ∨ f = 2 := by omega
    rw [show digitF (S [48 + 3]) 2 3 = some 3 by decide +kernel]
    rcases this with rfl | rfl | rfl
    · show ((digitF (S [48 + 0]) 0 (3 - 1)).map fun f => (w, 3, f.toNat)) = _
      rw [show digitF (S [48 + 0]) 0 (3 - 1) = some 0 by decide +kernel]
      rfl
    · show ((digitF (S [48 + 1]) 0 (3 - 1)).map fun f => (w, 3, f.toNat)) = _
      rw [show digitF (S [48 + 1]) 0 (3 - 1) = some 1 by decide +kernel]
      rfl
    · show ((digitF (S [48 + 2]) 0 (3 - 1)).map fun f => (w, 3, f.toNat)) = _
      rw [show digitF (S [48 + 2]) 0 (3 - 1) = some 2 by decide +kernel]
      rfl
theorem names_back {K : Nat} {tail : List (List Nat)} : ∀ (ps : List (Str × (Nat × Nat))) (k : Nat) (ws : List Str) (ns : List (Nat × Nat)), (∀ p ∈ ps, isWordF p.1 = true) → (ws ++ ps.map (·.1)).Nodup → (∀ p ∈ ps, 2 ≤ p.2.1 ∧ p.2.1 ≤ 3 ∧ p.2.2 < p.2.1) → ws.length + ps.length ≤ 3 →
    restOfF K k (((ps.map fun p => nameLF p.1 p.2).map tl) ++ tail) ws ns = restOfF K (k + ps.length) tail (ws ++ ps.map (·.1)) (ns ++ ps.map (·.2))
  | [], k, ws, ns, _, _, _, _ => by simp
  | p :: ps, k, ws, ns, hw, nd, hn, h3 => by
    rw [List.length_cons] at h3
    have hp : p.1 ∉ ws := fun m => by
      have := (List.nodup_append.mp nd).2.2
      exact this p.1 m p.1 (by simp) rfl
    obtain ⟨a1, a2, a3⟩ := hn p List.mem_cons_self
    obtain ⟨e1, e2⟩ := name_back (hw p List.mem_cons_self) hp a1 a2 a3
    have e : restOfF K k (tl (nameLF p.1 p.2) :: (((ps.map fun p => nameLF p.1 p.2).map tl) ++ tail)) ws ns = if nameP (tl (nameLF p.1 p.2)) then (match nameF ws (tl (nameLF p.1 p.2)) with
      | none => .inl k
      | some (w, v, f) => if ws.length = 3 then .inl k else restOfF K (k + 1) (((ps.map fun p => nameLF p.1 p.2).map tl) ++ tail) (ws ++ [w]) (ns ++ [(v, f)]))
      else if ws = [] then .inl k else match toldF ws (tl (nameLF p.1 p.2)) with
        | none => .inl k
        | some told => match eqsF ws (k + 1) (((ps.map fun p => nameLF p.1 p.2).map tl) ++ tail) [] with
          | .inl j => .inl j
          | .inr es => .inr (⟨K, ns, told, es⟩, ws) := rfl
    show restOfF K k (tl (nameLF p.1 p.2) :: (((ps.map fun p => nameLF p.1 p.2).map tl) ++ tail)) ws ns = _
    rw [e, if_pos e2, e1]
    show (if ws.length = 3 then _ else restOfF K (k + 1) (((ps.map fun p => nameLF p.1 p.2).map tl) ++ tail) (ws ++ [p.1]) (ns ++ [p.2])) = _
    rw [if_neg (by omega), names_back ps (k + 1) (ws ++ [p.1]) (ns ++ [p.2]) (fun q hq => hw q (List.mem_cons_of_mem _ hq)) (by simpa using nd) (fun q hq => hn q (List.mem_cons_of_mem _ hq)) (by rw [List.length_append]; show ws.length + 1 + ps.length ≤ 3; omega)]
    rw [show k + 1 + ps.length = k + (p :: ps).length by rw [List.length_cons]; omega]
    simp
/-- words with blanks between them -/
theorem split_words : ∀ (zs : List Str), (∀ z ∈ zs, 32 ∉ tl z) → zs ≠ [] → splitC 32 (tl (Txt.join " " zs)) = zs.map tl
  | [], _, h => absurd rfl h
  | [a], h, _ => by
    rw [join_eq]
    show splitC 32 (tl a) = _
    rw [splitC_last1 (h a List.mem_cons_self)]
    rfl
  | a :: b :: r, h, _ => by
    have ih := split_words (b :: r) (fun z hz => h z (List.mem_cons_of_mem _ hz)) (by simp)
    have e : tl (Txt.join " " (a :: b :: r)) = tl a ++ 32 :: tl (Txt.join " " (b :: r)) := by
      rw [join_eq, join_eq]
      show tl (a ++ (" " : Str) ++ Str.join " " (b :: r)) = _
      rw [tl_append, tl_append, show tl (" " : Str) = [32] by decide]
      simp
    rw [e, splitC_pre 32 _ (h a List.mem_cons_self), ih]
    rfl
theorem told_back {ws : List Str} (hw : WsG ws) {told : List Nat} (ok : ToldOk ws.length told) : toldF ws (tl (tellF ws told)) = some told ∧ nameP (tl (tellF ws told)) = false := by
  have e : tl (tellF ws told) = [116, 101, 108, 108, 115] ++ 32 :: tl (Txt.join " " (told.map fun i => ws.getD i (Str.ofString ""))) := by
    show tl (("tells " : Str) ++ Txt.join " " (told.map fun i => ws.getD i (Str.ofString ""))) = _
    rw [tl_append, show tl ("tells " : Str) = [116, 101, 108, 108, 115, 32] by decide]
    simp
  have mem : ∀ i ∈ told, ws.getD i (Str.ofString "") ∈ ws := fun i hi => by
    rw [getD_mem (ok.each i hi)]
    exact List.getElem_mem _
  have sp : splitC 32 (tl (tellF ws told)) = [116, 101, 108, 108, 115] :: (told.map fun i => tl (ws.getD i (Str.ofString ""))) := by
    rw [e, splitC_pre 32 _ (by decide), split_words _ (fun z hz => ?_) (by simpa using ok.pos), List.map_map]
    · rfl
    · obtain ⟨i, hi, rfl⟩ := List.mem_map.mp hz
      exact word_no (hw.word _ (mem i hi)) (by decide)
  have idx : (told.map fun i => tl (ws.getD i (Str.ofString ""))).map (fun x => ws.idxOf (S x)) = told := by
    rw [List.map_map]
    conv => rhs; rw [← List.map_id told]
    refine List.map_congr_left fun i hi => ?_
    show ws.idxOf (S (tl (ws.getD i (Str.ofString "")))) = i
    rw [S_tl, idx_getD hw.nd (ok.each i hi)]
  refine ⟨?_, by rw [e]; rfl⟩
  have eT : toldF ws (tl (tellF ws told)) = if S [116, 101, 108, 108, 115] = "tells" ∧ (told.map fun i => tl (ws.getD i (Str.ofString ""))) ≠ [] ∧ (∀ x ∈ (told.map fun i => tl (ws.getD i (Str.ofString ""))), S x ∈ ws) ∧ rising ((told.map fun i => tl (ws.getD i (Str.ofString ""))).map fun x => ws.idxOf (S x)) = true then some ((told.map fun i => tl (ws.getD i (Str.ofString ""))).map fun x => ws.idxOf (S x)) else none := by
    unfold toldF
    rw [sp]
  have hall : ∀ x ∈ (told.map fun i => tl (ws.getD i (Str.ofString ""))), S x ∈ ws := fun x hx => by
    obtain ⟨i, hi, rfl⟩ := List.mem_map.mp hx
    rw [S_tl]
    exact mem i hi
  rw [eT, idx]
  exact if_pos ⟨by decide +kernel, by simpa using ok.pos, hall, rising_of ok.ris⟩
theorem letters_back {k : Nat} (h1 : 1 ≤ k) (h2 : k ≤ 3) : lettersF (tl (("letters " : Str) ++ numS k)) = some k := by
  match k, h1, h2 with
  | 1, _, _ => decide +kernel
  | 2, _, _ => decide +kernel
  | 3, _, _ => decide +kernel
theorem lines_noNL {m : Mill} {ws : List Str} (ok : m.ok) (hl : ws.length = m.names.length) (hw : ∀ z ∈ ws, isWordF z = true) : ∀ z ∈ linesF m ws, okN z := by
  have wN : ∀ z ∈ ws, okN z := fun z hz => ⟨(isWord_ok (hw z hz)).1, word_no (hw z hz) (by decide)⟩
  intro z hz
  unfold linesF at hz
  rcases List.mem_append.mp hz with hz | hz
  · rcases List.mem_append.mp hz with hz | hz
    · rcases List.mem_append.mp hz with hz | hz
      · rw [List.mem_singleton.mp hz]
        exact okN_app okdN (okN_num9 (by have := ok.letters.2; omega)).1
      · obtain ⟨⟨wd, nm⟩, hx, rfl⟩ := List.mem_map.mp hz
        obtain ⟨h1, h2⟩ := List.of_mem_zip hx
        obtain ⟨k1, k2, k3⟩ := ok.names.each nm h2
        have c1 : nm.1 ≤ 9 := by omega
        have c2 : nm.2 ≤ 9 := by omega
        exact okN_app (okN_app (okN_app (okN_app (okN_app okdN (wN wd h1)) okdN) (okN_num9 c1).1) okdN) (okN_num9 c2).1
    · rw [List.mem_singleton.mp hz]
      exact okN_app okdN (okN_join okdN fun y hy => by
        obtain ⟨j, hj, rfl⟩ := List.mem_map.mp hy
        exact okN_getD wN j)
  · obtain ⟨e, he, rfl⟩ := List.mem_map.mp hz
    obtain ⟨oa, ob⟩ := ok.eqs e he
    rw [← hl] at oa ob
    exact okN_app (okN_app (W_okN wN e.1 0 oa) okdN) (W_okN wN e.2 0 ob)
/-- THE READING BACK -/
theorem read_back {m : Mill} {ws : List Str} (ok : m.ok) (hl : ws.length = m.names.length) (hw : WsG ws) (h200 : ∀ e ∈ m.eqs, (sge ws e).length ≤ 200) : readF (tl (textF m ws)) = .inr (m, ws) := by
  have nn := lines_noNL ok hl hw.word
  have es : splitC 10 (tl (textF m ws)) = (linesF m ws).map tl ++ [[]] := by
    have e2 := splitC_txt (linesF m ws) [] fun z hz => (nn z hz).2
    rw [List.append_nil, ← tl_txt] at e2
    exact e2
  have h0 : tl (textF m ws) ≠ [] := fun e => by
    rw [e] at es
    have := congrArg List.length es
    rw [List.length_append, List.length_map] at this
    have hlen : 1 ≤ (linesF m ws).length := by
      unfold linesF
      rw [List.length_append, List.length_append, List.length_append]
      show 1 ≤ 1 + _ + _ + _
      omega
    have h1 : (splitC 10 []).length = 1 := rfl
    have h2 : ([[]] : List (List Nat)).length = 1 := rfl
    omega
  rw [readF_lines h0 es]
  have eL : (linesF m ws).map tl = tl (l0F m) :: ((((ws.zip m.names).map fun x => nameLF x.1 x.2).map tl) ++ (tl (tellF ws m.told) :: (m.eqs.map (eqLF ws)).map tl)) := by
    unfold linesF
    simp
  rw [eL, headF_some (show lettersF (tl (l0F m)) = some m.letters from letters_back ok.letters.1 ok.letters.2)]
  have z1 : (ws.zip m.names).map (·.1) = ws := List.map_fst_zip (by omega)
  have z2 : (ws.zip m.names).map (·.2) = m.names := List.map_snd_zip (by omega)
  have zl : (ws.zip m.names).length = ws.length := by rw [List.length_zip]; omega
  have n3 := ok.names.few
  rw [names_back (ws.zip m.names) 1 [] [] (fun p hp => hw.word _ (List.of_mem_zip hp).1) (by rw [z1]; exact hw.nd) (fun p hp => ok.names.each _ (List.of_mem_zip hp).2) (by rw [zl]; show 0 + ws.length ≤ 3; omega), z1, z2, zl, List.nil_append, List.nil_append]
  have okT : ToldOk ws.length m.told := by rw [hl]; exact ok.told
  obtain ⟨t1, t2⟩ := told_back hw okT
  have e : ∀ k (ls : List (List Nat)), restOfF m.letters k (tl (tellF ws m.told) :: ls) ws m.names = if nameP (tl (tellF ws m.told)) then (match nameF ws (tl (tellF ws m.told)) with
      | none => .inl k
      | some (w, v, f) => if ws.length = 3 then .inl k else restOfF m.letters (k + 1) ls (ws ++ [w]) (m.names ++ [(v, f)]))
      else if ws = [] then .inl k else match toldF ws (tl (tellF ws m.told)) with
        | none => .inl k
        | some told => match eqsF ws (k + 1) ls [] with
          | .inl j => .inl j
          | .inr es => .inr (⟨m.letters, m.names, told, es⟩, ws) := fun k ls => rfl
  have wne : ws ≠ [] := fun e => by
    have := ok.names.pos
    rw [e] at hl
    simp at hl
    omega
  rw [e, t2, if_neg (by decide), if_neg wne, t1]
  simp only
  rw [eqs_back hw m.eqs [] _ (fun e he => by rw [hl]; exact ok.eqs e he) ok.deep h200 (by show 0 + m.eqs.length ≤ 6; have := ok.few; omega)]
  rfl
end ML
set_option maxHeartbeats 4000000
namespace ML
open PySem PySem.Spec PyProof.Rows L2 TL Gn
/-! ### the law's lines, told, read, loosened -/
theorem LnB.hd {a b : Nat} {z : Str} (o : okN z) (l : z.length ≤ a) (h : hdT z) : LnB a b z := ⟨o, l, fun e => by
  obtain ⟨c, r, e2, n⟩ := h
  rw [e2] at e
  cases e
  exact absurd rfl n⟩
theorem WsOk.g {m : Mill} {ws : List Str} (w : WsOk m ws) : WsG ws := ⟨w.word, w.nd⟩
theorem WsOk.w8 {m : Mill} {ws : List Str} (w : WsOk m ws) : ∀ z ∈ ws, z.length ≤ 8 := fun z hz => (isWord_ok (w.word z hz)).2.1
theorem WsOk.wN {m : Mill} {ws : List Str} (w : WsOk m ws) : ∀ z ∈ ws, okN z := fun z hz => ⟨(isWord_ok (w.word z hz)).1, word_no (w.word z hz) (by decide)⟩
theorem WsOk.okE {m : Mill} {ws : List Str} (w : WsOk m ws) (ok : m.ok) {e : Tm × Tm} (he : e ∈ m.eqs) : e.1.ok ws.length ∧ e.2.ok ws.length := by
  rw [w.len]
  exact ok.eqs e he
theorem W_1944 {ws : List Str} (w8 : ∀ z ∈ ws, z.length ≤ 8) {t : Tm} {k : Nat} (h : t.ok ws.length) (d : t.deep ≤ 5) : (W ws t k).length ≤ 1932 := by
  have := W_len3 w8 t k h
  have p5 : 3 ^ t.deep ≤ 3 ^ 5 := Nat.pow_le_pow_right (by decide) d
  omega
theorem eqL_B {m : Mill} {ws : List Str} (w : WsOk m ws) (ok : m.ok) {e : Tm × Tm} (he : e ∈ m.eqs) : LnB 4400 50 (eqLF ws e) := by
  obtain ⟨oa, ob⟩ := w.okE ok he
  obtain ⟨da, db⟩ := ok.deep e he
  refine .hd (okN_app (okN_app (W_okN w.wN _ 0 oa) okdN) (W_okN w.wN _ 0 ob)) ?_ (hdT_app (hdT_app (W_hd w.hd _ 0 oa)))
  have h1 := W_1944 w.w8 (k := 0) oa da
  have h2 := W_1944 w.w8 (k := 0) ob db
  have c3 : (" = " : Str).length = 3 := by decide
  show (W ws e.1 0 ++ (" = " : Str) ++ W ws e.2 0).length ≤ _
  rw [len_app, len_app]
  omega
theorem lines_B {m : Mill} {ws : List Str} (w : WsOk m ws) (ok : m.ok) : ∀ z ∈ linesF m ws, LnB 4400 50 z := by
  intro z hz
  have oz := lines_noNL ok w.len w.word z hz
  unfold linesF at hz
  rcases List.mem_append.mp hz with hz | hz
  · rcases List.mem_append.mp hz with hz | hz
    · rcases List.mem_append.mp hz with hz | hz
      · rw [List.mem_singleton] at hz
        subst hz
        refine .hd oz ?_ (hdT_app hdT_d)
        have h9 : m.letters ≤ 9 := by have := ok.letters.2; omega
        have := (okN_num9 h9).2
        have e8 : ("letters " : Str).length = 8 := by decide
        show (("letters " : Str) ++ numS m.letters).length ≤ _
        rw [len_app]
        omega
      · obtain ⟨⟨wd, nm⟩, hx, rfl⟩ := List.mem_map.mp hz
        obtain ⟨h1, h2⟩ := List.of_mem_zip hx
        obtain ⟨k1, k2, k3⟩ := ok.names.each nm h2
        refine .hd oz ?_ (hdT_app (hdT_app (hdT_app (hdT_app (hdT_app hdT_d)))))
        have c1 : nm.1 ≤ 9 := by omega
        have c2 : nm.2 ≤ 9 := by omega
        have n1 := (okN_num9 c1).2
        have n2 := (okN_num9 c2).2
        have := w.w8 wd h1
        have d1 : ("name " : Str).length = 5 := by decide
        have d2 : (" " : Str).length = 1 := by decide
        have d3 : (" from " : Str).length = 6 := by decide
        show (("name " : Str) ++ wd ++ (" " : Str) ++ numS nm.1 ++ (" from " : Str) ++ numS nm.2).length ≤ _
        rw [len_app, len_app, len_app, len_app, len_app]
        omega
    · rw [List.mem_singleton] at hz
      subst hz
      have tl8 : ∀ z ∈ m.told.map fun j => ws.getD j (Str.ofString ""), z.length ≤ 8 := fun z hz => by
        obtain ⟨j, hj, rfl⟩ := List.mem_map.mp hz
        have hjw : j < ws.length := by rw [w.len]; exact ok.told.each j hj
        rw [getD_mem hjw]
        exact w.w8 _ (List.getElem_mem hjw)
      have ts := sum_le tl8
      have tf := ok.told.few
      rw [List.length_map] at ts
      have c2 : (" " : Str).length = 1 := by decide
      have c6 : ("tells " : Str).length = 6 := by decide
      have jl := join_len2 " " (m.told.map fun j => ws.getD j (Str.ofString ""))
      rw [List.length_map, c2] at jl
      have : (tellF ws m.told).length ≤ 50 := by
        show (("tells " : Str) ++ Txt.join " " (m.told.map fun j => ws.getD j (Str.ofString ""))).length ≤ _
        rw [len_app, c6]
        omega
      exact ⟨oz, by omega, fun _ => this⟩
  · obtain ⟨e, he, rfl⟩ := List.mem_map.mp hz
    exact eqL_B w ok he
theorem lines_n {m : Mill} {ws : List Str} (w : WsOk m ws) (ok : m.ok) : (linesF m ws).length = ws.length + 2 + m.eqs.length ∧ (linesF m ws).length ≤ 11 := by
  have h1 := ok.few
  have h2 := ok.names.few
  have h3 := w.len
  have e : (linesF m ws).length = ws.length + 2 + m.eqs.length := by
    unfold linesF
    rw [List.length_append, List.length_append, List.length_append, List.length_map, List.length_map, List.length_zip]
    show 1 + min ws.length m.names.length + 1 + m.eqs.length = _
    omega
  exact ⟨e, by omega⟩
theorem lines_drop {m : Mill} {ws : List Str} (w : WsOk m ws) : (linesF m ws).drop (ws.length + 2) = m.eqs.map (eqLF ws) := by
  unfold linesF
  refine List.drop_left' ?_
  rw [List.length_append, List.length_append, List.length_map, List.length_zip, w.len]
  show 1 + min m.names.length m.names.length + 1 = _
  omega
theorem pass_no {X : Cx} : Passes (L2.CX X.prog X.w) X E0 := fun _ _ _ _ _ _ _ h => by
  obtain ⟨_, _, _, _, _, _, _, _, _, _, _, _, z⟩ := h
  exact z.elim
section
variable {P : Program} {w : World} {K : PySem.W.Frag} {mg : Str → Option Value} {base : Heap} {GT : List Addr} {cL PL CT CW f : Addr} {A : Around} {outer : List Env} {s : Shared} {H0 : Hp} {E : XK} {q : Str}
theorem joinS {c : TT} {a b : TS} {D : Ends} {σ : L2.St} {H : Hp} (Good : Hp → Prop) (h : ∀ Qb : Bool → Hp → Prop, (∀ H', Good H' → Qb false H') → c σ H Qb) (g : ∀ H', Good H' → b D σ H') : tIfS c a b D σ H := h _ fun H' hg => by
  show if false = true then a D σ H' else b D σ H'
  rw [if_neg (by decide)]
  exact g H' hg
theorem seg11 (L : LawC P w K mg base GT cL PL CT CW) (hr : Room 218 (A.deeper (envOfC "law" (defScope sLaw) s.heap.objs.size f (.ref cL)))) (hrm : Rm 253 (A.deeper (envOfC "law" (defScope sLaw) s.heap.objs.size f (.ref cL)))) : ∃ t, PSs (lawX P w K mg base f cL A outer s H0 E) ((defBody sLaw).drop 11) t ∧
    ∀ (Q : VK) (σ : L2.St) (H : Hp) (r : Addr) (sc : Addr × List Int) (vm : V) (m : Mill) (pw pl : Addr) (ws : List Str) (a0 a3 : Option V), σ = [a0, some (.ref r), some vm, a3, some (.ref pw), some (.ref pl), some (.int ((ws.length + 2 : Nat) : Int)), some (.str (textF m ws)), none, none, none, none, none, none, none, none, none, none, none, none, none] →
      Ls K GT PL qLam r sc vm m pw ws H → H pl = some (.lst ((linesF m ws).map V.str)) → (∀ H', Q (.bl true) H') → t { nx := fun _ H' => Q .non H', rt := Q } σ H := by
  have T := L.T
  obtain ⟨fr, fdr, Fr, mr, br, kr⟩ := L.rm
  obtain ⟨fw, fdw, Fw, mw, bw, kw⟩ := L.wr
  obtain ⟨tR, hR, qR⟩ := seg16 (A := A) (outer := outer) (s := s) (H0 := H0) (E := E) L hr hrm
  refine ⟨_, pss_cons (ps_if (PW.pt (pw_or (pt_not (pt_val (pe_cal L.alike (hr.mono (by omega)) rfl (pa_cons (pe_call Fw (hr.mono (by omega)) rfl mw kw bw .nil pass_no (pa_cons (pv 2) (pa_cons (pv 4) pa_nil))) (pa_cons (pv 7) pa_nil))))) (pw_or1 (pt_not (pt_val (pe_cal L.alike (hr.mono (by omega)) rfl (pa_cons (pe_toldR (K := K) (q := qLam) L (i := 7) rfl (hr.mono (by omega)) (LamX.lamS_by (sc := defScope sLaw) (by decide +kernel))) (pa_cons (pe_calR L.read hrm rfl (pa_cons (pv 7) pa_nil)) pa_nil)))))))) (pss_one (ps_ret pe_bl)) pss_nil) (pss_cons (ps_if (PW.pt (pw_and (pt_cmpR (op_eqL hr.units) (pe_lc (own := [("_law_pair", 20)]) rfl scLaw.nd (pi_list (pe_slice sl_list (pv 5) (po_some (pv 6)) po_none)) (blkOk_by (own := [("_law_pair", 20)]) (N := nLaw) (sc := defScope sLaw) (by decide +kernel)) (fun _ _ _ _ _ => pg_name (i := 20) scLaw.nd rfl (.inl rfl)) (fun _ _ _ _ _ => pts_one (pt_cmpR op_gt (pe_callB (call_len_seqK (K := K)) (by rfl) T.len PySem.boot_len (pa_cons (pe_cal L.signs (hr.mono (by omega)) rfl (pa_cons (pv 20) pa_nil)) pa_nil)) pe_int (nomark _))) (fun _ _ _ _ _ => (pv 20))) (pe_lst pa_nil) (nomark _)) (pw_and1 (pt_not (pt_val (pe_cal L.alike (hr.mono (by omega)) rfl (pa_cons (pe_call Fr (hr.mono (by omega)) rfl mr kr br .nil pass_no (pa_cons (pv 7) pa_nil)) (pa_cons (pe_tup (pa_cons (pv 2) (pa_cons (pv 4) pa_nil))) pa_nil)))))))) (pss_one (ps_ret pe_bl)) pss_nil) (pss_cons (ps_set (i := 8) scLaw.nd rfl (.inl rfl) (pe_op op_cat (pe_slice sl_list (pv 5) po_none (po_some (pv 6))) (pe_lc (own := [("_law_one", 17), ("_law_other", 18)]) (g := gTup K 2 (gCons (gName 17) (gCons (gName 18) gNil))) rfl scLaw.nd (pi_tup (pe_ix ix_tup (pv 2) pe_int (fun _ _ => rfl))) (blkOk_by (own := [("_law_one", 17), ("_law_other", 18)]) (N := nLaw) (sc := defScope sLaw) (by decide +kernel)) (fun _ _ _ _ _ => pg_tup rfl (pgs_cons (pg_name (i := 17) scLaw.nd rfl (.inl rfl)) (pgs_cons (pg_name (i := 18) scLaw.nd rfl (.inl rfl)) pgs_nil))) (fun _ _ _ _ _ => pts_nil) (fun _ _ _ _ _ => pe_op op_add_str (pe_op op_add_str (pe_cal L.loose (hr.mono (by omega)) rfl (pa_cons (pv 1) (pa_cons (pv 17) (pa_cons (pv 4) pa_nil)))) (pe_cal L.pick (hr.mono (by omega)) rfl (pa_cons (pv 1) (pa_cons (pe_lst (pa_cons pe_str (pa_cons pe_str (pa_cons pe_str pa_nil)))) pa_nil)))) (pe_cal L.loose (hr.mono (by omega)) rfl (pa_cons (pv 1) (pa_cons (pv 18) (pa_cons (pv 4) pa_nil)))))))) (pss_cons (ps_set (i := 9) scLaw.nd rfl (.inr rfl) (pe_join pe_str (pe_lc (own := [("_law_line", 19)]) rfl scLaw.nd (pi_list (pv 8)) (blkOk_by (own := [("_law_line", 19)]) (N := nLaw) (sc := defScope sLaw) (by decide +kernel)) (fun _ _ _ _ _ => pg_name (i := 19) scLaw.nd rfl (.inl rfl)) (fun _ _ _ _ _ => pts_nil) (fun _ _ _ _ _ => pe_op op_add_str (pv 19) pe_str)))) (pss_cons (ps_if (pt_not (pt_val (pe_cal L.alike (hr.mono (by omega)) rfl (pa_cons (pe_toldR (K := K) (q := qLam) L (i := 9) rfl (hr.mono (by omega)) (LamX.lamS_by (sc := defScope sLaw) (by decide +kernel))) (pa_cons (pe_calR L.read hrm rfl (pa_cons (pv 9) pa_nil)) pa_nil))))) (pss_one (ps_ret pe_bl)) pss_nil) hR)))), ?_⟩
  rintro Q σ H r sc vm m pw pl ws a0 a3 rfl l hl hq
  obtain ⟨w1, w3⟩ := l.few
  have ok := l.ok
  have wo := l.wo
  refine ⟨_, rfl, _, rfl, vm, .ref pw, m, rfl, l.dm, ok, l.tt, .inl ⟨ws, ⟨⟨pw, rfl, l.at_⟩, wo.len, ok.names.few, wo.word, wo.nd⟩, fun H1 x1 => ?_⟩⟩
  have l1 := l.told (x1.grow fun b hb => List.mem_cons_of_mem _ hb) (tabs_go l.tb x1 L.nin (by simp))
  have hl1 := x1.lst hl
  refine ⟨_, rfl, _, _, .str (textF m ws), rfl, .str _ _, .str _, .str _, fun H2 x2 => ⟨_, rfl, iteF ?_⟩⟩
  have l2 := l1.new x2
  have hl2 := x2.lst hl1
  have LB := lines_B wo ok
  obtain ⟨Ln1, Ln2⟩ := lines_n wo ok
  have iT : InOk (.str (textF m ws)) := in_txt (L := linesF m ws) (fun z hz => (LB z hz).mono (by decide) (by decide)) (by omega)
  refine rd_same L (i := 7) rfl iT l2.tt l2.tb fun H3 x3 t3 => ⟨_, rfl, iteF ?_⟩
  have l3 := l2.told x3 t3
  have hl3 := x3.lst hl2
  dsimp only [tNext, tSeq]
  refine joinS (fun Hx => Ls K GT PL qLam r sc vm m pw ws Hx ∧ Hx pl = some (.lst ((linesF m ws).map V.str))) (fun Qb hQ => ?_) (fun H4 hG => ?_)
  · refine ⟨_, rfl, _, rfl, _, rfl, pl, _, rfl, SqL.of hl3, fun q1 hq1 => ?_⟩
    rw [cut_dr, lines_drop wo]
    have y1 : Ext [] [] H3 (upd H3 q1 (.lst ((m.eqs.map (eqLF ws)).map V.str))) := .new hq1
    have g1 : (upd H3 q1 (.lst ((m.eqs.map (eqLF ws)).map V.str))) q1 = some (.lst ((m.eqs.map (eqLF ws)).map V.str)) := upd_same
    have l4 := l3.new y1
    have hl4 := y1.lst hl3
    generalize upd H3 q1 (.lst ((m.eqs.map (eqLF ws)).map V.str)) = H4 at y1 g1 l4 hl4 ⊢
    refine ⟨q1, rfl, ⟨_, SqL.of g1⟩, fun D0 hD => ?_⟩
    have few6 := ok.few
    refine lc_list (Acc [] [] H4 D0 (fun i ds => ds = ((m.eqs.take i).filter fun e => decide (200 < (sge ws e).length)).map fun e => D.str (eqLF ws e))) (acc0 hD rfl) (fun i H5 hi ac => SqL.of (ac.ext.lst g1)) (fun i x H5 hx ac => ?_) (fun H5 ac => ?_)
    · rw [List.getElem?_map, List.getElem?_map] at hx
      cases he : m.eqs[i]? with
      | none => rw [he] at hx; cases hx
      | some e =>
      rw [he] at hx
      cases hx
      have hm := List.mem_of_getElem? he
      have hi : i < 1000000 := by
        have := (List.getElem?_eq_some_iff.mp he).1
        omega
      have eB := eqL_B wo ok hm
      have sg := sg_eq (wsw_of wo.word) (wo.okE ok hm)
      refine ⟨rfl, _, rfl, eqLF ws e, rfl, Nat.le_trans eB.2.1 (by decide), eB.1.1, (fun z => by rw [sg] at z; cases z), fun ss hss H6 p x6 hp hp6 => ?_⟩
      rw [sg] at hss
      cases hss
      refine ⟨p, _, rfl, .inl (SqL.of hp6), _, _, rfl, rfl, _, rfl, ?_⟩
      by_cases h200 : 200 < (sge ws e).length
      · refine iteDT (by rw [List.length_map]; omega) ?_
        refine ⟨_, rfl, ?_⟩
        exact ac.step hD (by simp) hi x6 (.str _) (fun ds e2 => by rw [e2, List.take_add_one, he]; simp [h200])
      · refine iteDF (by rw [List.length_map]; omega) ?_
        exact ac.skip (by simp) x6 (fun ds e2 => by rw [e2, List.take_add_one, he]; simp [h200])
    · obtain ⟨⟨ds, l5, g5, _⟩, x5⟩ := ac
      have g5 : ds = ((m.eqs.take ((m.eqs.map (eqLF ws)).map V.str).length).filter fun e => decide (200 < (sge ws e).length)).map fun e => D.str (eqLF ws e) := g5
      rw [List.length_map, List.length_map, List.take_length] at g5
      have g5 : ds = ((m.eqs.filter fun e => decide (200 < (sge ws e).length)).map (eqLF ws)).map D.str := by rw [g5, List.map_map]; rfl
      subst g5
      have l5 := l5.str
      refine ⟨(by show 0 ≤ sizeLine; decide), fun pe hpe => ?_⟩
      have y6 : Ext [] [] H5 (upd H5 pe (.lst [])) := .new hpe
      have e6 : (upd H5 pe (.lst [])) pe = some (.lst (([] : List Str).map V.str)) := upd_same
      have l6 := (l4.new x5).new y6
      have hl6 := y6.lst (x5.lst hl4)
      have l56 := y6.lst l5
      generalize upd H5 pe (.lst []) = H6 at y6 e6 l6 hl6 l56 ⊢
      refine ⟨D0, pe, _, [], rfl, rfl, l56, e6, (fun z hz => by
        obtain ⟨e, he, rfl⟩ := List.mem_map.mp hz
        exact (eqL_B wo ok (List.mem_filter.mp he).1).1.1), by simp, _, rfl, ?_⟩
      refine iteD (fun hall => ?_) (fun _ => hQ _ ⟨l6, hl6⟩)
      have h200 : ∀ e ∈ m.eqs, (sge ws e).length ≤ 200 := fun e he => by
        rw [List.map_eq_nil_iff, List.filter_eq_nil_iff] at hall
        have := hall e he
        simpa using this
      have rb := read_back ok wo.len wo.g h200
      rcases iT with h | ⟨_, h⟩ | ⟨z, hz, oz, lz, _⟩
      · cases h
      · cases h
      cases hz
      refine ⟨_, rfl, _, rfl, l6.tt, .inr ⟨_, rfl, oz, lz, (fun k e => by rw [rb] at e; cases e), fun m' ws' e H7 v' x7 d => ?_⟩⟩
      rw [rb] at e
      cases e
      have l7 := l6.told (x7.grow fun b hb => List.mem_cons_of_mem _ hb) (tabs_go l6.tb x7 L.nin (by simp))
      have hl7 := x7.lst hl6
      refine ⟨_, rfl, _, rfl, (by show 2 ≤ sizeLine; decide), fun pt hpt => ?_⟩
      have y8 : Ext [] [] H7 (upd H7 pt (.tup [vm, .ref pw])) := .new hpt
      refine ⟨v', .ref pt, .tup [m.d, wordsD ws], rfl, dok2 (dok_mill ok) (dok_words w3), d.ext y8, .mk2 upd_same (l7.dm.ext y8) (DAt.ext y8 (.ofAll l7.at_ allD_str)), fun H8 x8 => ⟨_, rfl, ?_⟩⟩
      exact hQ _ ⟨l7.new (y8.trans x8), (y8.trans x8).lst hl7⟩
  obtain ⟨l4, hl4⟩ := hG
  dsimp only [tNext, tSeq]
  obtain ⟨pm, va, vb, vc, vd, rfl, hpm, da, db, dc, dd⟩ := DAt.tup4 l4.dm
  obtain ⟨pe, xe, rfl, hpe, ae⟩ := dd.all
  have xel : xe.length = m.eqs.length := by rw [ae.1, List.length_map]
  have few6 := ok.few
  refine ⟨_, rfl, _, rfl, _, rfl, pl, _, rfl, SqL.of hl4, fun q1 hq1 => ?_⟩
  rw [cut_tk]
  have y1 : Ext [] [] H4 (upd H4 q1 (.lst (((linesF m ws).take (ws.length + 2)).map V.str))) := .new hq1
  have g1 : (upd H4 q1 (.lst (((linesF m ws).take (ws.length + 2)).map V.str))) q1 = some (.lst (((linesF m ws).take (ws.length + 2)).map V.str)) := upd_same
  have l5 := l4.new y1
  have hl5 := y1.lst hl4
  have hpm5 := y1.tups _ _ hpm
  have hpe5 := y1.tups _ _ hpe
  have ae5 := ae.ext y1
  have neR : ∀ {Hx : Hp} {p : Addr} {zs : List Str}, RowAt K Hx r sc → Hx p = some (.lst (zs.map V.str)) → p ≠ r := fun {Hx p zs} row e z => by
    obtain ⟨_, _, _, e', _⟩ := row.ex
    rw [← z, e] at e'
    cases zs with
    | nil => cases e'
    | cons a b => cases e'
  generalize upd H4 q1 (.lst (((linesF m ws).take (ws.length + 2)).map V.str)) = H5 at y1 g1 l5 hl5 hpm5 hpe5 ae5 ⊢
  have npl := neR l5.row hl5
  have ng1 := neR l5.row g1
  refine ⟨_, rfl, pm, _, _, _, rfl, rfl, SqT.of hpm5, atI_nat (j := 3) rfl, pe, rfl, ⟨_, SqT.of hpe5⟩, fun D0 hD => ?_⟩
  have hrD : D0 ≠ r := l5.row.ne hD
  refine lc_tup (xs := xe) (fun i H' => Acc [] [r] H5 D0 (fun i ds => ∃ zs : List Str, ds = zs.map D.str ∧ zs.length = i ∧ ∀ z ∈ zs, LnB 4400 50 z) i H' ∧ RowAt K H' r sc) ⟨acc0 hD ⟨[], rfl, rfl, by simp⟩, l5.row.ext (GT := []) (.new hD)⟩ (fun i H6 hi ac => SqT.of (ac.1.ext.tups _ _ hpe5)) (fun i x H6 hx ac => ?_) (fun H6 ac => ?_)
  · obtain ⟨ac, row6⟩ := ac
    have hi : i < 1000000 := by
      have := (List.getElem?_eq_some_iff.mp hx).1
      omega
    obtain ⟨de, hde, hxe⟩ := ae5.get hx
    rw [List.getElem?_map] at hde
    obtain ⟨e, he, rfl⟩ := Option.map_eq_some_iff.mp hde
    have hm := List.mem_of_getElem? he
    obtain ⟨oa, ob⟩ := wo.okE ok hm
    obtain ⟨d1, d2⟩ := ok.deep e hm
    obtain ⟨pt, u, v, rfl, hpt, du, dv⟩ := DAt.tup2 hxe
    have x6 : Ext [] [r] H5 H6 := ac.ext
    have p1 : 3 ^ e.1.deep ≤ 3 ^ 5 := Nat.pow_le_pow_right (by decide) d1
    have p2 : 3 ^ e.2.deep ≤ 3 ^ 5 := Nat.pow_le_pow_right (by decide) d2
    refine ⟨pt, _, rfl, SqT.of (x6.tups _ _ hpt), rfl, u, _, rfl, v, _, rfl, rfl, rfl, ?_⟩
    refine ⟨_, rfl, _, rfl, _, rfl, r, sc, u, e.1, pw, ws, rfl, row6, du.ext x6, oa, d1, by decide, x6.tups _ _ l5.at_, wo.w8, wo.wN, wo.hd, fun za H7 hza oza hda x7 row7 => ?_⟩
    refine ⟨_, rfl, (by show 3 ≤ sizeLine; decide), fun q2 hq2 => ?_⟩
    have y8 : Ext [] [] H7 (upd H7 q2 (.lst [.str "=", .str " = ", .str "  ="])) := .new hq2
    refine ⟨r, q2, _, sc, rfl, row7.ext (GT := []) y8, row7.ne hq2, upd_same, (by show 1 ≤ 3; decide), (by show 3 < 1000; decide), fun jj wv H8 hwv x8 row8 => ?_⟩
    obtain ⟨sf, rfl, osf, lsf⟩ : ∃ sf : Str, wv = .str sf ∧ okN sf ∧ sf.length ≤ 3 := by
      match jj, hwv with
      | 0, h => cases h; exact ⟨_, rfl, okdN, by decide⟩
      | 1, h => cases h; exact ⟨_, rfl, okdN, by decide⟩
      | 2, h => cases h; exact ⟨_, rfl, okdN, by decide⟩
      | _ + 3, h => simp at h
    have x68 := (x6.trans x7).trans (y8.wide.trans x8)
    refine ⟨_, _, rfl, rfl, line100 (by omega), ?_⟩
    refine ⟨_, rfl, _, rfl, _, rfl, r, sc, v, e.2, pw, ws, rfl, row8, dv.ext x68, ob, d2, by decide, x68.tups _ _ l5.at_, wo.w8, wo.wN, wo.hd, fun zb H9 hzb ozb hdb x9 row9 => ?_⟩
    refine ⟨_, _, rfl, rfl, line100 (by rw [len_app]; omega), ?_⟩
    have oL : LnB 4400 50 (za ++ sf ++ zb) := .hd (okN_app (okN_app oza osf) ozb) (by rw [len_app, len_app]; omega) (hdT_app (hdT_app hda))
    obtain ⟨acc, ea, la, ac'⟩ := ac.step hD (by simp [hrD]) hi ((x7.trans (y8.wide.trans x8)).trans x9) (.str (za ++ sf ++ zb)) (fun ds ⟨ts, e1, e2, e3⟩ => ⟨ts ++ [za ++ sf ++ zb], by rw [e1, List.map_append]; rfl, by rw [List.length_append, e2]; rfl, fun t ht => by
      rcases List.mem_append.mp ht with z | z
      · exact e3 t z
      · rw [List.mem_singleton.mp z]
        exact oL⟩)
    exact ⟨acc, ea, la, ac', RowAt.put l5.row hD row9⟩
  · obtain ⟨⟨⟨ds, l6, ⟨zs, rfl, zl, hzs⟩, _⟩, x6⟩, row6⟩ := ac
    have l6 := l6.str
    have L6 := l5.draw x6 row6
    have hl6 := x6.lstM hl5 (by simp [npl])
    have g6 := x6.lstM g1 (by simp [ng1])
    have zl6 : zs.length = m.eqs.length := zl.trans xel
    have tkl : ((linesF m ws).take (ws.length + 2)).length ≤ 5 := by rw [List.length_take]; omega
    refine ⟨q1, D0, _, _, rfl, rfl, g6, l6, Nat.le_trans (by rw [List.length_map, List.length_map]; show _ ≤ 24; omega) (by show 24 ≤ sizeLine; decide), fun p8 hp8 => ?_⟩
    rw [← List.map_append]
    obtain ⟨Lo, hLo⟩ : ∃ Lo : List Str, Lo = (linesF m ws).take (ws.length + 2) ++ zs := ⟨_, rfl⟩
    rw [← hLo]
    have LoB : ∀ z ∈ Lo, LnB 4400 50 z := fun z hz => by
      rw [hLo] at hz
      rcases List.mem_append.mp hz with h | h
      · exact LB z (List.mem_of_mem_take h)
      · exact hzs z h
    have LoN : Lo.length ≤ 19 := by rw [hLo, List.length_append]; omega
    have y7 : Ext [] [] H6 (upd H6 p8 (.lst (Lo.map V.str))) := .new hp8
    have g8 : (upd H6 p8 (.lst (Lo.map V.str))) p8 = some (.lst (Lo.map V.str)) := upd_same
    have l7 := L6.new y7
    have hl7 := y7.lst hl6
    generalize upd H6 p8 (.lst (Lo.map V.str)) = H7 at y7 g8 l7 hl7 ⊢
    dsimp only [gName, tSeq, tAsg]
    refine rd_join (i := 8) (K := K) (p := p8) (L := Lo) (by rfl) g8 (fun z hz => Nat.le_trans (LoB z hz).2.1 (by decide)) LoN fun H8 x8 => ?_
    have l8 := l7.new x8
    have hl8 := x8.lst hl7
    have iv : InOk (.str (txtL Lo)) := in_txt (fun z hz => (LoB z hz).mono (by decide) (by decide)) LoN
    refine not_q fun Q' hQ => ?_
    refine rd_same L (i := 9) rfl iv l8.tt l8.tb fun H9 x9 t9 => hQ _ _ (iteF ?_)
    have l9 := l8.told x9 t9
    have hl9 := x9.lst hl8
    exact qR Q _ H9 r sc _ m pw pl ws (linesF m ws) _ _ _ _ _ rfl l9 hl9 LB (by omega) Ln2 hq
end
end ML
set_option maxHeartbeats 4000000
namespace ML
open PySem PySem.Spec PyProof.Rows L2 TL Gn
theorem names_take {m : Mill} {ws : List Str} {i : Nat} (w : WsOk m ws) {z : Str} (hz : ws[i]? = some z) {n : Nat × Nat} (hn : m.names[i]? = some n) : (ws.zip m.names)[i]? = some (z, n) := by
  rw [List.getElem?_zip_eq_some]
  exact ⟨hz, hn⟩
section
variable {P : Program} {w : World} {K : PySem.W.Frag} {mg : Str → Option Value} {base : Heap} {GT : List Addr} {cL PL CT CW f : Addr} {A : Around} {outer : List Env} {s : Shared} {H0 : Hp} {E : XK} {q : Str}
theorem seg5 (L : LawC P w K mg base GT cL PL CT CW) (hr : Room 218 (A.deeper (envOfC "law" (defScope sLaw) s.heap.objs.size f (.ref cL)))) (hrm : Rm 253 (A.deeper (envOfC "law" (defScope sLaw) s.heap.objs.size f (.ref cL)))) : ∃ t, PSs (lawX P w K mg base f cL A outer s H0 E) ((defBody sLaw).drop 5) t ∧
    ∀ (Q : VK) (σ : L2.St) (H : Hp) (r : Addr) (sc : Addr × List Int) (vm : V) (m : Mill) (pw : Addr) (ws : List Str) (a0 a3 : Option V), σ = [a0, some (.ref r), some vm, a3, some (.ref pw), none, none, none, none, none, none, none, none, none, none, none, none, none, none, none, none] →
      Ls K GT PL qLam r sc vm m pw ws H → (∀ H', Q (.bl true) H') → t { nx := fun _ H' => Q .non H', rt := Q } σ H := by
  have T := L.T
  obtain ⟨tR, hR, qR⟩ := seg11 (A := A) (outer := outer) (s := s) (H0 := H0) (E := E) L hr hrm
  refine ⟨_, pss_cons (ps_set (i := 5) scLaw.nd rfl (.inl rfl) (pe_lst (pa_cons (pe_op op_add_str pe_str (pe_callTy call_str_int (by rfl) T.str boot_str (pa_cons (pe_ix ix_tup (pv 2) pe_int (fun _ _ => rfl)) pa_nil))) pa_nil))) (pss_cons (ps_set (i := 5) scLaw.nd rfl (.inl rfl) (pe_op op_cat (pv 5) (pe_lc (own := [("_law_k", 12)]) rfl scLaw.nd (pi_range1 (by rfl) T.range (pa_cons (pe_callB call_len_seq (by rfl) T.len PySem.boot_len (pa_cons (pv 4) pa_nil)) pa_nil)) (blkOk_by (own := [("_law_k", 12)]) (N := nLaw) (sc := defScope sLaw) (by decide +kernel)) (fun _ _ _ _ _ => pg_name (i := 12) scLaw.nd rfl (.inl rfl)) (fun _ _ _ _ _ => pts_nil) (fun _ _ _ _ _ => pe_op op_add_str (pe_op op_add_str (pe_op op_add_str (pe_op op_add_str (pe_op op_add_str pe_str (pe_ix (ix_tupK (K := K)) (pv 4) (pv 12) (fun _ _ => rfl))) pe_str) (pe_callTy call_str_int (by rfl) T.str boot_str (pa_cons (pe_ix (ix_tupK (K := K)) (pe_ix (ix_tupK (K := K)) (pe_ix (ix_tupK (K := K)) (pv 2) pe_int (fun _ _ => rfl)) (pv 12) (fun _ _ => rfl)) pe_int (fun _ _ => rfl)) pa_nil))) pe_str) (pe_callTy call_str_int (by rfl) T.str boot_str (pa_cons (pe_ix (ix_tupK (K := K)) (pe_ix (ix_tupK (K := K)) (pe_ix (ix_tupK (K := K)) (pv 2) pe_int (fun _ _ => rfl)) (pv 12) (fun _ _ => rfl)) pe_int (fun _ _ => rfl)) pa_nil)))))) (pss_cons (ps_expr (pe_bm PySem.F.plainAttrs_list PySem.F.slot_list_append PySem.F.type_list_append mt_append (pv 5) (pa_cons (pe_op op_add_str pe_str (pe_join pe_str (pe_lc (own := [("_law_name", 16)]) rfl scLaw.nd (pi_tup (pe_ix ix_tup (pv 2) pe_int (fun _ _ => rfl))) (blkOk_by (own := [("_law_name", 16)]) (N := nLaw) (sc := defScope sLaw) (by decide +kernel)) (fun _ _ _ _ _ => pg_name (i := 16) scLaw.nd rfl (.inl rfl)) (fun _ _ _ _ _ => pts_nil) (fun _ _ _ _ _ => pe_ix (ix_tupK (K := K)) (pv 4) (pv 16) (fun _ _ => rfl))))) pa_nil))) (pss_cons (ps_set (i := 6) scLaw.nd rfl (.inl rfl) (pe_callB call_len_seq (by rfl) T.len PySem.boot_len (pa_cons (pv 5) pa_nil))) (pss_cons (ps_set (i := 5) scLaw.nd rfl (.inl rfl) (pe_op op_cat (pv 5) (pe_lc (own := [("_law_one", 17), ("_law_other", 18)]) (g := gTup K 2 (gCons (gName 17) (gCons (gName 18) gNil))) rfl scLaw.nd (pi_tup (pe_ix ix_tup (pv 2) pe_int (fun _ _ => rfl))) (blkOk_by (own := [("_law_one", 17), ("_law_other", 18)]) (N := nLaw) (sc := defScope sLaw) (by decide +kernel)) (fun _ _ _ _ _ => pg_tup rfl (pgs_cons (pg_name (i := 17) scLaw.nd rfl (.inl rfl)) (pgs_cons (pg_name (i := 18) scLaw.nd rfl (.inl rfl)) pgs_nil))) (fun _ _ _ _ _ => pts_nil) (fun _ _ _ _ _ => pe_op op_add_str (pe_op op_add_str (pe_cal L.text (hr.mono (by omega)) rfl (pa_cons (pv 17) (pa_cons (pv 4) (pa_cons pe_int pa_nil)))) pe_str) (pe_cal L.text (hr.mono (by omega)) rfl (pa_cons (pv 18) (pa_cons (pv 4) (pa_cons pe_int pa_nil)))))))) (pss_cons (ps_set (i := 7) scLaw.nd rfl (.inr rfl) (pe_join pe_str (pe_lc (own := [("_law_line", 19)]) rfl scLaw.nd (pi_list (pv 5)) (blkOk_by (own := [("_law_line", 19)]) (N := nLaw) (sc := defScope sLaw) (by decide +kernel)) (fun _ _ _ _ _ => pg_name (i := 19) scLaw.nd rfl (.inl rfl)) (fun _ _ _ _ _ => pts_nil) (fun _ _ _ _ _ => pe_op op_add_str (pv 19) pe_str)))) hR))))), ?_⟩
  rintro Q σ H r sc vm m pw ws a0 a3 rfl l hq
  obtain ⟨w1, w3⟩ := l.few
  have ok := l.ok
  have wo := l.wo
  have few6 := ok.few
  obtain ⟨pm, va, vb, vc, vd, rfl, hpm, da, db, dc, dd⟩ := DAt.tup4 l.dm
  have da := da.intI
  subst da
  obtain ⟨pn, xn, rfl, hpn, an⟩ := db.all
  obtain ⟨pt, xt, rfl, hpt, at_⟩ := dc.all
  obtain ⟨pe, xe, rfl, hpe, ae⟩ := dd.all
  have l9 := ok.letters.2
  have s24 : ∀ {n : Nat}, n ≤ 24 → n ≤ sizeLine := fun h => Nat.le_trans h (by show 24 ≤ sizeLine; decide)
  have nl1 : (numS m.letters).length = 1 := (okN_num9 (by omega)).2
  have c8 : ("letters " : Str).length = 8 := by decide
  refine ⟨_, rfl, pm, _, _, _, rfl, rfl, SqT.of hpm, atI_nat (j := 0) rfl, _, rfl, log_small (by omega), _, _, rfl, rfl, line100 (by show ("letters " : Str).length + (numS m.letters).length ≤ _; omega), s24 (by show 1 ≤ 24; decide), fun p1 hp1 => ?_⟩
  have x1 : Ext [] [] H (upd H p1 (.lst ([l0F m].map V.str))) := .new hp1
  have g1 : (upd H p1 (.lst ([l0F m].map V.str))) p1 = some (.lst ([l0F m].map V.str)) := upd_same
  dsimp only [gName, tSeq, tAsg]
  show tOp _ _ _ _ (upd H p1 (.lst ([l0F m].map V.str))) _
  have l1 := l.new x1
  have hpm1 := x1.tups _ _ hpm
  have hpn1 := x1.tups _ _ hpn
  have an1 := an.ext x1
  generalize upd H p1 (.lst ([l0F m].map V.str)) = H1 at x1 g1 l1 hpm1 hpn1 an1 ⊢
  have nsl := wo.len
  have zlen : (ws.zip m.names).length = ws.length := by rw [List.length_zip]; omega
  refine ⟨_, rfl, _, rfl, pw, _, rfl, .inr (SqT.of l1.at_), (ws.map V.str).length, rfl, by omega, by rw [List.length_map]; omega, fun D0 hD => ?_⟩
  refine lc_range (n := (ws.map V.str).length) (Acc [] [] H1 D0 (fun i ds => ds = ((ws.zip m.names).take i).map fun x => D.str (nameLF x.1 x.2))) (acc0 hD rfl) (fun i H2 hi ac => ?_) (fun H2 ac => ?_)
  · rw [List.length_map] at hi
    obtain ⟨z, hz⟩ : ∃ z, ws[i]? = some z := ⟨_, List.getElem?_eq_getElem hi⟩
    obtain ⟨n, hn⟩ : ∃ n, m.names[i]? = some n := ⟨_, List.getElem?_eq_getElem (by omega)⟩
    have hzn := names_take wo hz hn
    obtain ⟨k1, k2, k3⟩ := ok.names.each n (List.mem_of_getElem? hn)
    have x2 := ac.ext
    obtain ⟨xi, hxi, dxi⟩ := an1.getD (i := i) (d := .tup [.int n.1, .int n.2]) (by rw [List.getElem?_map, hn]; rfl)
    obtain ⟨px, ua, ub, rfl, hpx, dua, dub⟩ := DAt.tup2 dxi
    have dua := dua.intI
    have dub := dub.intI
    subst dua dub
    have c1 : n.1 ≤ 9 := by omega
    have c2 : n.2 ≤ 9 := by omega
    have n1 := (okN_num9 c1).2
    have n2 := (okN_num9 c2).2
    have z8 := wo.w8 z (List.mem_of_getElem? hz)
    have d1 : ("name " : Str).length = 5 := by decide
    have d2 : (" " : Str).length = 1 := by decide
    have d3 : (" from " : Str).length = 6 := by decide
    have hzv : (ws.map V.str)[i]? = some (.str z) := by rw [List.getElem?_map, hz]; rfl
    refine ⟨rfl, ?_⟩
    refine ⟨_, rfl, _, rfl, pw, _, _, _, rfl, rfl, SqT.of (x2.tups _ _ l1.at_), (by rw [Int.zero_add]; exact atI_nat hzv), _, _, rfl, rfl, line100 (by omega), _, _, rfl, rfl, line100 (by rw [len_app]; omega), ?_⟩
    refine ⟨_, rfl, pm, _, _, _, rfl, rfl, SqT.of (x2.tups _ _ hpm1), atI_nat (j := 1) rfl, _, rfl, pn, _, _, _, rfl, rfl, SqT.of (x2.tups _ _ hpn1), (by rw [Int.zero_add]; exact atI_nat hxi), px, _, _, _, rfl, rfl, SqT.of (x2.tups _ _ hpx), atI_nat (j := 0) rfl, _, rfl, log_small (by omega), ?_⟩
    refine ⟨_, _, rfl, rfl, line100 (by show (("name " : Str) ++ z ++ (" " : Str)).length + (numS n.1).length ≤ _; rw [len_app, len_app]; omega), _, _, rfl, rfl, line100 (by show (("name " : Str) ++ z ++ (" " : Str) ++ numS n.1).length + (" from " : Str).length ≤ _; rw [len_app, len_app, len_app]; omega), ?_⟩
    refine ⟨_, rfl, pm, _, _, _, rfl, rfl, SqT.of (x2.tups _ _ hpm1), atI_nat (j := 1) rfl, _, rfl, pn, _, _, _, rfl, rfl, SqT.of (x2.tups _ _ hpn1), (by rw [Int.zero_add]; exact atI_nat hxi), px, _, _, _, rfl, rfl, SqT.of (x2.tups _ _ hpx), atI_nat (j := 1) rfl, _, rfl, log_small (by omega), ?_⟩
    refine ⟨_, _, rfl, rfl, line100 (by show (("name " : Str) ++ z ++ (" " : Str) ++ numS n.1 ++ (" from " : Str)).length + (numS n.2).length ≤ _; rw [len_app, len_app, len_app, len_app]; omega), ?_⟩
    have hG : ∀ ds : List D, (ds = ((ws.zip m.names).take i).map fun x => D.str (nameLF x.1 x.2)) → ds ++ [D.str (nameLF z n)] = ((ws.zip m.names).take (i + 1)).map fun x => D.str (nameLF x.1 x.2) := fun ds e => by
      rw [List.take_add_one, hzn, e, List.map_append]
      rfl
    have en : ("name " : Str) ++ z ++ (" " : Str) ++ numS n.1 ++ (" from " : Str) ++ numS n.2 = nameLF z n := rfl
    rw [en]
    exact ac.step hD (by simp) (by omega) .refl (.str _) hG
  obtain ⟨⟨ds, l2, g2, _⟩, x2⟩ := ac
  have g2 : ds = ((ws.zip m.names).take (ws.map V.str).length).map fun x => D.str (nameLF x.1 x.2) := g2
  rw [List.length_map, ← zlen, List.take_length] at g2
  have g2 : ds = ((ws.zip m.names).map fun x => nameLF x.1 x.2).map D.str := by rw [g2, List.map_map]; rfl
  subst g2
  have l2 := l2.str
  have g12 := x2.lst g1
  obtain ⟨A6, hA6⟩ : ∃ A6 : List Str, A6 = [l0F m] ++ (ws.zip m.names).map fun x => nameLF x.1 x.2 := ⟨_, rfl⟩
  have A6n : A6.length = ws.length + 1 := by rw [hA6, List.length_append, List.length_map, zlen, List.length_singleton]; omega
  refine ⟨p1, D0, _, _, rfl, rfl, g12, l2, s24 (by rw [List.length_map, List.length_map, List.length_map, zlen, List.length_singleton]; omega), fun p6 hp6 => ?_⟩
  rw [← List.map_append, ← hA6]
  have L2 := l1.new x2
  have fresh6 := hp6
  dsimp only [tDrop]
  have y6 : Ext [] [] H2 (upd H2 p6 (.lst (A6.map V.str))) := .new hp6
  have g6 : (upd H2 p6 (.lst (A6.map V.str))) p6 = some (.lst (A6.map V.str)) := upd_same
  have hpm6 := y6.tups _ _ (x2.tups _ _ hpm1)
  have hpt6 := y6.tups _ _ (x2.tups _ _ (x1.tups _ _ hpt))
  have at6 := at_.ext ((x1.trans x2).trans y6)
  generalize upd H2 p6 (.lst (A6.map V.str)) = H6 at y6 g6 hpm6 hpt6 at6 ⊢
  have xtl : xt = (m.told.map fun (i : Nat) => (i : Int)).map V.int := by
    refine allD_intI (H := H6) ?_
    rw [List.map_map]
    exact at6
  subst xtl
  obtain ⟨zT, hzT⟩ : ∃ zT : List Str, zT = m.told.map fun j => ws.getD j (Str.ofString "") := ⟨_, rfl⟩
  refine ⟨_, rfl, .inl ⟨rfl, _, SqL.of g6⟩, ?_⟩
  refine ⟨⟨_, rfl⟩, _, rfl, pm, _, _, _, rfl, rfl, SqT.of hpm6, atI_nat (j := 2) rfl, pt, rfl, ⟨_, SqT.of hpt6⟩, fun D1 hD1 => ?_⟩
  have L6 := L2.new y6
  have tfew := ok.told.few
  refine lc_tup (xs := (m.told.map fun (i : Nat) => (i : Int)).map V.int) (Acc [] [] H6 D1 (fun i ds => ds = (zT.take i).map D.str)) (acc0 hD1 rfl) (fun i H7 hi ac => SqT.of (ac.ext.tups _ _ hpt6)) (fun i x H7 hx ac => ?_) (fun H7 ac => ?_)
  · rw [List.getElem?_map, List.getElem?_map] at hx
    cases hj : m.told[i]? with
    | none => rw [hj] at hx; cases hx
    | some j =>
    rw [hj] at hx
    cases hx
    have hm := List.mem_of_getElem? hj
    have hjl : j < ws.length := by rw [wo.len]; exact ok.told.each j hm
    have hi : i < 1000000 := by
      have := (List.getElem?_eq_some_iff.mp hj).1
      omega
    have hzj : ws[j]? = some (ws.getD j (Str.ofString "")) := by rw [getD_mem hjl, List.getElem?_eq_getElem hjl]
    have hG : ∀ ds : List D, ds = (zT.take i).map D.str → ds ++ [D.str (ws.getD j (Str.ofString ""))] = (zT.take (i + 1)).map D.str := fun ds e => by
      rw [List.take_add_one, e, hzT, List.getElem?_map, hj, List.map_append]
      rfl
    refine ⟨rfl, _, rfl, _, rfl, pw, _, _, _, rfl, rfl, SqT.of (ac.ext.tups _ _ L6.at_), atI_nat (j := j) (by rw [List.getElem?_map, hzj]; rfl), ?_⟩
    exact ac.step hD1 (by simp) hi .refl (.str _) hG
  obtain ⟨⟨ds, l7, g7, _⟩, x7⟩ := ac
  have g7 : ds = (zT.take ((m.told.map fun (i : Nat) => (i : Int)).map V.int).length).map D.str := g7
  have zTn : zT.length = m.told.length := by rw [hzT, List.length_map]
  rw [List.length_map, List.length_map, ← zTn, List.take_length] at g7
  subst g7
  have l7 := l7.str
  have zT8 : ∀ z ∈ zT, z.length ≤ 8 := fun z hz => by
    rw [hzT] at hz
    obtain ⟨j, hj, rfl⟩ := List.mem_map.mp hz
    have hjl : j < ws.length := by rw [wo.len]; exact ok.told.each j hj
    rw [getD_mem hjl]
    exact wo.w8 _ (List.getElem_mem hjl)
  have zs := sum_le zT8
  have c1 : (" " : Str).length = 1 := by decide
  have c6 : ("tells " : Str).length = 6 := by decide
  have jl := join_len2 " " zT
  rw [c1] at jl
  refine ⟨_, D1, zT, rfl, rfl, .inl (SqL.of l7), by rw [c1]; omega, ?_⟩
  refine ⟨_, _, rfl, rfl, line100 (by omega), ?_⟩
  have eT : ("tells " : Str) ++ Txt.join " " zT = tellF ws m.told := by rw [hzT]; rfl
  rw [eT]
  have g67 := x7.lst g6
  refine ⟨p6, _, _, rfl, rfl, g67, Nat.lt_of_lt_of_le (by rw [List.length_map, A6n]; omega : _ < 1000000) (by decide), ?_⟩
  obtain ⟨A7, hA7⟩ : ∃ A7 : List Str, A7 = A6 ++ [tellF ws m.told] := ⟨_, rfl⟩
  have A7n : A7.length = ws.length + 2 := by rw [hA7, List.length_append, A6n, List.length_singleton]
  rw [show A6.map V.str ++ [V.str (tellF ws m.told)] = A7.map V.str by rw [hA7, List.map_append]; rfl]
  have x27 : Ext [] [] H2 (upd H7 p6 (.lst (A7.map V.str))) := (y6.trans x7).mutN hp6
  have g8 : (upd H7 p6 (.lst (A7.map V.str))) p6 = some (.lst (A7.map V.str)) := upd_same
  have L8 := L2.new x27
  have hpm8 := x27.tups _ _ (x2.tups _ _ hpm1)
  have hpe8 := x27.tups _ _ (x2.tups _ _ (x1.tups _ _ hpe))
  have ae8 := ae.ext ((x1.trans x2).trans x27)
  generalize upd H7 p6 (.lst (A7.map V.str)) = H8 at g8 L8 hpm8 hpe8 ae8 ⊢
  clear x27 x7 g67 l7
  refine ⟨_, rfl, p6, _, rfl, .inl (SqL.of g8), ?_⟩
  rw [show (A7.map V.str).length = ws.length + 2 by rw [List.length_map, A7n]]
  have xel : xe.length = m.eqs.length := by rw [ae.1, List.length_map]
  obtain ⟨zE, hzE⟩ : ∃ zE : List Str, zE = m.eqs.map (eqLF ws) := ⟨_, rfl⟩
  dsimp only [gName, tSeq, tAsg]
  refine ⟨_, rfl, _, rfl, pm, _, _, _, rfl, rfl, SqT.of hpm8, atI_nat (j := 3) rfl, pe, rfl, ⟨_, SqT.of hpe8⟩, fun D2 hD2 => ?_⟩
  refine lc_tup (xs := xe) (Acc [] [] H8 D2 (fun i ds => ds = (zE.take i).map D.str)) (acc0 hD2 rfl) (fun i H9 hi ac => SqT.of (ac.ext.tups _ _ hpe8)) (fun i x H9 hx ac => ?_) (fun H9 ac => ?_)
  · have hi : i < 1000000 := by
      have := (List.getElem?_eq_some_iff.mp hx).1
      omega
    obtain ⟨de, hde, hxe⟩ := ae8.get hx
    rw [List.getElem?_map] at hde
    obtain ⟨e, he, rfl⟩ := Option.map_eq_some_iff.mp hde
    have hm := List.mem_of_getElem? he
    obtain ⟨oa, ob⟩ := wo.okE ok hm
    obtain ⟨d1, d2⟩ := ok.deep e hm
    obtain ⟨pq, u, v, rfl, hpq, du, dv⟩ := DAt.tup2 hxe
    have x9 : Ext [] [] H8 H9 := ac.ext
    have c3 : (" = " : Str).length = 3 := by decide
    have h1 := W_1944 wo.w8 (k := 0) oa d1
    have h2 := W_1944 wo.w8 (k := 0) ob d2
    have hG : ∀ ds : List D, ds = (zE.take i).map D.str → ds ++ [D.str (eqLF ws e)] = (zE.take (i + 1)).map D.str := fun ds e2 => by
      rw [List.take_add_one, e2, hzE, List.getElem?_map, he, List.map_append]
      rfl
    refine ⟨pq, _, rfl, SqT.of (x9.tups _ _ hpq), rfl, u, _, rfl, v, _, rfl, rfl, rfl, ?_⟩
    refine ⟨_, rfl, _, rfl, u, e.1, pw, ws, 0, rfl, du.ext x9, oa, d1, by decide, x9.tups _ _ L8.at_, wo.w8, fun H10 s10 => ?_⟩
    have x10 : Ext [] [] H9 H10 := .same s10
    refine ⟨_, _, rfl, rfl, line100 (by omega), _, rfl, _, rfl, v, e.2, pw, ws, 0, rfl, dv.ext (x9.trans x10), ob, d2, by decide, (x9.trans x10).tups _ _ L8.at_, wo.w8, fun H11 s11 => ?_⟩
    have x11 : Ext [] [] H10 H11 := .same s11
    refine ⟨_, _, rfl, rfl, line100 (by rw [len_app]; omega), ?_⟩
    have en : W ws e.1 0 ++ (" = " : Str) ++ W ws e.2 0 = eqLF ws e := rfl
    rw [en]
    exact ac.step hD2 (by simp) hi (x10.trans x11) (.str _) hG
  obtain ⟨⟨ds, l9', g9, _⟩, x9⟩ := ac
  have g9 : ds = (zE.take xe.length).map D.str := g9
  have zEn : zE.length = m.eqs.length := by rw [hzE, List.length_map]
  rw [xel, ← zEn, List.take_length] at g9
  subst g9
  have l9' := l9'.str
  have g89 := x9.lst g8
  refine ⟨p6, D2, _, _, rfl, rfl, g89, l9', s24 (by rw [List.length_map, List.length_map, A7n, zEn]; omega), fun p9 hp9 => ?_⟩
  rw [← List.map_append]
  have eL : A7 ++ zE = linesF m ws := by rw [hA7, hA6, hzE]; rfl
  rw [eL]
  have y9 : Ext [] [] H9 (upd H9 p9 (.lst ((linesF m ws).map V.str))) := .new hp9
  have g10 : (upd H9 p9 (.lst ((linesF m ws).map V.str))) p9 = some (.lst ((linesF m ws).map V.str)) := upd_same
  have L10 := (L8.new x9).new y9
  generalize upd H9 p9 (.lst ((linesF m ws).map V.str)) = H10 at g10 L10 ⊢
  obtain ⟨Ln1, Ln2⟩ := lines_n wo ok
  have LB := lines_B wo ok
  dsimp only [gName, tSeq, tAsg]
  refine rd_join (i := 5) (K := K) (p := p9) (L := linesF m ws) (by rfl) g10 (fun z hz => Nat.le_trans (LB z hz).2.1 (by decide)) (by omega) fun H11 x11 => ?_
  exact qR Q _ H11 r sc _ m pw p9 ws _ _ rfl (L10.new x11) (x11.lst g10) hq
end
end ML
set_option maxHeartbeats 4000000
namespace ML
open PySem PySem.Spec PyProof.Rows L2 TL Gn
section
variable {K : PySem.W.Frag} {H : Hp} {Q : VK} {a b : Addr} {xs ys : List V}
/-- t + u, both tuples: one object, or a new one -/
theorem rd_catA (ha : SqT K H a xs) (hb : SqT K H b ys) (ha' : H a = some (.tup xs)) (hb' : H b = some (.tup ys)) (hl : xs.length + ys.length ≤ 1000) (hq : ∀ p H', Ext [] [] H H' → H' p = some (.tup (xs ++ ys)) → Q (.ref p) H') : rCatA K (.ref a) (.ref b) H Q :=
  ⟨a, b, xs, ys, rfl, rfl, ha, hb, line100 (by omega), fun e => hq b H .refl (by rw [e]; exact hb'), fun _ e => hq a H .refl (by rw [e, List.append_nil]; exact ha'), fun _ _ p hp => hq p _ (.new hp) upd_same⟩
theorem cutV_all {k : Nat} (h : HT.sIx xs.length xs.length (some (k : Int)) = xs.length) : xs.take k = xs := by
  rw [HT.sIx_nat] at h
  exact List.take_of_length_le (by omega)
/-- t[:k] -/
theorem rd_slA {k : Nat} (ha : H a = some (.tup xs)) (hq : ∀ p H', Ext [] [] H H' → H' p = some (.tup (xs.take k)) → Q (.ref p) H') : rSlA K (.ref a) none (some (k : Int)) H Q :=
  ⟨a, xs, rfl, SqT.of ha, fun e => hq a H .refl (by rw [cutV_all e.2]; exact ha), fun _ p hp => hq p _ (.new hp) (by rw [← cut_to]; exact upd_same)⟩
end
theorem ws_take {m : Mill} {l : List Str} {n : Nat} (hl : l.length = 3) (hn : n = m.names.length) (h3 : n ≤ 3) (hw : ∀ z ∈ l, isWordF z = true) (nd : l.Nodup) (hd : ∀ z ∈ l, hdT z) : WsOk m (l.take n) :=
  ⟨by rw [List.length_take, hl, ← hn]; omega, fun z hz => hw z (List.mem_of_mem_take hz), nd.sublist (List.take_sublist n l), fun z hz => hd z (List.mem_of_mem_take hz)⟩
section
variable {P : Program} {w : World} {K : PySem.W.Frag} {mg : Str → Option Value} {base : Heap} {GT : List Addr} {cL PL CT CW f : Addr} {A : Around} {outer : List Env} {s : Shared} {H0 : Hp} {E : XK} {q : Str}
theorem seg0 (L : LawC P w K mg base GT cL PL CT CW) (hr : Room 218 (A.deeper (envOfC "law" (defScope sLaw) s.heap.objs.size f (.ref cL)))) (hrm : Rm 253 (A.deeper (envOfC "law" (defScope sLaw) s.heap.objs.size f (.ref cL)))) : ∃ t, PSs (lawX P w K mg base f cL A outer s H0 E) (defBody sLaw) t ∧
    ∀ (Q : VK) (H : Hp) (a : Addr) (ns : List Int), SqL K H a (ns.map V.int) → Tbs GT H → LamX.TabS H PL qLam → (∀ H', Q (.bl true) H') → t { nx := fun _ H' => Q .non H', rt := Q } (start nLaw [.ref a]) H := by
  have T := L.T
  obtain ⟨tR, hR, qR⟩ := seg5 (A := A) (outer := outer) (s := s) (H0 := H0) (E := E) L hr hrm
  refine ⟨_, pss_cons (ps_set (i := 1) scLaw.nd rfl (.inr rfl) (pe_lst (pa_cons (pv 0) (pa_cons pe_int (pa_cons pe_int (pa_cons pe_int pa_nil)))))) (pss_cons (ps_set (i := 2) scLaw.nd rfl (.inr rfl) (pe_cal L.mill (hr.mono (by omega)) rfl (pa_cons (pv 1) (pa_cons pe_int (pa_cons pe_int pa_nil))))) (pss_cons (ps_set (i := 3) scLaw.nd rfl (.inl rfl) (pe_callTy call_tuple_of (by rfl) T.tuple boot_tuple (pa_cons (pe_lc (own := [("_law_k", 12)]) rfl scLaw.nd (pi_range1 (by rfl) T.range (pa_cons (pe_cal L.taken (hr.mono (by omega)) rfl (pa_cons (pv 1) (pa_cons pe_int pa_nil))) pa_nil)) (blkOk_by (own := [("_law_k", 12)]) (N := nLaw) (sc := defScope sLaw) (by decide +kernel)) (fun _ _ _ _ _ => pg_name (i := 12) scLaw.nd rfl (.inl rfl)) (fun _ _ _ _ _ => pts_nil) (fun _ _ _ _ _ => pe_tup (pa_cons (pe_cal L.term (hr.mono (by omega)) rfl (pa_cons (pv 1) (pa_cons (pe_callB (call_len_seqK (K := K)) (by rfl) T.len PySem.boot_len (pa_cons (pe_ix (ix_tupK (K := K)) (pv 2) pe_int (fun _ _ => rfl)) pa_nil)) (pa_cons pe_int (pa_cons pe_int pa_nil))))) (pa_cons (pe_cal L.term (hr.mono (by omega)) rfl (pa_cons (pv 1) (pa_cons (pe_callB (call_len_seqK (K := K)) (by rfl) T.len PySem.boot_len (pa_cons (pe_ix (ix_tupK (K := K)) (pv 2) pe_int (fun _ _ => rfl)) pa_nil)) (pa_cons pe_int (pa_cons pe_int pa_nil))))) pa_nil)))) pa_nil))) (pss_cons (ps_set (i := 2) scLaw.nd rfl (.inr rfl) (pe_op op_catA (pe_slice sl_tup (pv 2) po_none (po_some pe_int)) (pe_tup (pa_cons (pe_slice sl_tupA (pe_op op_catA (pe_ix ix_tup (pv 2) pe_int (fun _ _ => rfl)) (pv 3)) po_none (po_some pe_int)) pa_nil)))) (pss_cons (ps_set (i := 4) scLaw.nd rfl (.inr rfl) (pe_slice sl_tupA (pe_cal L.pick (hr.mono (by omega)) rfl (pa_cons (pv 1) (pa_cons (pe_lst (pa_cons (pe_tup (pa_cons pe_str (pa_cons pe_str (pa_cons pe_str pa_nil)))) (pa_cons (pe_tup (pa_cons pe_str (pa_cons pe_str (pa_cons pe_str pa_nil)))) (pa_cons (pe_tup (pa_cons pe_str (pa_cons pe_str (pa_cons pe_str pa_nil)))) pa_nil)))) pa_nil))) po_none (po_some (pe_callB call_len_seq (by rfl) T.len PySem.boot_len (pa_cons (pe_ix ix_tup (pv 2) pe_int (fun _ _ => rfl)) pa_nil))))) hR)))), ?_⟩
  intro Q H a ns hs tt tb hq
  have s24 : ∀ {n : Nat}, n ≤ 24 → n ≤ sizeLine := fun h => Nat.le_trans h (by show 24 ≤ sizeLine; decide)
  refine ⟨_, rfl, s24 (by show 4 ≤ 24; decide), fun r hr0 => ?_⟩
  have x1 : Ext [] [] H (upd H r (.lst [.ref a, .int 0, .int 22060, .int 0])) := .new hr0
  have row1 : RowAt K (upd H r (.lst [.ref a, .int 0, .int 22060, .int 0])) r (a, ns) := by
    refine ⟨0, 22060, 0, upd_same, ?_, ?_, by decide, by decide, by decide⟩
    · rcases hs with hs | hs
      · rcases hs with e | ⟨o, e⟩
        · exact .inl (.inl (x1.lst e))
        · exact .inl (.inr ⟨o, x1.keep _ _ e (fun _ z => by cases z) (by simp)⟩)
      · exact .inr hs
    · rcases hs with hs | hs
      · refine .inl fun z => ?_
        have z : a = r := z
        rcases hs with e | ⟨o, e⟩ <;> (rw [z, hr0] at e; cases e)
      · exact .inr fun H' => .inr hs
  have tt1 := tt.ext (x1.grow (GT' := GT) (by simp))
  have tb1 := tabs_go tb x1 (by simp) (by simp)
  dsimp only [gName, tSeq, tAsg]
  generalize upd H r (.lst [.ref a, .int 0, .int 22060, .int 0]) = H1 at x1 row1 tt1 tb1 ⊢
  refine ⟨_, rfl, r, (a, ns), rfl, row1, fun m0 v0 H2 ok0 d0 x2 row2 => ?_⟩
  have nR : ∀ {Hx : Hp}, RowAt K Hx r (a, ns) → ∀ b ∈ [r], ∃ xs, Hx b = some (.lst xs) := fun {Hx} row b hb => by
    obtain ⟨_, _, _, e, _⟩ := row.ex
    rw [List.mem_singleton.mp hb]
    exact ⟨_, e⟩
  have tt2 := tt1.ext (x2.grow (GT' := GT) (by simp))
  have tb2 := tabs_go tb1 x2 (by simp) (nR row1)
  obtain ⟨pm, va, vb, vc, vd, rfl, hpm, da, db, dc, dd⟩ := DAt.tup4 d0
  obtain ⟨pn, xn, rfl, hpn, an⟩ := db.all
  obtain ⟨pe, xe, rfl, hpe, ae⟩ := dd.all
  have xnl : xn.length = m0.names.length := by rw [an.1, List.length_map]
  have xel : xe.length = m0.eqs.length := by rw [ae.1, List.length_map]
  have nn1 := ok0.names.pos
  have nn3 := ok0.names.few
  -- the deep pairs
  refine ⟨_, rfl, r, 3, (a, ns), rfl, row2, by decide, by decide, fun jn H3 hjn x3 row3 => ?_⟩
  have hpm3 := x3.tups _ _ hpm
  have hpn3 := x3.tups _ _ hpn
  refine ⟨jn, rfl, by omega, by omega, fun D0 hD => ?_⟩
  have hrD : D0 ≠ r := row3.ne hD
  refine lc_range (n := jn) (fun i H' => Acc [] [r] H3 D0 (fun i ds => ∃ es : List (Tm × Tm), ds = es.map (fun e => D.tup [e.1.d, e.2.d]) ∧ es.length = i ∧ ∀ e ∈ es, (e.1.ok m0.names.length ∧ e.2.ok m0.names.length) ∧ e.1.deep ≤ 5 ∧ e.2.deep ≤ 5) i H' ∧ RowAt K H' r (a, ns)) ⟨acc0 hD ⟨[], rfl, rfl, by simp⟩, row3.ext (GT := []) (.new hD)⟩ (fun i H4 hi ac => ?_) (fun H4 ac => ?_)
  · obtain ⟨ac, row4⟩ := ac
    have x4 := ac.ext
    refine ⟨rfl, ?_⟩
    refine ⟨_, rfl, _, rfl, pm, _, _, _, rfl, rfl, SqT.of (x4.tups _ _ hpm3), atI_nat (j := 1) rfl, pn, _, rfl, .inr (SqT.of (x4.tups _ _ hpn3)), r, m0.names.length, 5, (a, ns), by rw [xnl]; rfl, row4, nn1, nn3, by decide, by decide, fun t1 v1 H5 o1 d1 D1 x5 row5 => ?_⟩
    refine ⟨_, rfl, _, rfl, pm, _, _, _, rfl, rfl, SqT.of ((x4.trans x5).tups _ _ hpm3), atI_nat (j := 1) rfl, pn, _, rfl, .inr (SqT.of ((x4.trans x5).tups _ _ hpn3)), r, m0.names.length, 3, (a, ns), by rw [xnl]; rfl, row5, nn1, nn3, by decide, by decide, fun t2 v2 H6 o2 d2 D2 x6 row6 => ?_⟩
    refine ⟨s24 (by show 2 ≤ 24; decide), fun pt hpt => ?_⟩
    have xt : Ext [] [] H6 (upd H6 pt (.tup [v1, v2])) := .new hpt
    have Dt : DAt (upd H6 pt (.tup [v1, v2])) (.ref pt) (.tup [t1.d, t2.d]) := .mk2 upd_same ((D1.ext x6).ext xt) (D2.ext xt)
    have row7 := row6.ext (GT := []) xt
    generalize upd H6 pt (.tup [v1, v2]) = H7 at xt Dt row7 ⊢
    obtain ⟨acc, ea, la, ac'⟩ := ac.step hD (by simp [hrD]) (by omega) ((x5.trans x6).trans xt.wide) Dt (fun ds ⟨ts, e1, e2, e3⟩ => ⟨ts ++ [(t1, t2)], by rw [e1, List.map_append]; rfl, by rw [List.length_append, e2]; rfl, fun t ht => by
      rcases List.mem_append.mp ht with z | z
      · exact e3 t z
      · rw [List.mem_singleton.mp z]
        exact ⟨⟨o1, o2⟩, d1, by show t2.deep ≤ 5; omega⟩⟩)
    exact ⟨acc, ea, la, ac', RowAt.put row3 hD row7⟩
  obtain ⟨⟨⟨ds, ⟨ys, ey, ay⟩, ⟨es, rfl, esl, hes⟩, _⟩, x4⟩, row4⟩ := ac
  have ysl : ys.length = es.length := by rw [ay.1, List.length_map]
  refine ⟨D0, ys, rfl, .inl ⟨SqL.of ey, fun pd hpd => ?_⟩⟩
  have x5 : Ext [] [] H4 (upd H4 pd (.tup ys)) := .new hpd
  have g5 : (upd H4 pd (.tup ys)) pd = some (.tup ys) := upd_same
  have ay5 := ay.ext x5
  have row5 := row4.ext (GT := []) x5
  have x25 : Ext [] [r] H2 (upd H4 pd (.tup ys)) := (x3.trans x4).trans x5.wide
  generalize upd H4 pd (.tup ys) = H5 at x5 g5 ay5 row5 x25 ⊢
  have tt5 := tt2.ext (x25.grow (GT' := GT) (by simp))
  have tb5 := tabs_go tb2 x25 (by simp) (nR row2)
  have hpm5 := x25.tups _ _ hpm
  have hpe5 := x25.tups _ _ hpe
  have hpn5 := x25.tups _ _ hpn
  have ae5 := ae.ext x25
  have n6 := ok0.few
  refine ⟨_, rfl, _, rfl, pm, _, rfl, SqT.of hpm5, (fun z => absurd z.2 (by show ¬ HT.sIx 4 4 (some 3) = 4; decide)), fun q1 hq1 => ?_⟩
  have y6 : Ext [] [] H5 (upd H5 q1 (.tup [va, .ref pn, vc])) := .new hq1
  have g6 : (upd H5 q1 (.tup [va, .ref pn, vc])) q1 = some (.tup [va, .ref pn, vc]) := upd_same
  show tTup _ _ (upd H5 q1 (.tup [va, .ref pn, vc])) _
  generalize upd H5 q1 (.tup [va, .ref pn, vc]) = H6 at y6 g6 ⊢
  refine ⟨_, rfl, pm, _, _, _, rfl, rfl, SqT.of (y6.tups _ _ hpm5), atI_nat (j := 3) rfl, _, rfl, ?_⟩
  refine rd_catA (SqT.of (y6.tups _ _ hpe5)) (SqT.of (y6.tups _ _ g5)) (y6.tups _ _ hpe5) (y6.tups _ _ g5) (by omega) fun p7 H7 x7 e7 => ?_
  refine ⟨_, rfl, ?_⟩
  refine rd_slA (k := 6) e7 fun p8 H8 x8 e8 => ?_
  refine ⟨s24 (by show 1 ≤ 24; decide), fun p9 hp9 => ?_⟩
  have x9 : Ext [] [] H8 (upd H8 p9 (.tup [.ref p8])) := .new hp9
  have e9 : (upd H8 p9 (.tup [.ref p8])) p9 = some (.tup [.ref p8]) := upd_same
  have x69 := (x7.trans x8).trans x9
  have g9 := x69.tups _ _ g6
  refine rd_catA (SqT.of g9) (SqT.of e9) g9 e9 (by show 3 + 1 ≤ 1000; decide) fun pM H10 x10 eM => ?_
  have x510 := (y6.trans x69).trans x10
  have x210 : Ext [] [r] H2 H10 := x25.trans x510.wide
  have row10 := row5.ext (GT := []) x510
  have aes : AllD H10 ((xe ++ ys).take 6) (((m0.eqs ++ es).take 6).map fun e => D.tup [e.1.d, e.2.d]) := by
    rw [List.map_take, List.map_append]
    exact ((ae5.ext x510).app (ay5.ext x510)).take
  obtain ⟨m, hm⟩ : ∃ m : Mill, m = ⟨m0.letters, m0.names, m0.told, (m0.eqs ++ es).take 6⟩ := ⟨_, rfl⟩
  have dM : DAt H10 (.ref pM) m.d := by
    rw [hm]
    exact .mk4 eM (da.ext x210) (db.ext x210) (dc.ext x210) (.ofAll ((x9.trans x10).tups _ _ e8) aes)
  have okM : m.ok := by
    rw [hm]
    have me : ∀ e ∈ (m0.eqs ++ es).take 6, (e.1.ok m0.names.length ∧ e.2.ok m0.names.length) ∧ e.1.deep ≤ 5 ∧ e.2.deep ≤ 5 := fun e he => by
      rcases List.mem_append.mp (List.mem_of_mem_take he) with z | z
      · exact ⟨ok0.eqs e z, ok0.deep e z⟩
      · exact hes e z
    exact ⟨ok0.letters, ok0.names, ok0.told, fun e he => (me e he).1, by show ((m0.eqs ++ es).take 6).length ≤ 6; rw [List.length_take]; omega, fun e he => (me e he).2⟩
  have mn : m.names.length = m0.names.length := by rw [hm]
  have tt10 := tt5.ext (x510.grow (GT' := GT) (by simp))
  have tb10 := tabs_go tb5 x510 (by simp) (by simp)
  have hpn10 := x210.tups _ _ hpn
  show tSl _ _ _ _ _ _ _
  refine ⟨_, rfl, s24 (by show 3 ≤ 24; decide), fun t1 ht1 => ⟨s24 (by show 3 ≤ 24; decide), fun t2 ht2 => ⟨s24 (by show 3 ≤ 24; decide), fun t3 ht3 => ?_⟩⟩⟩
  have z1 : Ext [] [] H10 (upd H10 t1 (.tup (["a", "b", "c"].map (V.str ∘ Str.ofString)))) := .new ht1
  obtain ⟨w1, hw1⟩ : ∃ w1 : List Str, w1 = [("a" : Str), "b", "c"] := ⟨_, rfl⟩
  obtain ⟨w2, hw2⟩ : ∃ w2 : List Str, w2 = [("x1" : Str), "inn", "picked"] := ⟨_, rfl⟩
  obtain ⟨w3, hw3⟩ : ∃ w3 : List Str, w3 = [("rest2" : Str), "same", "z"] := ⟨_, rfl⟩
  have eg : upd (upd (upd H10 t1 (.tup [V.str "a", .str "b", .str "c"])) t2 (.tup [V.str "x1", .str "inn", .str "picked"])) t3 (.tup [V.str "rest2", .str "same", .str "z"]) = upd (upd (upd H10 t1 (.tup (w1.map V.str))) t2 (.tup (w2.map V.str))) t3 (.tup (w3.map V.str)) := by rw [hw1, hw2, hw3]; rfl
  rw [eg]
  have ht2 : upd H10 t1 (.tup (w1.map V.str)) t2 = none := by rw [hw1]; exact ht2
  have ht3 : upd (upd H10 t1 (.tup (w1.map V.str))) t2 (.tup (w2.map V.str)) t3 = none := by rw [hw1, hw2]; exact ht3
  have v1 : Ext [] [] H10 (upd H10 t1 (.tup (w1.map V.str))) := .new ht1
  have v2 : Ext [] [] (upd H10 t1 (.tup (w1.map V.str))) (upd (upd H10 t1 (.tup (w1.map V.str))) t2 (.tup (w2.map V.str))) := .new ht2
  have v3 : Ext [] [] (upd (upd H10 t1 (.tup (w1.map V.str))) t2 (.tup (w2.map V.str))) (upd (upd (upd H10 t1 (.tup (w1.map V.str))) t2 (.tup (w2.map V.str))) t3 (.tup (w3.map V.str))) := .new ht3
  have f1 := (v2.trans v3).tups _ _ (show upd H10 t1 (.tup (w1.map V.str)) t1 = some (.tup (w1.map V.str)) from upd_same)
  have f2 := v3.tups _ _ (show upd (upd H10 t1 (.tup (w1.map V.str))) t2 (.tup (w2.map V.str)) t2 = some (.tup (w2.map V.str)) from upd_same)
  have f3 : (upd (upd (upd H10 t1 (.tup (w1.map V.str))) t2 (.tup (w2.map V.str))) t3 (.tup (w3.map V.str))) t3 = some (.tup (w3.map V.str)) := upd_same
  have v13 := (v1.trans v2).trans v3
  generalize upd (upd (upd H10 t1 (.tup (w1.map V.str))) t2 (.tup (w2.map V.str))) t3 (.tup (w3.map V.str)) = H11 at v13 f1 f2 f3 ⊢
  clear v1 v2 v3 eg
  have row11 := row10.ext (GT := []) v13
  refine ⟨s24 (by show 3 ≤ 24; decide), fun q2 hq2 => ?_⟩
  have y12 : Ext [] [] H11 (upd H11 q2 (.lst [.ref t1, .ref t2, .ref t3])) := .new hq2
  refine ⟨r, q2, _, (a, ns), rfl, row11.ext (GT := []) y12, row11.ne hq2, upd_same, (by show 1 ≤ 3; decide), (by show 3 < 1000; decide), fun jj wv H12 hwv x12 row12 => ?_⟩
  have x1112 : Ext [] [r] H11 H12 := y12.wide.trans x12
  obtain ⟨pw, wl, rfl, hpw, hWl⟩ : ∃ (pw : Addr) (wl : List Str), wv = .ref pw ∧ H12 pw = some (.tup (wl.map V.str)) ∧ WsOk m (wl.take m.names.length) := by
    match jj, hwv with
    | 0, h =>
      cases h
      exact ⟨t1, w1, rfl, x1112.tups _ _ f1, ws_take (by rw [hw1]; rfl) rfl (by omega) (by rw [hw1]; decide +kernel) (by rw [hw1]; decide +kernel) (by rw [hw1]; intro z hz; simp only [List.mem_cons, List.not_mem_nil, or_false] at hz; rcases hz with rfl | rfl | rfl <;> exact hdT_d)⟩
    | 1, h =>
      cases h
      exact ⟨t2, w2, rfl, x1112.tups _ _ f2, ws_take (by rw [hw2]; rfl) rfl (by omega) (by rw [hw2]; decide +kernel) (by rw [hw2]; decide +kernel) (by rw [hw2]; intro z hz; simp only [List.mem_cons, List.not_mem_nil, or_false] at hz; rcases hz with rfl | rfl | rfl <;> exact hdT_d)⟩
    | 2, h =>
      cases h
      exact ⟨t3, w3, rfl, x1112.tups _ _ f3, ws_take (by rw [hw3]; rfl) rfl (by omega) (by rw [hw3]; decide +kernel) (by rw [hw3]; decide +kernel) (by rw [hw3]; intro z hz; simp only [List.mem_cons, List.not_mem_nil, or_false] at hz; rcases hz with rfl | rfl | rfl <;> exact hdT_d)⟩
    | _ + 3, h => simp at h
  have x1012 : Ext [] [r] H10 H12 := v13.wide.trans x1112
  refine ⟨_, rfl, pM, _, _, _, rfl, rfl, SqT.of (x1012.tups _ _ eM), atI_nat (j := 1) rfl, pn, _, rfl, .inr (SqT.of (x1012.tups _ _ hpn10)), _, rfl, ?_⟩
  refine rd_slA (k := xn.length) hpw fun pW H13 x13 e13 => ?_
  have ew : (wl.map V.str).take xn.length = (wl.take m.names.length).map V.str := by rw [List.map_take, mn, xnl]
  rw [ew] at e13
  have x1013 : Ext [] [r] H10 H13 := x1012.trans x13.wide
  exact qR Q _ H13 r (a, ns) _ m pW (wl.take m.names.length) _ _ rfl ⟨row12.ext (GT := []) x13, dM.ext x1013, okM, hWl, e13, tt10.ext (x1013.grow (GT' := GT) (by simp)), tabs_go tb10 x1013 (by simp) (nR row10)⟩ hq
theorem room_rm {A : Around} (h : Room 218 A) : Rm 253 A := ⟨h.hd, by have := h.dp; omega, by have := h.un; omega⟩
/-- THE LAW -/
theorem ok_law (L : LawC P w K mg base GT cL PL CT CW) {fd : FuncData} (F : FunC K "law" "law" sLaw f fd cL) : FnOk P w K mg base CX0 219 f fd ["_law_script"] (spLaw K GT PL qLam) := by
  refine F.ok scLaw (fun vs H Q E h => ?_) (fun A outer s H vs Q E hr h => ?_)
  · obtain ⟨a, ns, rfl, _⟩ := h
    rfl
  obtain ⟨a, ns, rfl, hs, tt, tb, hq⟩ := h
  obtain ⟨t, ht, hq'⟩ := seg0 (A := A) (outer := outer) (s := s) (H0 := H) (E := E) L hr (room_rm hr)
  exact ⟨t, ht, hq' Q H a ns hs tt tb hq⟩
end
end ML
set_option maxHeartbeats 0
namespace ML
open PySem PySem.Spec PyProof.Rows L2
/-! ### the head: what is told, the run -/
def dBadtextInit : He.DefD := ⟨("BadText", some "__init__"), "__init__", "BadText.__init__", defArgs sBadtextInit, defBody sBadtextInit, defScope sBadtextInit, [], []⟩
def dIsNumber : He.DefD := ⟨("is_number", none), "is_number", "is_number", defArgs sIsNumber, defBody sIsNumber, defScope sIsNumber, [], []⟩
def dIsTerm : He.DefD := ⟨("is_term", none), "is_term", "is_term", defArgs sIsTerm, defBody sIsTerm, defScope sIsTerm, [], []⟩
def dAreNames : He.DefD := ⟨("are_names", none), "are_names", "are_names", defArgs sAreNames, defBody sAreNames, defScope sAreNames, [], []⟩
def dAreTold : He.DefD := ⟨("are_told", none), "are_told", "are_told", defArgs sAreTold, defBody sAreTold, defScope sAreTold, [], []⟩
def dAreEquations : He.DefD := ⟨("are_equations", none), "are_equations", "are_equations", defArgs sAreEquations, defBody sAreEquations, defScope sAreEquations, [], []⟩
def dNeedMill : He.DefD := ⟨("need_mill", none), "need_mill", "need_mill", defArgs sNeedMill, defBody sNeedMill, defScope sNeedMill, [], []⟩
def dIsWord : He.DefD := ⟨("is_word", none), "is_word", "is_word", defArgs sIsWord, defBody sIsWord, defScope sIsWord, [], []⟩
def dNeedWords : He.DefD := ⟨("need_words", none), "need_words", "need_words", defArgs sNeedWords, defBody sNeedWords, defScope sNeedWords, [], []⟩
def dOffsetText : He.DefD := ⟨("offset_text", none), "offset_text", "offset_text", defArgs sOffsetText, defBody sOffsetText, defScope sOffsetText, [], []⟩
def dTermText : He.DefD := ⟨("term_text", none), "term_text", "term_text", defArgs sTermText, defBody sTermText, defScope sTermText, [], []⟩
def dWritten : He.DefD := ⟨("written", none), "written", "written", defArgs sWritten, defBody sWritten, defScope sWritten, [], []⟩
def dSignsOf : He.DefD := ⟨("signs_of", none), "signs_of", "signs_of", defArgs sSignsOf, defBody sSignsOf, defScope sSignsOf, [], []⟩
def dReaderInit : He.DefD := ⟨("Reader", some "__init__"), "__init__", "Reader.__init__", defArgs sReaderInit, defBody sReaderInit, defScope sReaderInit, [], []⟩
def dReaderNextSign : He.DefD := ⟨("Reader", some "next_sign"), "next_sign", "Reader.next_sign", defArgs sReaderNextSign, defBody sReaderNextSign, defScope sReaderNextSign, [], []⟩
def dReaderTake : He.DefD := ⟨("Reader", some "take"), "take", "Reader.take", defArgs sReaderTake, defBody sReaderTake, defScope sReaderTake, [], []⟩
def dReaderNeed : He.DefD := ⟨("Reader", some "need"), "need", "Reader.need", defArgs sReaderNeed, defBody sReaderNeed, defScope sReaderNeed, [], []⟩
def dReaderNumber : He.DefD := ⟨("Reader", some "number"), "number", "Reader.number", defArgs sReaderNumber, defBody sReaderNumber, defScope sReaderNumber, [], []⟩
def dReaderOffset : He.DefD := ⟨("Reader", some "offset"), "offset", "Reader.offset", defArgs sReaderOffset, defBody sReaderOffset, defScope sReaderOffset, [], []⟩
def dReaderCompare : He.DefD := ⟨("Reader", some "compare"), "compare", "Reader.compare", defArgs sReaderCompare, defBody sReaderCompare, defScope sReaderCompare, [], []⟩
def dReaderAdded : He.DefD := ⟨("Reader", some "added"), "added", "Reader.added", defArgs sReaderAdded, defBody sReaderAdded, defScope sReaderAdded, [], []⟩
def dReaderProduct : He.DefD := ⟨("Reader", some "product"), "product", "Reader.product", defArgs sReaderProduct, defBody sReaderProduct, defScope sReaderProduct, [], []⟩
def dReaderAlone : He.DefD := ⟨("Reader", some "alone"), "alone", "Reader.alone", defArgs sReaderAlone, defBody sReaderAlone, defScope sReaderAlone, [], []⟩
def dReaderBrackets : He.DefD := ⟨("Reader", some "brackets"), "brackets", "Reader.brackets", defArgs sReaderBrackets, defBody sReaderBrackets, defScope sReaderBrackets, [], []⟩
def dEquationOf : He.DefD := ⟨("equation_of", none), "equation_of", "equation_of", defArgs sEquationOf, defBody sEquationOf, defScope sEquationOf, [], []⟩
def dDigit : He.DefD := ⟨("digit", none), "digit", "digit", defArgs sDigit, defBody sDigit, defScope sDigit, [], []⟩
def dNameOf : He.DefD := ⟨("name_of", none), "name_of", "name_of", defArgs sNameOf, defBody sNameOf, defScope sNameOf, [], []⟩
def dToldLine : He.DefD := ⟨("told_line", none), "told_line", "told_line", defArgs sToldLine, defBody sToldLine, defScope sToldLine, [], []⟩
def dReadMill : He.DefD := ⟨("read_mill", none), "read_mill", "read_mill", defArgs sReadMill, defBody sReadMill, defScope sReadMill, [], []⟩
def dReadEquations : He.DefD := ⟨("read_equations", none), "read_equations", "read_equations", defArgs sReadEquations, defBody sReadEquations, defScope sReadEquations, [], []⟩
def dLTaken : He.DefD := ⟨("_law_taken", none), "_law_taken", "_law_taken", defArgs sLTaken, defBody sLTaken, defScope sLTaken, [], []⟩
def dLPick : He.DefD := ⟨("_law_pick", none), "_law_pick", "_law_pick", defArgs sLPick, defBody sLPick, defScope sLPick, [], []⟩
def dLAlike : He.DefD := ⟨("_law_alike", none), "_law_alike", "_law_alike", defArgs sLAlike, defBody sLAlike, defScope sLAlike, [], []⟩
def dLTerm : He.DefD := ⟨("_law_term", none), "_law_term", "_law_term", defArgs sLTerm, defBody sLTerm, defScope sLTerm, [], []⟩
def dLMill : He.DefD := ⟨("_law_mill", none), "_law_mill", "_law_mill", defArgs sLMill, defBody sLMill, defScope sLMill, [], []⟩
def dLOffsetText : He.DefD := ⟨("_law_offset_text", none), "_law_offset_text", "_law_offset_text", defArgs sLOffsetText, defBody sLOffsetText, defScope sLOffsetText, [], []⟩
def dLText : He.DefD := ⟨("_law_text", none), "_law_text", "_law_text", defArgs sLText, defBody sLText, defScope sLText, [], []⟩
def dLLoose : He.DefD := ⟨("_law_loose", none), "_law_loose", "_law_loose", defArgs sLLoose, defBody sLLoose, defScope sLLoose, [], []⟩
def dLSigns : He.DefD := ⟨("_law_signs", none), "_law_signs", "_law_signs", defArgs sLSigns, defBody sLSigns, defScope sLSigns, [], []⟩
def dLSide : He.DefD := ⟨("_law_side", none), "_law_side", "_law_side", defArgs sLSide, defBody sLSide, defScope sLSide, [], []⟩
def dLNumber : He.DefD := ⟨("_law_number", none), "_law_number", "_law_number", defArgs sLNumber, defBody sLNumber, defScope sLNumber, [], []⟩
def dLOffset : He.DefD := ⟨("_law_offset", none), "_law_offset", "_law_offset", defArgs sLOffset, defBody sLOffset, defScope sLOffset, [], []⟩
def dLSingle : He.DefD := ⟨("_law_single", none), "_law_single", "_law_single", defArgs sLSingle, defBody sLSingle, defScope sLSingle, [], []⟩
def dLCall : He.DefD := ⟨("_law_call", none), "_law_call", "_law_call", defArgs sLCall, defBody sLCall, defScope sLCall, [], []⟩
def dLDeep : He.DefD := ⟨("_law_deep", none), "_law_deep", "_law_deep", defArgs sLDeep, defBody sLDeep, defScope sLDeep, [], []⟩
def dLEquation : He.DefD := ⟨("_law_equation", none), "_law_equation", "_law_equation", defArgs sLEquation, defBody sLEquation, defScope sLEquation, [], []⟩
def dLIsWord : He.DefD := ⟨("_law_is_word", none), "_law_is_word", "_law_is_word", defArgs sLIsWord, defBody sLIsWord, defScope sLIsWord, [], []⟩
def dLRead : He.DefD := ⟨("_law_read", none), "_law_read", "_law_read", defArgs sLRead, defBody sLRead, defScope sLRead, [], []⟩
def dLToldBy : He.DefD := ⟨("_law_told_by", none), "_law_told_by", "_law_told_by", defArgs sLToldBy, defBody sLToldBy, defScope sLToldBy, [], []⟩
def dLaw : He.DefD := ⟨("law", none), "law", "law", defArgs sLaw, defBody sLaw, defScope sLaw, [], []⟩
def fn0 : List He.DefD := [dBadtextInit, dIsNumber, dIsTerm, dAreNames, dAreTold, dAreEquations, dNeedMill, dIsWord, dNeedWords, dOffsetText, dTermText, dWritten, dSignsOf, dReaderInit, dReaderNextSign, dReaderTake, dReaderNeed, dReaderNumber, dReaderOffset, dReaderCompare, dReaderAdded, dReaderProduct, dReaderAlone, dReaderBrackets, dEquationOf, dDigit, dNameOf, dToldLine, dReadMill, dReadEquations]
def fn1 : List He.DefD := [dLTaken, dLPick, dLAlike, dLTerm, dLMill, dLOffsetText, dLText, dLLoose, dLSigns, dLSide, dLNumber, dLOffset, dLSingle, dLCall, dLDeep, dLEquation, dLIsWord, dLRead, dLToldBy, dLaw]
def fn : List He.DefD := fn0 ++ fn1
def faA0 : List He.Fa := [.glo "is_number", .glo "is_term", .glo "are_names", .glo "are_told", .glo "are_equations", .glo "need_mill", .glo "is_word", .glo "need_words", .glo "offset_text", .glo "term_text", .glo "written", .glo "signs_of", .glo "equation_of", .glo "digit", .glo "name_of", .glo "told_line", .glo "read_mill", .glo "read_equations", .glo "_law_taken", .glo "_law_pick", .glo "_law_alike", .glo "_law_term", .glo "_law_mill", .glo "_law_offset_text", .glo "_law_text", .glo "_law_loose", .glo "_law_signs", .glo "_law_side", .glo "_law_number", .glo "_law_offset"]
def faA1 : List He.Fa := [.glo "_law_single", .glo "_law_call", .glo "_law_deep", .glo "_law_equation", .glo "_law_is_word", .glo "_law_read", .glo "_law_told_by", .glo "law", .glo "BadText", .glo "BadWords", .glo "Reader", .glo "KEPT", .glo "SIGNS", .glo "PAIRS"]
def faB0 : List He.Fa := [.free "len", .free "isinstance", .free "int", .free "bool", .free "str", .free "tuple", .free "list", .free "all", .free "zip", .free "set", .free "range", .free "max", .free "sorted", .free "abs", .int "MOST_LETTERS" 3, .int "MOST_NAMES" 3, .int "LEAST_VALUES" 2, .int "MOST_VALUES" 3, .int "MOST_EQUATIONS" 6, .int "MOST_REACH" 2, .int "MOST_NUMBER" 9, .int "MOST_DEPTH" 5, .int "MOST_SIGNS" 200]
def faC0 : List He.Fa := [.str "SMALL" "abcdefghijklmnopqrstuvwxyz", .cls "Reader", .noat "Reader" "signs", .noat "Reader" "words", .noat "Reader" "place", .noat "Reader" "broken", .meth "Reader" "next_sign", .meth "Reader" "take", .meth "Reader" "need", .meth "Reader" "number", .meth "Reader" "offset", .meth "Reader" "compare", .meth "Reader" "added", .meth "Reader" "product", .meth "Reader" "alone", .meth "Reader" "brackets", .mkr "Reader", .exc "BadWords", .exm "BadText" "BadText" true, .exm "BadWords" "BadText" false, .exm "BadWords" "BadWords" true, .noat "BadText" "line"]
def fa : List He.Fa := faA0 ++ faA1 ++ faB0 ++ faC0
def nms0 : List Str := ["MillError", "BadMill", "BadText", "BadWords", "MOST_LETTERS", "MOST_NAMES", "LEAST_VALUES", "MOST_VALUES", "MOST_EQUATIONS", "MOST_REACH", "MOST_NUMBER", "MOST_DEPTH", "PAIRS", "is_number", "is_term", "are_names", "are_told", "are_equations", "need_mill", "SMALL", "KEPT", "SIGNS", "MOST_SIGNS", "is_word", "need_words", "offset_text", "term_text", "written", "signs_of", "Reader"]
def nms1 : List Str := ["equation_of", "digit", "name_of", "told_line", "read_mill", "read_equations", "_law_taken", "_law_pick", "_law_alike", "_law_term", "_law_mill", "_law_offsets", "_law_reach", "_law_before", "_law_value", "_law_all", "_law_columns", "_law_leads", "_law_any_live", "_law_graph", "_law_told", "_law_offset_text", "_law_text", "_law_loose", "_law_signs", "_law_side", "_law_number", "_law_offset", "_law_single", "_law_call"]
def nms2 : List Str := ["_law_deep", "_law_equation", "_law_is_word", "_law_read", "_law_told_by"]
def nms : List Str := nms0 ++ nms1 ++ nms2
def tfG : List He.Defn := [("is_word", none), ("need_words", none), ("told_line", none), ("is_term", none), ("are_told", none), ("are_equations", none)]
def tfs : List He.Defn := ("law", none) :: tfG
def oexB (K : PySem.W.Frag) (C : Addr) : Bool := match K.lookup C with
  | some ⟨.type "type", _, .cls cd, sl⟩ => (match cd.mro, sl.toList with
    | .ref C' :: bm, [_, _, _, _, some (.builtin n), _] => decide (C' = C) && (decide (n = "ValueError.__new__") && (!cd.hasDel && (cd.hasDict && PySem.HandSPX.refsVE bm)))
    | _, _ => false)
  | _ => false
theorem oexB_ok {K : PySem.W.Frag} {C : Addr} (q : oexB K C = true) : ∃ nm q N bs bm sn sub ab col dd k0 k1 k2 k3 k5, K.lookup C = some (excClassObj nm q C N bs bm true sn sub ab col dd k0 k1 k2 k3 k5 "ValueError.__new__") ∧ PySem.HandSPX.refsVE bm = true := by
  unfold oexB at q
  split at q
  · rename_i dd cd sl ho
    split at q
    · rename_i C' bm k0 k1 k2 k3 n k5 hm hs
      simp only [Bool.and_eq_true, decide_eq_true_eq, Bool.not_eq_true'] at q
      obtain ⟨rfl, rfl, hdel, hdc, ht⟩ := q
      obtain ⟨nm, bs, mro, ns, qn, hd, sn, sub, ab, col, del⟩ := cd
      dsimp only at hm hdel hdc
      subst hm hdel hdc
      have hsl : sl = #[k0, k1, k2, k3, some (.builtin "ValueError.__new__"), k5] := by
        obtain ⟨l⟩ := sl
        simp only at hs
        rw [hs]
      subst hsl
      exact ⟨nm, qn, ns, bs, bm, sn, sub, ab, col, dd, k0, k1, k2, k3, k5, ho, ht⟩
    · cases q
  · cases q
def exTup (K : PySem.W.Frag) : Bool := He.tupB K "KEPT" [.str "in", .str "pick", .str "rest"] && (He.tupB K "SIGNS" [.str "==", .str "<", .str "+", .str "*", .str "(", .str ")", .str ",", .str "@+", .str "@-", .str "="] && He.tupB K "PAIRS" [.str "plus", .str "times", .str "same", .str "less"])
def exBt (K : PySem.W.Frag) : Bool := oexB K (He.ga K "BadText") && (He.eqO (PySem.W.findIn K (.ref (He.ga K "BadText")) "__setattr__") (some (some (.builtin "object.__setattr__"))) && (decide (PySem.W.subIn K (.ref (He.ga K "BadText")) (.type "BaseException") = some true) && (decide (PySem.W.typeIn K (.ref (He.ga K "BadText")) = some (.type "type")) && (PySem.W.keepIn K (.ref (He.ga K "BadText")) &&
  (He.eqO (PySem.W.findIn K (.ref (He.ga K "BadText")) "__init__") (some (some (.ref (He.ma K (He.ga K "BadText") "__init__")))) && (decide (PySem.W.typeIn K (.ref (He.ma K (He.ga K "BadText") "__init__")) = some (.type "function")) && xfB K (He.ga K "BadText")))))))
def exNin (K : PySem.W.Frag) : Bool := tfG.all fun p => !((He.cT K p).2 == (He.cT K ("law", none)).2)
def ex (K : PySem.W.Frag) : Bool := exTup K && (exBt K && exNin K)
abbrev R : PySem.W.OpenRow := PySem.W.OpenLaw.row PySem.Challenge.rw_merelylate_k60_whole_texts
abbrev hk : PySem.W.Hook := He.hookX 5 fa fn [] tfs ex
def ob (s : PySem.W.SharedT) : He.AlX := He.obsX 5 fa fn [] tfs ex (HandSHeadRun.getT s)
theorem ob_eq (s : PySem.W.SharedT) : ob s = hk.obs s.abs := He.obsX_eq (HandSHeadRun.getT_eq s)
theorem run (w : World) : HandSHeadRun.RunEq R (PySem.W.view R.prog [69]) hk ob 4000 nms w := by
  intro os
  kernel_rfl
end ML
set_option maxHeartbeats 4000000
namespace ML
open PySem PySem.Spec PyProof.Rows L2
/-! ### the head's facts -/
def GTof (K : PySem.W.Frag) : List Addr := tfG.map fun p => (He.cT K p).2
theorem ofD {K : PySem.W.Frag} {d : He.DefD} {st : Stmt} (c : He.SaysD fa fn K) (i : Nat) (h : fn[i]? = some d) (e : d = ⟨d.at_, d.name, d.qual, defArgs st, defBody st, defScope st, [], []⟩) : ∃ fd, FunC K d.name d.qual st (He.fAd K d.at_) fd (He.codeOf K d.at_) := by
  obtain ⟨fd, F⟩ := c.def_ i h
  obtain ⟨at_, name, qual, ps, bd, sc, dfl, kwd⟩ := d
  injection e with _ _ _ e1 e2 e3 e4 e5
  subst e1 e2 e3 e4 e5
  obtain ⟨oc, od, dV, kV, doc, pm, an, cdv, ct, osl, e, lk, hcd, hd, hk⟩ := F.ex
  obtain ⟨cc, rfl⟩ := He.codeIn_ref hcd
  have ed : dV = .none := by
    rcases hd with ⟨_, q⟩ | ⟨q, _⟩
    · exact q
    · exact absurd rfl q
  subst ed
  have ec : He.codeOf K at_ = cc := He.codeOf_eq lk (by rw [e] <;> rfl)
  refine ⟨fd, ⟨⟨oc, od, kV, doc, pm, an, ct, osl, ?_, lk, ?_⟩, F.kp⟩⟩
  · show fd = PySem.W.fnOf name qual (defArgs st) (defBody st) (defScope st) .none kV doc pm an (.ref (He.codeOf K at_)) ct
    rw [ec]
    exact e
  · show PySem.W.codeIn K (.ref (He.codeOf K at_)) qual = true
    rw [ec]
    exact hcd
section
variable {w : World} {K : PySem.W.Frag} {mg : Str → Option Value} {h : Heap}
theorem hBadtextInit (c : He.SaysX fa fn [] tfs ex w h K) : ∃ fd, FunC K "__init__" "BadText.__init__" sBadtextInit (He.ma K (He.ga K "BadText") "__init__") fd (He.codeOf K ("BadText", some "__init__")) ∧ Binds K fd pBadtextInit [] := by
  obtain ⟨fd, F⟩ := ofD (d := dBadtextInit) (st := sBadtextInit) c.t.d 0 rfl rfl
  replace F : FunC K "__init__" "BadText.__init__" sBadtextInit (He.ma K (He.ga K "BadText") "__init__") fd (He.codeOf K ("BadText", some "__init__")) := F
  exact ⟨fd, F, F.binds fun _ _ _ _ _ _ us hl => match us, hl with | [_, _], _ => rfl⟩
theorem hIsNumber (c : He.SaysX fa fn [] tfs ex w h K) (X : K.In h) (G : h.Ns mainGlobals mg) : ∃ fd, FunC K "is_number" "is_number" sIsNumber (He.ga K "is_number") fd (He.codeOf K ("is_number", none)) ∧ mg "is_number" = some (.ref (He.ga K "is_number")) ∧ Binds K fd pIsNumber [] := by
  obtain ⟨fd, F⟩ := ofD (d := dIsNumber) (st := sIsNumber) c.t.d 1 rfl rfl
  replace F : FunC K "is_number" "is_number" sIsNumber (He.ga K "is_number") fd (He.codeOf K ("is_number", none)) := F
  exact ⟨fd, F, He.glo_ok X G (c.t.d.fact 0 (f := .glo "is_number") rfl), F.binds fun _ _ _ _ _ _ us hl => match us, hl with | [_, _, _], _ => rfl⟩
theorem hIsTerm (c : He.SaysX fa fn [] tfs ex w h K) (X : K.In h) (G : h.Ns mainGlobals mg) : ∃ fd, FunC K "is_term" "is_term" sIsTerm (He.ga K "is_term") fd (He.codeOf K ("is_term", none)) ∧ mg "is_term" = some (.ref (He.ga K "is_term")) ∧ Binds K fd pIsTerm [] := by
  obtain ⟨fd, F⟩ := ofD (d := dIsTerm) (st := sIsTerm) c.t.d 2 rfl rfl
  replace F : FunC K "is_term" "is_term" sIsTerm (He.ga K "is_term") fd (He.codeOf K ("is_term", none)) := F
  exact ⟨fd, F, He.glo_ok X G (c.t.d.fact 1 (f := .glo "is_term") rfl), F.binds fun _ _ _ _ _ _ us hl => match us, hl with | [_, _, _], _ => rfl⟩
theorem hAreNames (c : He.SaysX fa fn [] tfs ex w h K) (X : K.In h) (G : h.Ns mainGlobals mg) : ∃ fd, FunC K "are_names" "are_names" sAreNames (He.ga K "are_names") fd (He.codeOf K ("are_names", none)) ∧ mg "are_names" = some (.ref (He.ga K "are_names")) ∧ Binds K fd pAreNames [] := by
  obtain ⟨fd, F⟩ := ofD (d := dAreNames) (st := sAreNames) c.t.d 3 rfl rfl
  replace F : FunC K "are_names" "are_names" sAreNames (He.ga K "are_names") fd (He.codeOf K ("are_names", none)) := F
  exact ⟨fd, F, He.glo_ok X G (c.t.d.fact 2 (f := .glo "are_names") rfl), F.binds fun _ _ _ _ _ _ us hl => match us, hl with | [_], _ => rfl⟩
theorem hAreTold (c : He.SaysX fa fn [] tfs ex w h K) (X : K.In h) (G : h.Ns mainGlobals mg) : ∃ fd, FunC K "are_told" "are_told" sAreTold (He.ga K "are_told") fd (He.codeOf K ("are_told", none)) ∧ mg "are_told" = some (.ref (He.ga K "are_told")) ∧ Binds K fd pAreTold [] := by
  obtain ⟨fd, F⟩ := ofD (d := dAreTold) (st := sAreTold) c.t.d 4 rfl rfl
  replace F : FunC K "are_told" "are_told" sAreTold (He.ga K "are_told") fd (He.codeOf K ("are_told", none)) := F
  exact ⟨fd, F, He.glo_ok X G (c.t.d.fact 3 (f := .glo "are_told") rfl), F.binds fun _ _ _ _ _ _ us hl => match us, hl with | [_, _], _ => rfl⟩
theorem hAreEquations (c : He.SaysX fa fn [] tfs ex w h K) (X : K.In h) (G : h.Ns mainGlobals mg) : ∃ fd, FunC K "are_equations" "are_equations" sAreEquations (He.ga K "are_equations") fd (He.codeOf K ("are_equations", none)) ∧ mg "are_equations" = some (.ref (He.ga K "are_equations")) ∧ Binds K fd pAreEquations [] := by
  obtain ⟨fd, F⟩ := ofD (d := dAreEquations) (st := sAreEquations) c.t.d 5 rfl rfl
  replace F : FunC K "are_equations" "are_equations" sAreEquations (He.ga K "are_equations") fd (He.codeOf K ("are_equations", none)) := F
  exact ⟨fd, F, He.glo_ok X G (c.t.d.fact 4 (f := .glo "are_equations") rfl), F.binds fun _ _ _ _ _ _ us hl => match us, hl with | [_, _], _ => rfl⟩
theorem hNeedMill (c : He.SaysX fa fn [] tfs ex w h K) (X : K.In h) (G : h.Ns mainGlobals mg) : ∃ fd, FunC K "need_mill" "need_mill" sNeedMill (He.ga K "need_mill") fd (He.codeOf K ("need_mill", none)) ∧ mg "need_mill" = some (.ref (He.ga K "need_mill")) ∧ Binds K fd pNeedMill [] := by
  obtain ⟨fd, F⟩ := ofD (d := dNeedMill) (st := sNeedMill) c.t.d 6 rfl rfl
  replace F : FunC K "need_mill" "need_mill" sNeedMill (He.ga K "need_mill") fd (He.codeOf K ("need_mill", none)) := F
  exact ⟨fd, F, He.glo_ok X G (c.t.d.fact 5 (f := .glo "need_mill") rfl), F.binds fun _ _ _ _ _ _ us hl => match us, hl with | [_], _ => rfl⟩
theorem hIsWord (c : He.SaysX fa fn [] tfs ex w h K) (X : K.In h) (G : h.Ns mainGlobals mg) : ∃ fd, FunC K "is_word" "is_word" sIsWord (He.ga K "is_word") fd (He.codeOf K ("is_word", none)) ∧ mg "is_word" = some (.ref (He.ga K "is_word")) ∧ Binds K fd pIsWord [] := by
  obtain ⟨fd, F⟩ := ofD (d := dIsWord) (st := sIsWord) c.t.d 7 rfl rfl
  replace F : FunC K "is_word" "is_word" sIsWord (He.ga K "is_word") fd (He.codeOf K ("is_word", none)) := F
  exact ⟨fd, F, He.glo_ok X G (c.t.d.fact 6 (f := .glo "is_word") rfl), F.binds fun _ _ _ _ _ _ us hl => match us, hl with | [_], _ => rfl⟩
theorem hNeedWords (c : He.SaysX fa fn [] tfs ex w h K) (X : K.In h) (G : h.Ns mainGlobals mg) : ∃ fd, FunC K "need_words" "need_words" sNeedWords (He.ga K "need_words") fd (He.codeOf K ("need_words", none)) ∧ mg "need_words" = some (.ref (He.ga K "need_words")) ∧ Binds K fd pNeedWords [] := by
  obtain ⟨fd, F⟩ := ofD (d := dNeedWords) (st := sNeedWords) c.t.d 8 rfl rfl
  replace F : FunC K "need_words" "need_words" sNeedWords (He.ga K "need_words") fd (He.codeOf K ("need_words", none)) := F
  exact ⟨fd, F, He.glo_ok X G (c.t.d.fact 7 (f := .glo "need_words") rfl), F.binds fun _ _ _ _ _ _ us hl => match us, hl with | [_, _], _ => rfl⟩
theorem hOffsetText (c : He.SaysX fa fn [] tfs ex w h K) (X : K.In h) (G : h.Ns mainGlobals mg) : ∃ fd, FunC K "offset_text" "offset_text" sOffsetText (He.ga K "offset_text") fd (He.codeOf K ("offset_text", none)) ∧ mg "offset_text" = some (.ref (He.ga K "offset_text")) ∧ Binds K fd pOffsetText [] := by
  obtain ⟨fd, F⟩ := ofD (d := dOffsetText) (st := sOffsetText) c.t.d 9 rfl rfl
  replace F : FunC K "offset_text" "offset_text" sOffsetText (He.ga K "offset_text") fd (He.codeOf K ("offset_text", none)) := F
  exact ⟨fd, F, He.glo_ok X G (c.t.d.fact 8 (f := .glo "offset_text") rfl), F.binds fun _ _ _ _ _ _ us hl => match us, hl with | [_], _ => rfl⟩
theorem hTermText (c : He.SaysX fa fn [] tfs ex w h K) (X : K.In h) (G : h.Ns mainGlobals mg) : ∃ fd, FunC K "term_text" "term_text" sTermText (He.ga K "term_text") fd (He.codeOf K ("term_text", none)) ∧ mg "term_text" = some (.ref (He.ga K "term_text")) ∧ Binds K fd pTermText [] := by
  obtain ⟨fd, F⟩ := ofD (d := dTermText) (st := sTermText) c.t.d 10 rfl rfl
  replace F : FunC K "term_text" "term_text" sTermText (He.ga K "term_text") fd (He.codeOf K ("term_text", none)) := F
  exact ⟨fd, F, He.glo_ok X G (c.t.d.fact 9 (f := .glo "term_text") rfl), F.binds fun _ _ _ _ _ _ us hl => match us, hl with | [_, _, _], _ => rfl⟩
theorem hWritten (c : He.SaysX fa fn [] tfs ex w h K) (X : K.In h) (G : h.Ns mainGlobals mg) : ∃ fd, FunC K "written" "written" sWritten (He.ga K "written") fd (He.codeOf K ("written", none)) ∧ mg "written" = some (.ref (He.ga K "written")) ∧ Binds K fd pWritten [] := by
  obtain ⟨fd, F⟩ := ofD (d := dWritten) (st := sWritten) c.t.d 11 rfl rfl
  replace F : FunC K "written" "written" sWritten (He.ga K "written") fd (He.codeOf K ("written", none)) := F
  exact ⟨fd, F, He.glo_ok X G (c.t.d.fact 10 (f := .glo "written") rfl), F.binds fun _ _ _ _ _ _ us hl => match us, hl with | [_, _], _ => rfl⟩
theorem hSignsOf (c : He.SaysX fa fn [] tfs ex w h K) (X : K.In h) (G : h.Ns mainGlobals mg) : ∃ fd, FunC K "signs_of" "signs_of" sSignsOf (He.ga K "signs_of") fd (He.codeOf K ("signs_of", none)) ∧ mg "signs_of" = some (.ref (He.ga K "signs_of")) ∧ Binds K fd pSignsOf [] := by
  obtain ⟨fd, F⟩ := ofD (d := dSignsOf) (st := sSignsOf) c.t.d 12 rfl rfl
  replace F : FunC K "signs_of" "signs_of" sSignsOf (He.ga K "signs_of") fd (He.codeOf K ("signs_of", none)) := F
  exact ⟨fd, F, He.glo_ok X G (c.t.d.fact 11 (f := .glo "signs_of") rfl), F.binds fun _ _ _ _ _ _ us hl => match us, hl with | [_], _ => rfl⟩
theorem hReaderInit (c : He.SaysX fa fn [] tfs ex w h K) : ∃ fd, FunC K "__init__" "Reader.__init__" sReaderInit (He.ma K (He.ga K "Reader") "__init__") fd (He.codeOf K ("Reader", some "__init__")) ∧ Binds K fd pReaderInit [] := by
  obtain ⟨fd, F⟩ := ofD (d := dReaderInit) (st := sReaderInit) c.t.d 13 rfl rfl
  replace F : FunC K "__init__" "Reader.__init__" sReaderInit (He.ma K (He.ga K "Reader") "__init__") fd (He.codeOf K ("Reader", some "__init__")) := F
  exact ⟨fd, F, F.binds fun _ _ _ _ _ _ us hl => match us, hl with | [_, _, _], _ => rfl⟩
theorem hReaderNextSign (c : He.SaysX fa fn [] tfs ex w h K) : ∃ fd, FunC K "next_sign" "Reader.next_sign" sReaderNextSign (He.ma K (He.ga K "Reader") "next_sign") fd (He.codeOf K ("Reader", some "next_sign")) ∧ Binds K fd pReaderNextSign [] := by
  obtain ⟨fd, F⟩ := ofD (d := dReaderNextSign) (st := sReaderNextSign) c.t.d 14 rfl rfl
  replace F : FunC K "next_sign" "Reader.next_sign" sReaderNextSign (He.ma K (He.ga K "Reader") "next_sign") fd (He.codeOf K ("Reader", some "next_sign")) := F
  exact ⟨fd, F, F.binds fun _ _ _ _ _ _ us hl => match us, hl with | [_], _ => rfl⟩
theorem hReaderTake (c : He.SaysX fa fn [] tfs ex w h K) : ∃ fd, FunC K "take" "Reader.take" sReaderTake (He.ma K (He.ga K "Reader") "take") fd (He.codeOf K ("Reader", some "take")) ∧ Binds K fd pReaderTake [] := by
  obtain ⟨fd, F⟩ := ofD (d := dReaderTake) (st := sReaderTake) c.t.d 15 rfl rfl
  replace F : FunC K "take" "Reader.take" sReaderTake (He.ma K (He.ga K "Reader") "take") fd (He.codeOf K ("Reader", some "take")) := F
  exact ⟨fd, F, F.binds fun _ _ _ _ _ _ us hl => match us, hl with | [_, _], _ => rfl⟩
theorem hReaderNeed (c : He.SaysX fa fn [] tfs ex w h K) : ∃ fd, FunC K "need" "Reader.need" sReaderNeed (He.ma K (He.ga K "Reader") "need") fd (He.codeOf K ("Reader", some "need")) ∧ Binds K fd pReaderNeed [] := by
  obtain ⟨fd, F⟩ := ofD (d := dReaderNeed) (st := sReaderNeed) c.t.d 16 rfl rfl
  replace F : FunC K "need" "Reader.need" sReaderNeed (He.ma K (He.ga K "Reader") "need") fd (He.codeOf K ("Reader", some "need")) := F
  exact ⟨fd, F, F.binds fun _ _ _ _ _ _ us hl => match us, hl with | [_, _], _ => rfl⟩
theorem hReaderNumber (c : He.SaysX fa fn [] tfs ex w h K) : ∃ fd, FunC K "number" "Reader.number" sReaderNumber (He.ma K (He.ga K "Reader") "number") fd (He.codeOf K ("Reader", some "number")) ∧ Binds K fd pReaderNumber [] := by
  obtain ⟨fd, F⟩ := ofD (d := dReaderNumber) (st := sReaderNumber) c.t.d 17 rfl rfl
  replace F : FunC K "number" "Reader.number" sReaderNumber (He.ma K (He.ga K "Reader") "number") fd (He.codeOf K ("Reader", some "number")) := F
  exact ⟨fd, F, F.binds fun _ _ _ _ _ _ us hl => match us, hl with | [_, _, _], _ => rfl⟩
theorem hReaderOffset (c : He.SaysX fa fn [] tfs ex w h K) : ∃ fd, FunC K "offset" "Reader.offset" sReaderOffset (He.ma K (He.ga K "Reader") "offset") fd (He.codeOf K ("Reader", some "offset")) ∧ Binds K fd pReaderOffset [] := by
  obtain ⟨fd, F⟩ := ofD (d := dReaderOffset) (st := sReaderOffset) c.t.d 18 rfl rfl
  replace F : FunC K "offset" "Reader.offset" sReaderOffset (He.ma K (He.ga K "Reader") "offset") fd (He.codeOf K ("Reader", some "offset")) := F
  exact ⟨fd, F, F.binds fun _ _ _ _ _ _ us hl => match us, hl with | [_], _ => rfl⟩
theorem hReaderCompare (c : He.SaysX fa fn [] tfs ex w h K) : ∃ fd, FunC K "compare" "Reader.compare" sReaderCompare (He.ma K (He.ga K "Reader") "compare") fd (He.codeOf K ("Reader", some "compare")) ∧ Binds K fd pReaderCompare [] := by
  obtain ⟨fd, F⟩ := ofD (d := dReaderCompare) (st := sReaderCompare) c.t.d 19 rfl rfl
  replace F : FunC K "compare" "Reader.compare" sReaderCompare (He.ma K (He.ga K "Reader") "compare") fd (He.codeOf K ("Reader", some "compare")) := F
  exact ⟨fd, F, F.binds fun _ _ _ _ _ _ us hl => match us, hl with | [_, _], _ => rfl⟩
theorem hReaderAdded (c : He.SaysX fa fn [] tfs ex w h K) : ∃ fd, FunC K "added" "Reader.added" sReaderAdded (He.ma K (He.ga K "Reader") "added") fd (He.codeOf K ("Reader", some "added")) ∧ Binds K fd pReaderAdded [] := by
  obtain ⟨fd, F⟩ := ofD (d := dReaderAdded) (st := sReaderAdded) c.t.d 20 rfl rfl
  replace F : FunC K "added" "Reader.added" sReaderAdded (He.ma K (He.ga K "Reader") "added") fd (He.codeOf K ("Reader", some "added")) := F
  exact ⟨fd, F, F.binds fun _ _ _ _ _ _ us hl => match us, hl with | [_, _], _ => rfl⟩
theorem hReaderProduct (c : He.SaysX fa fn [] tfs ex w h K) : ∃ fd, FunC K "product" "Reader.product" sReaderProduct (He.ma K (He.ga K "Reader") "product") fd (He.codeOf K ("Reader", some "product")) ∧ Binds K fd pReaderProduct [] := by
  obtain ⟨fd, F⟩ := ofD (d := dReaderProduct) (st := sReaderProduct) c.t.d 21 rfl rfl
  replace F : FunC K "product" "Reader.product" sReaderProduct (He.ma K (He.ga K "Reader") "product") fd (He.codeOf K ("Reader", some "product")) := F
  exact ⟨fd, F, F.binds fun _ _ _ _ _ _ us hl => match us, hl with | [_, _], _ => rfl⟩
theorem hReaderAlone (c : He.SaysX fa fn [] tfs ex w h K) : ∃ fd, FunC K "alone" "Reader.alone" sReaderAlone (He.ma K (He.ga K "Reader") "alone") fd (He.codeOf K ("Reader", some "alone")) ∧ Binds K fd pReaderAlone [] := by
  obtain ⟨fd, F⟩ := ofD (d := dReaderAlone) (st := sReaderAlone) c.t.d 22 rfl rfl
  replace F : FunC K "alone" "Reader.alone" sReaderAlone (He.ma K (He.ga K "Reader") "alone") fd (He.codeOf K ("Reader", some "alone")) := F
  exact ⟨fd, F, F.binds fun _ _ _ _ _ _ us hl => match us, hl with | [_, _], _ => rfl⟩
theorem hReaderBrackets (c : He.SaysX fa fn [] tfs ex w h K) : ∃ fd, FunC K "brackets" "Reader.brackets" sReaderBrackets (He.ma K (He.ga K "Reader") "brackets") fd (He.codeOf K ("Reader", some "brackets")) ∧ Binds K fd pReaderBrackets [] := by
  obtain ⟨fd, F⟩ := ofD (d := dReaderBrackets) (st := sReaderBrackets) c.t.d 23 rfl rfl
  replace F : FunC K "brackets" "Reader.brackets" sReaderBrackets (He.ma K (He.ga K "Reader") "brackets") fd (He.codeOf K ("Reader", some "brackets")) := F
  exact ⟨fd, F, F.binds fun _ _ _ _ _ _ us hl => match us, hl with | [_, _, _], _ => rfl⟩
theorem hEquationOf (c : He.SaysX fa fn [] tfs ex w h K) (X : K.In h) (G : h.Ns mainGlobals mg) : ∃ fd, FunC K "equation_of" "equation_of" sEquationOf (He.ga K "equation_of") fd (He.codeOf K ("equation_of", none)) ∧ mg "equation_of" = some (.ref (He.ga K "equation_of")) ∧ Binds K fd pEquationOf [] := by
  obtain ⟨fd, F⟩ := ofD (d := dEquationOf) (st := sEquationOf) c.t.d 24 rfl rfl
  replace F : FunC K "equation_of" "equation_of" sEquationOf (He.ga K "equation_of") fd (He.codeOf K ("equation_of", none)) := F
  exact ⟨fd, F, He.glo_ok X G (c.t.d.fact 12 (f := .glo "equation_of") rfl), F.binds fun _ _ _ _ _ _ us hl => match us, hl with | [_, _], _ => rfl⟩
theorem hDigit (c : He.SaysX fa fn [] tfs ex w h K) (X : K.In h) (G : h.Ns mainGlobals mg) : ∃ fd, FunC K "digit" "digit" sDigit (He.ga K "digit") fd (He.codeOf K ("digit", none)) ∧ mg "digit" = some (.ref (He.ga K "digit")) ∧ Binds K fd pDigit [] := by
  obtain ⟨fd, F⟩ := ofD (d := dDigit) (st := sDigit) c.t.d 25 rfl rfl
  replace F : FunC K "digit" "digit" sDigit (He.ga K "digit") fd (He.codeOf K ("digit", none)) := F
  exact ⟨fd, F, He.glo_ok X G (c.t.d.fact 13 (f := .glo "digit") rfl), F.binds fun _ _ _ _ _ _ us hl => match us, hl with | [_, _, _], _ => rfl⟩
theorem hNameOf (c : He.SaysX fa fn [] tfs ex w h K) (X : K.In h) (G : h.Ns mainGlobals mg) : ∃ fd, FunC K "name_of" "name_of" sNameOf (He.ga K "name_of") fd (He.codeOf K ("name_of", none)) ∧ mg "name_of" = some (.ref (He.ga K "name_of")) ∧ Binds K fd pNameOf [] := by
  obtain ⟨fd, F⟩ := ofD (d := dNameOf) (st := sNameOf) c.t.d 26 rfl rfl
  replace F : FunC K "name_of" "name_of" sNameOf (He.ga K "name_of") fd (He.codeOf K ("name_of", none)) := F
  exact ⟨fd, F, He.glo_ok X G (c.t.d.fact 14 (f := .glo "name_of") rfl), F.binds fun _ _ _ _ _ _ us hl => match us, hl with | [_, _], _ => rfl⟩
theorem hToldLine (c : He.SaysX fa fn [] tfs ex w h K) (X : K.In h) (G : h.Ns mainGlobals mg) : ∃ fd, FunC K "told_line" "told_line" sToldLine (He.ga K "told_line") fd (He.codeOf K ("told_line", none)) ∧ mg "told_line" = some (.ref (He.ga K "told_line")) ∧ Binds K fd pToldLine [] := by
  obtain ⟨fd, F⟩ := ofD (d := dToldLine) (st := sToldLine) c.t.d 27 rfl rfl
  replace F : FunC K "told_line" "told_line" sToldLine (He.ga K "told_line") fd (He.codeOf K ("told_line", none)) := F
  exact ⟨fd, F, He.glo_ok X G (c.t.d.fact 15 (f := .glo "told_line") rfl), F.binds fun _ _ _ _ _ _ us hl => match us, hl with | [_, _], _ => rfl⟩
theorem hReadMill (c : He.SaysX fa fn [] tfs ex w h K) (X : K.In h) (G : h.Ns mainGlobals mg) : ∃ fd, FunC K "read_mill" "read_mill" sReadMill (He.ga K "read_mill") fd (He.codeOf K ("read_mill", none)) ∧ mg "read_mill" = some (.ref (He.ga K "read_mill")) ∧ Binds K fd pReadMill [] := by
  obtain ⟨fd, F⟩ := ofD (d := dReadMill) (st := sReadMill) c.t.d 28 rfl rfl
  replace F : FunC K "read_mill" "read_mill" sReadMill (He.ga K "read_mill") fd (He.codeOf K ("read_mill", none)) := F
  exact ⟨fd, F, He.glo_ok X G (c.t.d.fact 16 (f := .glo "read_mill") rfl), F.binds fun _ _ _ _ _ _ us hl => match us, hl with | [_], _ => rfl⟩
theorem hReadEquations (c : He.SaysX fa fn [] tfs ex w h K) (X : K.In h) (G : h.Ns mainGlobals mg) : ∃ fd, FunC K "read_equations" "read_equations" sReadEquations (He.ga K "read_equations") fd (He.codeOf K ("read_equations", none)) ∧ mg "read_equations" = some (.ref (He.ga K "read_equations")) ∧ Binds K fd pReadEquations [] := by
  obtain ⟨fd, F⟩ := ofD (d := dReadEquations) (st := sReadEquations) c.t.d 29 rfl rfl
  replace F : FunC K "read_equations" "read_equations" sReadEquations (He.ga K "read_equations") fd (He.codeOf K ("read_equations", none)) := F
  exact ⟨fd, F, He.glo_ok X G (c.t.d.fact 17 (f := .glo "read_equations") rfl), F.binds fun _ _ _ _ _ _ us hl => match us, hl with | [_, _, _], _ => rfl⟩
theorem hLTaken (c : He.SaysX fa fn [] tfs ex w h K) (X : K.In h) (G : h.Ns mainGlobals mg) : ∃ fd, FunC K "_law_taken" "_law_taken" sLTaken (He.ga K "_law_taken") fd (He.codeOf K ("_law_taken", none)) ∧ mg "_law_taken" = some (.ref (He.ga K "_law_taken")) ∧ Binds K fd pLTaken [] := by
  obtain ⟨fd, F⟩ := ofD (d := dLTaken) (st := sLTaken) c.t.d 30 rfl rfl
  replace F : FunC K "_law_taken" "_law_taken" sLTaken (He.ga K "_law_taken") fd (He.codeOf K ("_law_taken", none)) := F
  exact ⟨fd, F, He.glo_ok X G (c.t.d.fact 18 (f := .glo "_law_taken") rfl), F.binds fun _ _ _ _ _ _ us hl => match us, hl with | [_, _], _ => rfl⟩
theorem hLPick (c : He.SaysX fa fn [] tfs ex w h K) (X : K.In h) (G : h.Ns mainGlobals mg) : ∃ fd, FunC K "_law_pick" "_law_pick" sLPick (He.ga K "_law_pick") fd (He.codeOf K ("_law_pick", none)) ∧ mg "_law_pick" = some (.ref (He.ga K "_law_pick")) ∧ Binds K fd pLPick [] := by
  obtain ⟨fd, F⟩ := ofD (d := dLPick) (st := sLPick) c.t.d 31 rfl rfl
  replace F : FunC K "_law_pick" "_law_pick" sLPick (He.ga K "_law_pick") fd (He.codeOf K ("_law_pick", none)) := F
  exact ⟨fd, F, He.glo_ok X G (c.t.d.fact 19 (f := .glo "_law_pick") rfl), F.binds fun _ _ _ _ _ _ us hl => match us, hl with | [_, _], _ => rfl⟩
theorem hLAlike (c : He.SaysX fa fn [] tfs ex w h K) (X : K.In h) (G : h.Ns mainGlobals mg) : ∃ fd, FunC K "_law_alike" "_law_alike" sLAlike (He.ga K "_law_alike") fd (He.codeOf K ("_law_alike", none)) ∧ mg "_law_alike" = some (.ref (He.ga K "_law_alike")) ∧ Binds K fd pLAlike [] := by
  obtain ⟨fd, F⟩ := ofD (d := dLAlike) (st := sLAlike) c.t.d 32 rfl rfl
  replace F : FunC K "_law_alike" "_law_alike" sLAlike (He.ga K "_law_alike") fd (He.codeOf K ("_law_alike", none)) := F
  exact ⟨fd, F, He.glo_ok X G (c.t.d.fact 20 (f := .glo "_law_alike") rfl), F.binds fun _ _ _ _ _ _ us hl => match us, hl with | [_, _], _ => rfl⟩
theorem hLTerm (c : He.SaysX fa fn [] tfs ex w h K) (X : K.In h) (G : h.Ns mainGlobals mg) : ∃ fd, FunC K "_law_term" "_law_term" sLTerm (He.ga K "_law_term") fd (He.codeOf K ("_law_term", none)) ∧ mg "_law_term" = some (.ref (He.ga K "_law_term")) ∧ Binds K fd pLTerm [] := by
  obtain ⟨fd, F⟩ := ofD (d := dLTerm) (st := sLTerm) c.t.d 33 rfl rfl
  replace F : FunC K "_law_term" "_law_term" sLTerm (He.ga K "_law_term") fd (He.codeOf K ("_law_term", none)) := F
  exact ⟨fd, F, He.glo_ok X G (c.t.d.fact 21 (f := .glo "_law_term") rfl), F.binds fun _ _ _ _ _ _ us hl => match us, hl with | [_, _, _, _], _ => rfl⟩
theorem hLMill (c : He.SaysX fa fn [] tfs ex w h K) (X : K.In h) (G : h.Ns mainGlobals mg) : ∃ fd, FunC K "_law_mill" "_law_mill" sLMill (He.ga K "_law_mill") fd (He.codeOf K ("_law_mill", none)) ∧ mg "_law_mill" = some (.ref (He.ga K "_law_mill")) ∧ Binds K fd pLMill [] := by
  obtain ⟨fd, F⟩ := ofD (d := dLMill) (st := sLMill) c.t.d 34 rfl rfl
  replace F : FunC K "_law_mill" "_law_mill" sLMill (He.ga K "_law_mill") fd (He.codeOf K ("_law_mill", none)) := F
  exact ⟨fd, F, He.glo_ok X G (c.t.d.fact 22 (f := .glo "_law_mill") rfl), F.binds fun _ _ _ _ _ _ us hl => match us, hl with | [_, _, _], _ => rfl⟩
theorem hLOffsetText (c : He.SaysX fa fn [] tfs ex w h K) (X : K.In h) (G : h.Ns mainGlobals mg) : ∃ fd, FunC K "_law_offset_text" "_law_offset_text" sLOffsetText (He.ga K "_law_offset_text") fd (He.codeOf K ("_law_offset_text", none)) ∧ mg "_law_offset_text" = some (.ref (He.ga K "_law_offset_text")) ∧ Binds K fd pLOffsetText [] := by
  obtain ⟨fd, F⟩ := ofD (d := dLOffsetText) (st := sLOffsetText) c.t.d 35 rfl rfl
  replace F : FunC K "_law_offset_text" "_law_offset_text" sLOffsetText (He.ga K "_law_offset_text") fd (He.codeOf K ("_law_offset_text", none)) := F
  exact ⟨fd, F, He.glo_ok X G (c.t.d.fact 23 (f := .glo "_law_offset_text") rfl), F.binds fun _ _ _ _ _ _ us hl => match us, hl with | [_], _ => rfl⟩
theorem hLText (c : He.SaysX fa fn [] tfs ex w h K) (X : K.In h) (G : h.Ns mainGlobals mg) : ∃ fd, FunC K "_law_text" "_law_text" sLText (He.ga K "_law_text") fd (He.codeOf K ("_law_text", none)) ∧ mg "_law_text" = some (.ref (He.ga K "_law_text")) ∧ Binds K fd pLText [] := by
  obtain ⟨fd, F⟩ := ofD (d := dLText) (st := sLText) c.t.d 36 rfl rfl
  replace F : FunC K "_law_text" "_law_text" sLText (He.ga K "_law_text") fd (He.codeOf K ("_law_text", none)) := F
  exact ⟨fd, F, He.glo_ok X G (c.t.d.fact 24 (f := .glo "_law_text") rfl), F.binds fun _ _ _ _ _ _ us hl => match us, hl with | [_, _, _], _ => rfl⟩
theorem hLLoose (c : He.SaysX fa fn [] tfs ex w h K) (X : K.In h) (G : h.Ns mainGlobals mg) : ∃ fd, FunC K "_law_loose" "_law_loose" sLLoose (He.ga K "_law_loose") fd (He.codeOf K ("_law_loose", none)) ∧ mg "_law_loose" = some (.ref (He.ga K "_law_loose")) ∧ Binds K fd pLLoose [] := by
  obtain ⟨fd, F⟩ := ofD (d := dLLoose) (st := sLLoose) c.t.d 37 rfl rfl
  replace F : FunC K "_law_loose" "_law_loose" sLLoose (He.ga K "_law_loose") fd (He.codeOf K ("_law_loose", none)) := F
  exact ⟨fd, F, He.glo_ok X G (c.t.d.fact 25 (f := .glo "_law_loose") rfl), F.binds fun _ _ _ _ _ _ us hl => match us, hl with | [_, _, _], _ => rfl⟩
theorem hLSigns (c : He.SaysX fa fn [] tfs ex w h K) (X : K.In h) (G : h.Ns mainGlobals mg) : ∃ fd, FunC K "_law_signs" "_law_signs" sLSigns (He.ga K "_law_signs") fd (He.codeOf K ("_law_signs", none)) ∧ mg "_law_signs" = some (.ref (He.ga K "_law_signs")) ∧ Binds K fd pLSigns [] := by
  obtain ⟨fd, F⟩ := ofD (d := dLSigns) (st := sLSigns) c.t.d 38 rfl rfl
  replace F : FunC K "_law_signs" "_law_signs" sLSigns (He.ga K "_law_signs") fd (He.codeOf K ("_law_signs", none)) := F
  exact ⟨fd, F, He.glo_ok X G (c.t.d.fact 26 (f := .glo "_law_signs") rfl), F.binds fun _ _ _ _ _ _ us hl => match us, hl with | [_], _ => rfl⟩
theorem hLSide (c : He.SaysX fa fn [] tfs ex w h K) (X : K.In h) (G : h.Ns mainGlobals mg) : ∃ fd, FunC K "_law_side" "_law_side" sLSide (He.ga K "_law_side") fd (He.codeOf K ("_law_side", none)) ∧ mg "_law_side" = some (.ref (He.ga K "_law_side")) ∧ Binds K fd pLSide [] := by
  obtain ⟨fd, F⟩ := ofD (d := dLSide) (st := sLSide) c.t.d 39 rfl rfl
  replace F : FunC K "_law_side" "_law_side" sLSide (He.ga K "_law_side") fd (He.codeOf K ("_law_side", none)) := F
  exact ⟨fd, F, He.glo_ok X G (c.t.d.fact 27 (f := .glo "_law_side") rfl), F.binds fun _ _ _ _ _ _ us hl => match us, hl with | [_, _, _, _], _ => rfl⟩
theorem hLNumber (c : He.SaysX fa fn [] tfs ex w h K) (X : K.In h) (G : h.Ns mainGlobals mg) : ∃ fd, FunC K "_law_number" "_law_number" sLNumber (He.ga K "_law_number") fd (He.codeOf K ("_law_number", none)) ∧ mg "_law_number" = some (.ref (He.ga K "_law_number")) ∧ Binds K fd pLNumber [] := by
  obtain ⟨fd, F⟩ := ofD (d := dLNumber) (st := sLNumber) c.t.d 40 rfl rfl
  replace F : FunC K "_law_number" "_law_number" sLNumber (He.ga K "_law_number") fd (He.codeOf K ("_law_number", none)) := F
  exact ⟨fd, F, He.glo_ok X G (c.t.d.fact 28 (f := .glo "_law_number") rfl), F.binds fun _ _ _ _ _ _ us hl => match us, hl with | [_, _, _], _ => rfl⟩
theorem hLOffset (c : He.SaysX fa fn [] tfs ex w h K) (X : K.In h) (G : h.Ns mainGlobals mg) : ∃ fd, FunC K "_law_offset" "_law_offset" sLOffset (He.ga K "_law_offset") fd (He.codeOf K ("_law_offset", none)) ∧ mg "_law_offset" = some (.ref (He.ga K "_law_offset")) ∧ Binds K fd pLOffset [] := by
  obtain ⟨fd, F⟩ := ofD (d := dLOffset) (st := sLOffset) c.t.d 41 rfl rfl
  replace F : FunC K "_law_offset" "_law_offset" sLOffset (He.ga K "_law_offset") fd (He.codeOf K ("_law_offset", none)) := F
  exact ⟨fd, F, He.glo_ok X G (c.t.d.fact 29 (f := .glo "_law_offset") rfl), F.binds fun _ _ _ _ _ _ us hl => match us, hl with | [_], _ => rfl⟩
theorem hLSingle (c : He.SaysX fa fn [] tfs ex w h K) (X : K.In h) (G : h.Ns mainGlobals mg) : ∃ fd, FunC K "_law_single" "_law_single" sLSingle (He.ga K "_law_single") fd (He.codeOf K ("_law_single", none)) ∧ mg "_law_single" = some (.ref (He.ga K "_law_single")) ∧ Binds K fd pLSingle [] := by
  obtain ⟨fd, F⟩ := ofD (d := dLSingle) (st := sLSingle) c.t.d 42 rfl rfl
  replace F : FunC K "_law_single" "_law_single" sLSingle (He.ga K "_law_single") fd (He.codeOf K ("_law_single", none)) := F
  exact ⟨fd, F, He.glo_ok X G (c.t.d.fact 30 (f := .glo "_law_single") rfl), F.binds fun _ _ _ _ _ _ us hl => match us, hl with | [_, _, _], _ => rfl⟩
theorem hLCall (c : He.SaysX fa fn [] tfs ex w h K) (X : K.In h) (G : h.Ns mainGlobals mg) : ∃ fd, FunC K "_law_call" "_law_call" sLCall (He.ga K "_law_call") fd (He.codeOf K ("_law_call", none)) ∧ mg "_law_call" = some (.ref (He.ga K "_law_call")) ∧ Binds K fd pLCall [] := by
  obtain ⟨fd, F⟩ := ofD (d := dLCall) (st := sLCall) c.t.d 43 rfl rfl
  replace F : FunC K "_law_call" "_law_call" sLCall (He.ga K "_law_call") fd (He.codeOf K ("_law_call", none)) := F
  exact ⟨fd, F, He.glo_ok X G (c.t.d.fact 31 (f := .glo "_law_call") rfl), F.binds fun _ _ _ _ _ _ us hl => match us, hl with | [_, _, _], _ => rfl⟩
theorem hLDeep (c : He.SaysX fa fn [] tfs ex w h K) (X : K.In h) (G : h.Ns mainGlobals mg) : ∃ fd, FunC K "_law_deep" "_law_deep" sLDeep (He.ga K "_law_deep") fd (He.codeOf K ("_law_deep", none)) ∧ mg "_law_deep" = some (.ref (He.ga K "_law_deep")) ∧ Binds K fd pLDeep [] := by
  obtain ⟨fd, F⟩ := ofD (d := dLDeep) (st := sLDeep) c.t.d 44 rfl rfl
  replace F : FunC K "_law_deep" "_law_deep" sLDeep (He.ga K "_law_deep") fd (He.codeOf K ("_law_deep", none)) := F
  exact ⟨fd, F, He.glo_ok X G (c.t.d.fact 32 (f := .glo "_law_deep") rfl), F.binds fun _ _ _ _ _ _ us hl => match us, hl with | [_], _ => rfl⟩
theorem hLEquation (c : He.SaysX fa fn [] tfs ex w h K) (X : K.In h) (G : h.Ns mainGlobals mg) : ∃ fd, FunC K "_law_equation" "_law_equation" sLEquation (He.ga K "_law_equation") fd (He.codeOf K ("_law_equation", none)) ∧ mg "_law_equation" = some (.ref (He.ga K "_law_equation")) ∧ Binds K fd pLEquation [] := by
  obtain ⟨fd, F⟩ := ofD (d := dLEquation) (st := sLEquation) c.t.d 45 rfl rfl
  replace F : FunC K "_law_equation" "_law_equation" sLEquation (He.ga K "_law_equation") fd (He.codeOf K ("_law_equation", none)) := F
  exact ⟨fd, F, He.glo_ok X G (c.t.d.fact 33 (f := .glo "_law_equation") rfl), F.binds fun _ _ _ _ _ _ us hl => match us, hl with | [_, _], _ => rfl⟩
theorem hLIsWord (c : He.SaysX fa fn [] tfs ex w h K) (X : K.In h) (G : h.Ns mainGlobals mg) : ∃ fd, FunC K "_law_is_word" "_law_is_word" sLIsWord (He.ga K "_law_is_word") fd (He.codeOf K ("_law_is_word", none)) ∧ mg "_law_is_word" = some (.ref (He.ga K "_law_is_word")) ∧ Binds K fd pLIsWord [] := by
  obtain ⟨fd, F⟩ := ofD (d := dLIsWord) (st := sLIsWord) c.t.d 46 rfl rfl
  replace F : FunC K "_law_is_word" "_law_is_word" sLIsWord (He.ga K "_law_is_word") fd (He.codeOf K ("_law_is_word", none)) := F
  exact ⟨fd, F, He.glo_ok X G (c.t.d.fact 34 (f := .glo "_law_is_word") rfl), F.binds fun _ _ _ _ _ _ us hl => match us, hl with | [_], _ => rfl⟩
theorem hLRead (c : He.SaysX fa fn [] tfs ex w h K) (X : K.In h) (G : h.Ns mainGlobals mg) : ∃ fd, FunC K "_law_read" "_law_read" sLRead (He.ga K "_law_read") fd (He.codeOf K ("_law_read", none)) ∧ mg "_law_read" = some (.ref (He.ga K "_law_read")) ∧ Binds K fd pLRead [] := by
  obtain ⟨fd, F⟩ := ofD (d := dLRead) (st := sLRead) c.t.d 47 rfl rfl
  replace F : FunC K "_law_read" "_law_read" sLRead (He.ga K "_law_read") fd (He.codeOf K ("_law_read", none)) := F
  exact ⟨fd, F, He.glo_ok X G (c.t.d.fact 35 (f := .glo "_law_read") rfl), F.binds fun _ _ _ _ _ _ us hl => match us, hl with | [_], _ => rfl⟩
theorem hLToldBy (c : He.SaysX fa fn [] tfs ex w h K) (X : K.In h) (G : h.Ns mainGlobals mg) : ∃ fd, FunC K "_law_told_by" "_law_told_by" sLToldBy (He.ga K "_law_told_by") fd (He.codeOf K ("_law_told_by", none)) ∧ mg "_law_told_by" = some (.ref (He.ga K "_law_told_by")) ∧ Binds K fd pLToldBy [] := by
  obtain ⟨fd, F⟩ := ofD (d := dLToldBy) (st := sLToldBy) c.t.d 48 rfl rfl
  replace F : FunC K "_law_told_by" "_law_told_by" sLToldBy (He.ga K "_law_told_by") fd (He.codeOf K ("_law_told_by", none)) := F
  exact ⟨fd, F, He.glo_ok X G (c.t.d.fact 36 (f := .glo "_law_told_by") rfl), F.binds fun _ _ _ _ _ _ us hl => match us, hl with | [_], _ => rfl⟩
theorem hLaw (c : He.SaysX fa fn [] tfs ex w h K) (X : K.In h) (G : h.Ns mainGlobals mg) : ∃ fd, FunC K "law" "law" sLaw (He.ga K "law") fd (He.codeOf K ("law", none)) ∧ mg "law" = some (.ref (He.ga K "law")) ∧ Binds K fd pLaw [] := by
  obtain ⟨fd, F⟩ := ofD (d := dLaw) (st := sLaw) c.t.d 49 rfl rfl
  replace F : FunC K "law" "law" sLaw (He.ga K "law") fd (He.codeOf K ("law", none)) := F
  exact ⟨fd, F, He.glo_ok X G (c.t.d.fact 37 (f := .glo "law") rfl), F.binds fun _ _ _ _ _ _ us hl => match us, hl with | [_], _ => rfl⟩
theorem hBl (c : He.SaysX fa fn [] tfs ex w h K) (X : K.In h) (G : h.Ns mainGlobals mg) : Bl mg := ⟨He.free_ok X G (c.t.d.fact 44 (f := .free "len") rfl), He.free_ok X G (c.t.d.fact 45 (f := .free "isinstance") rfl), He.free_ok X G (c.t.d.fact 46 (f := .free "int") rfl), He.free_ok X G (c.t.d.fact 47 (f := .free "bool") rfl), He.free_ok X G (c.t.d.fact 48 (f := .free "str") rfl), He.free_ok X G (c.t.d.fact 49 (f := .free "tuple") rfl), He.free_ok X G (c.t.d.fact 50 (f := .free "list") rfl), He.free_ok X G (c.t.d.fact 51 (f := .free "all") rfl), He.free_ok X G (c.t.d.fact 52 (f := .free "zip") rfl), He.free_ok X G (c.t.d.fact 53 (f := .free "set") rfl), He.free_ok X G (c.t.d.fact 54 (f := .free "range") rfl), He.free_ok X G (c.t.d.fact 55 (f := .free "max") rfl), He.free_ok X G (c.t.d.fact 56 (f := .free "sorted") rfl), He.free_ok X G (c.t.d.fact 57 (f := .free "abs") rfl)⟩
theorem hGc (c : He.SaysX fa fn [] tfs ex w h K) (X : K.In h) (G : h.Ns mainGlobals mg) : Gc K mg := by
  obtain ⟨e1, e2⟩ := He.ba (show (exTup K && (exBt K && exNin K)) = true from c.more)
  obtain ⟨t1, t2⟩ := He.ba (show (He.tupB K "KEPT" [.str "in", .str "pick", .str "rest"] && (He.tupB K "SIGNS" [.str "==", .str "<", .str "+", .str "*", .str "(", .str ")", .str ",", .str "@+", .str "@-", .str "="] && He.tupB K "PAIRS" [.str "plus", .str "times", .str "same", .str "less"])) = true from e1)
  obtain ⟨t2, t3⟩ := He.ba t2
  exact ⟨He.str_ok X G (c.t.d.fact 67 (f := .str "SMALL" "abcdefghijklmnopqrstuvwxyz") rfl), ⟨_, He.glo_ok X G (c.t.d.fact 41 (f := .glo "KEPT") rfl), fun H => He.tupB_ok t1 H⟩, ⟨_, He.glo_ok X G (c.t.d.fact 42 (f := .glo "SIGNS") rfl), fun H => He.tupB_ok t2 H⟩, ⟨_, He.glo_ok X G (c.t.d.fact 43 (f := .glo "PAIRS") rfl), fun H => He.tupB_ok t3 H⟩,
    He.int_ok X G (c.t.d.fact 58 (f := .int "MOST_LETTERS" 3) rfl), He.int_ok X G (c.t.d.fact 59 (f := .int "MOST_NAMES" 3) rfl), He.int_ok X G (c.t.d.fact 60 (f := .int "LEAST_VALUES" 2) rfl), He.int_ok X G (c.t.d.fact 61 (f := .int "MOST_VALUES" 3) rfl), He.int_ok X G (c.t.d.fact 62 (f := .int "MOST_EQUATIONS" 6) rfl), He.int_ok X G (c.t.d.fact 63 (f := .int "MOST_REACH" 2) rfl), He.int_ok X G (c.t.d.fact 64 (f := .int "MOST_NUMBER" 9) rfl), He.int_ok X G (c.t.d.fact 65 (f := .int "MOST_DEPTH" 5) rfl), He.int_ok X G (c.t.d.fact 66 (f := .int "MOST_SIGNS" 200) rfl)⟩
theorem hRdM (c : He.SaysX fa fn [] tfs ex w h K) : RdM K (He.ga K "Reader") := by
  obtain ⟨fdNextSign, FNextSign, bNextSign⟩ := hReaderNextSign c
  obtain ⟨fdTake, FTake, bTake⟩ := hReaderTake c
  obtain ⟨fdNeed, FNeed, bNeed⟩ := hReaderNeed c
  obtain ⟨fdNumber, FNumber, bNumber⟩ := hReaderNumber c
  obtain ⟨fdOffset, FOffset, bOffset⟩ := hReaderOffset c
  obtain ⟨fdCompare, FCompare, bCompare⟩ := hReaderCompare c
  obtain ⟨fdAdded, FAdded, bAdded⟩ := hReaderAdded c
  obtain ⟨fdProduct, FProduct, bProduct⟩ := hReaderProduct c
  obtain ⟨fdAlone, FAlone, bAlone⟩ := hReaderAlone c
  obtain ⟨fdBrackets, FBrackets, bBrackets⟩ := hReaderBrackets c
  exact ⟨⟨He.cls_ok (c.t.d.fact 68 (f := .cls "Reader") rfl), He.noat_ok (c.t.d.fact 69 (f := .noat "Reader" "signs") rfl), He.noat_ok (c.t.d.fact 70 (f := .noat "Reader" "words") rfl), He.noat_ok (c.t.d.fact 71 (f := .noat "Reader" "place") rfl), He.noat_ok (c.t.d.fact 72 (f := .noat "Reader" "broken") rfl)⟩,
    ⟨_, _, _, FNextSign, He.meth_ok (c.t.d.fact 73 (f := .meth "Reader" "next_sign") rfl), bNextSign⟩, ⟨_, _, _, FTake, He.meth_ok (c.t.d.fact 74 (f := .meth "Reader" "take") rfl), bTake⟩, ⟨_, _, _, FNeed, He.meth_ok (c.t.d.fact 75 (f := .meth "Reader" "need") rfl), bNeed⟩, ⟨_, _, _, FNumber, He.meth_ok (c.t.d.fact 76 (f := .meth "Reader" "number") rfl), bNumber⟩, ⟨_, _, _, FOffset, He.meth_ok (c.t.d.fact 77 (f := .meth "Reader" "offset") rfl), bOffset⟩, ⟨_, _, _, FCompare, He.meth_ok (c.t.d.fact 78 (f := .meth "Reader" "compare") rfl), bCompare⟩, ⟨_, _, _, FAdded, He.meth_ok (c.t.d.fact 79 (f := .meth "Reader" "added") rfl), bAdded⟩, ⟨_, _, _, FProduct, He.meth_ok (c.t.d.fact 80 (f := .meth "Reader" "product") rfl), bProduct⟩, ⟨_, _, _, FAlone, He.meth_ok (c.t.d.fact 81 (f := .meth "Reader" "alone") rfl), bAlone⟩, ⟨_, _, _, FBrackets, He.meth_ok (c.t.d.fact 82 (f := .meth "Reader" "brackets") rfl), bBrackets⟩⟩
theorem hBt (c : He.SaysX fa fn [] tfs ex w h K) (X : K.In h) (G : h.Ns mainGlobals mg) : BTc K mg (He.ga K "BadText") (He.ma K (He.ga K "BadText") "__init__") ∧ XfC K (He.ga K "BadText") := by
  obtain ⟨e1, e2⟩ := He.ba (show (exTup K && (exBt K && exNin K)) = true from c.more)
  obtain ⟨e2, e3⟩ := He.ba e2
  unfold exBt at e2
  obtain ⟨b1, e2⟩ := He.ba e2
  obtain ⟨b2, e2⟩ := He.ba e2
  obtain ⟨b3, e2⟩ := He.ba e2
  obtain ⟨b4, e2⟩ := He.ba e2
  obtain ⟨b5, e2⟩ := He.ba e2
  obtain ⟨b6, e2⟩ := He.ba e2
  obtain ⟨b7, b8⟩ := He.ba e2
  exact ⟨⟨⟨oexB_ok b1, He.eqO_ok b2, of_decide_eq_true b3, of_decide_eq_true b4, b5⟩, He.eqO_ok b6, of_decide_eq_true b7, He.glo_ok X G (c.t.d.fact 38 (f := .glo "BadText") rfl), He.noat_ok (c.t.d.fact 88 (f := .noat "BadText" "line") rfl)⟩, xfB_ok b8⟩
theorem hBw (c : He.SaysX fa fn [] tfs ex w h K) (X : K.In h) (G : h.Ns mainGlobals mg) : BWc K mg (He.ga K "BadWords") := by
  obtain ⟨q1, q2, q3, q4⟩ := He.exc_ok (c.t.d.fact 84 (f := .exc "BadWords") rfl)
  exact ⟨q1, He.glo_ok X G (c.t.d.fact 39 (f := .glo "BadWords") rfl), q2, q3, q4⟩
theorem gt_is_word {K : PySem.W.Frag} : (He.cT K ("is_word", none)).2 ∈ GTof K := List.mem_map_of_mem (f := fun p => (He.cT K p).2) (show (("is_word", none) : He.Defn) ∈ tfG from .head _)
theorem tf_is_word : (("is_word", none) : He.Defn) ∈ tfs := .tail _ (.head _)
theorem gt_need_words {K : PySem.W.Frag} : (He.cT K ("need_words", none)).2 ∈ GTof K := List.mem_map_of_mem (f := fun p => (He.cT K p).2) (show (("need_words", none) : He.Defn) ∈ tfG from .tail _ (.head _))
theorem tf_need_words : (("need_words", none) : He.Defn) ∈ tfs := .tail _ (.tail _ (.head _))
theorem gt_told_line {K : PySem.W.Frag} : (He.cT K ("told_line", none)).2 ∈ GTof K := List.mem_map_of_mem (f := fun p => (He.cT K p).2) (show (("told_line", none) : He.Defn) ∈ tfG from .tail _ (.tail _ (.head _)))
theorem tf_told_line : (("told_line", none) : He.Defn) ∈ tfs := .tail _ (.tail _ (.tail _ (.head _)))
theorem gt_is_term {K : PySem.W.Frag} : (He.cT K ("is_term", none)).2 ∈ GTof K := List.mem_map_of_mem (f := fun p => (He.cT K p).2) (show (("is_term", none) : He.Defn) ∈ tfG from .tail _ (.tail _ (.tail _ (.head _))))
theorem tf_is_term : (("is_term", none) : He.Defn) ∈ tfs := .tail _ (.tail _ (.tail _ (.tail _ (.head _))))
theorem gt_are_told {K : PySem.W.Frag} : (He.cT K ("are_told", none)).2 ∈ GTof K := List.mem_map_of_mem (f := fun p => (He.cT K p).2) (show (("are_told", none) : He.Defn) ∈ tfG from .tail _ (.tail _ (.tail _ (.tail _ (.head _)))))
theorem tf_are_told : (("are_told", none) : He.Defn) ∈ tfs := .tail _ (.tail _ (.tail _ (.tail _ (.tail _ (.head _)))))
theorem gt_are_equations {K : PySem.W.Frag} : (He.cT K ("are_equations", none)).2 ∈ GTof K := List.mem_map_of_mem (f := fun p => (He.cT K p).2) (show (("are_equations", none) : He.Defn) ∈ tfG from .tail _ (.tail _ (.tail _ (.tail _ (.tail _ (.head _))))))
theorem tf_are_equations : (("are_equations", none) : He.Defn) ∈ tfs := .tail _ (.tail _ (.tail _ (.tail _ (.tail _ (.tail _ (.head _))))))
theorem tf_law : (("law", none) : He.Defn) ∈ tfs := .head _
theorem hNin (c : He.SaysX fa fn [] tfs ex w h K) : (He.cT K ("law", none)).2 ∉ GTof K := fun z => by
  obtain ⟨e1, e2⟩ := He.ba (show (exTup K && (exBt K && exNin K)) = true from c.more)
  obtain ⟨e2, e3⟩ := He.ba e2
  obtain ⟨p, hp, e⟩ := List.mem_map.mp z
  have e4 := List.all_eq_true.mp (show (tfG.all fun p => !((He.cT K p).2 == (He.cT K ("law", none)).2)) = true from e3) p hp
  rw [e] at e4
  simp at e4
theorem hExm (c : He.SaysX fa fn [] tfs ex w h K) : PySem.W.exmOne K (.ref (He.ga K "BadText")) (.ref (He.ga K "BadText")) = some true ∧ PySem.W.exmOne K (.ref (He.ga K "BadWords")) (.ref (He.ga K "BadText")) = some false ∧ PySem.W.exmOne K (.ref (He.ga K "BadWords")) (.ref (He.ga K "BadWords")) = some true :=
  ⟨He.exm_ok (c.t.d.fact 85 (f := .exm "BadText" "BadText" true) rfl), He.exm_ok (c.t.d.fact 86 (f := .exm "BadWords" "BadText" false) rfl), He.exm_ok (c.t.d.fact 87 (f := .exm "BadWords" "BadWords" true) rfl)⟩
theorem hMk (c : He.SaysX fa fn [] tfs ex w h K) : Mk K (He.ga K "Reader") (He.ma K (He.ga K "Reader") "__init__") := He.mkr_ok (c.t.d.fact 83 (f := .mkr "Reader") rfl)
theorem hReader (c : He.SaysX fa fn [] tfs ex w h K) (X : K.In h) (G : h.Ns mainGlobals mg) : mg "Reader" = some (.ref (He.ga K "Reader")) := He.glo_ok X G (c.t.d.fact 40 (f := .glo "Reader") rfl)
end
end ML
set_option maxHeartbeats 4000000
namespace ML
open PySem PySem.Spec PyProof.Rows L2
/-! ### the defs tied -/
section
variable {P : Program} {w : World} {K : PySem.W.Frag} {mg : Str → Option Value} {base h : Heap}
theorem lawC (c : He.SaysX fa fn [] tfs ex w h K) (X : K.In h) (G : h.Ns mainGlobals mg) (hT : ∀ p ∈ tfs, LamX.TabB base mg (He.cT K p).1 (He.cT K p).2) :
    LawC P w K mg base (GTof K) (He.codeOf K ("law", none)) (He.cT K ("law", none)).2 (He.ga K "BadText") (He.ga K "BadWords") := by
  have T := hBl c X G
  have Gv := hGc c X G
  have M := hRdM c
  obtain ⟨B, XF⟩ := hBt c X G
  have W := hBw c X G
  obtain ⟨e1, e2, e3⟩ := hExm c
  -- the mill's laws
  obtain ⟨d1, F1, m1, b1⟩ := hIsNumber c X G
  have Gnum : Cal P w K mg base 1 "is_number" pIsNumber spIsNumber := .mk F1 m1 b1 (ok_isNumber F1 T)
  obtain ⟨d2, F2, m2, b2⟩ := hIsTerm c X G
  have Gterm := ok_term (P := P) (w := w) (GT := GTof K) F2 T Gv (hT _ tf_is_term) gt_is_term m2 b2 Gnum 6
  obtain ⟨d3, F3, m3, b3⟩ := hAreNames c X G
  have Gnames : Cal P w K mg base 2 "are_names" pAreNames spNames := .mk F3 m3 b3 (ok_areNames F3 T Gv Gnum)
  obtain ⟨d4, F4, m4, b4⟩ := hAreTold c X G
  have Gtold : Cal P w K mg base 3 "are_told" pAreTold (spTold (GTof K)) := .mk F4 m4 b4 (ok_areTold F4 T (hT _ tf_are_told) gt_are_told Gnum)
  obtain ⟨d5, F5, m5, b5⟩ := hAreEquations c X G
  have Geqs : Cal P w K mg base 15 "are_equations" pAreEquations (spEqs (GTof K)) := .mk F5 m5 b5 (ok_areEqs F5 T Gv (hT _ tf_are_equations) gt_are_equations Gterm)
  obtain ⟨d6, F6, m6, b6⟩ := hNeedMill c X G
  have Gneed : Cal P w K mg base 16 "need_mill" pNeedMill (spNeedMill (GTof K)) := .mk F6 m6 b6 (ok_needMill F6 T Gv Gnum Gnames Gtold Geqs)
  -- the writer
  obtain ⟨d7, F7, m7, b7⟩ := hIsWord c X G
  have Gword : Cal P w K mg base 2 "is_word" pIsWord (spIsWord (GTof K)) := .mk F7 m7 b7 (ok_isWord F7 T Gv (hT _ tf_is_word) gt_is_word)
  obtain ⟨d8, F8, m8, b8⟩ := hNeedWords c X G
  have Onw := ok_needWords (P := P) (w := w) F8 T W (hT _ tf_need_words) gt_need_words Gword
  obtain ⟨d9, F9, m9, b9⟩ := hOffsetText c X G
  have Ooff := ok_off (P := P) (w := w) (base := base) F9 T
  obtain ⟨d10, F10, m10, b10⟩ := hTermText c X G
  have Gtext : Cal P w K mg base 6 "term_text" pTermText (spW 5) := .mk F10 m10 b10 (ok_text F10 T b10 m10 Ooff m9 b9 F9.kp 5)
  obtain ⟨d11, F11, m11, b11⟩ := hWritten c X G
  have Owr := ok_written (P := P) (w := w) F11 T Gneed Onw m8 b8 F8.kp Gtext
  -- the reader
  obtain ⟨d12, F12, m12, b12⟩ := hDigit c X G
  have Gdig : Cal P w K mg base 1 "digit" pDigit spDigit := .mk F12 m12 b12 (ok_digit F12 T)
  obtain ⟨d13, F13, m13, b13⟩ := hSignsOf c X G
  have Gsig : Cal P w K mg base 1 "signs_of" pSignsOf spSigns := .mk F13 m13 b13 (ok_signs F13 T Gv)
  obtain ⟨d14, F14, b14⟩ := hReaderInit c
  have Oini := ok_rinit (P := P) (w := w) (mg := mg) (base := base) F14 M.rd
  obtain ⟨d15, F15, m15, b15⟩ := hEquationOf c X G
  have Geq : Cal P w K mg base 213 "equation_of" pEquationOf (spEq (GTof K)) := .mk F15 m15 b15 (ok_equation F15 T Gv M.rd Gsig (hMk c) Oini (hReader c X G) b14 (M.gside T Gv Gdig) (M.gneed T) Geqs)
  obtain ⟨d16, F16, m16, b16⟩ := hNameOf c X G
  have Gnam : Cal P w K mg base 3 "name_of" pNameOf (spName (GTof K)) := .mk F16 m16 b16 (ok_name F16 T Gword Gdig)
  obtain ⟨d17, F17, m17, b17⟩ := hToldLine c X G
  have Gtl : Cal P w K mg base 2 "told_line" pToldLine (spToldL (GTof K)) := .mk F17 m17 b17 (ok_toldL F17 T (hT _ tf_told_line) gt_told_line)
  obtain ⟨d18, F18, b18⟩ := hBadtextInit c
  have Obt := ok_btinit (P := P) (w := w) (base := base) F18 B
  obtain ⟨d19, F19, m19, b19⟩ := hReadEquations c X G
  have Ore := ok_readEqs F19 T B Obt b18 Geq
  obtain ⟨d20, F20, m20, b20⟩ := hReadMill c X G
  have Orm := ok_readMill F20 T Gv B Obt b18 Gdig Gnam Gtl Gneed Ore m19 b19 F19.kp
  -- the law's own
  obtain ⟨d21, F21, m21, b21⟩ := hLTaken c X G
  have Gtk : Cal P w K mg base 1 "_law_taken" pLTaken (spTaken K) := .mk F21 m21 b21 (ok_taken F21 T)
  obtain ⟨d22, F22, m22, b22⟩ := hLPick c X G
  have Gpk : Cal P w K mg base 2 "_law_pick" pLPick (spPick K) := .mk F22 m22 b22 (ok_lpick F22 T Gtk)
  obtain ⟨d23, F23, m23, b23⟩ := hLTerm c X G
  have Gdr := ok_ldraw F23 T m23 b23 Gtk Gpk
  obtain ⟨d24, F24, m24, b24⟩ := hLMill c X G
  have Gml : Cal P w K mg base 5 "_law_mill" pLMill (spMill K) := .mk F24 m24 b24 (ok_lmill F24 T Gtk Gpk (Gdr 2))
  obtain ⟨d25, F25, m25, b25⟩ := hLOffsetText c X G
  have Glo : Cal P w K mg base 1 "_law_offset_text" pLOffsetText spOff := .mk F25 m25 b25 (ok_loff F25 T)
  obtain ⟨d26, F26, m26, b26⟩ := hLText c X G
  have Glt := ok_ltext F26 T m26 b26 Glo
  obtain ⟨d27, F27, m27, b27⟩ := hLLoose c X G
  have Gll := ok_lloose F27 T m27 b27 Gtk Gpk (Glt 1)
  obtain ⟨d28, F28, m28, b28⟩ := hLSigns c X G
  have Gls : Cal P w K mg base 1 "_law_signs" pLSigns spSigns := .mk F28 m28 b28 (ok_lsigns F28 T)
  obtain ⟨d29, F29, m29, b29⟩ := hLNumber c X G
  have Gln : Cal P w K mg base 1 "_law_number" pLNumber spDigit := .mk F29 m29 b29 (ok_lnumber F29 T)
  obtain ⟨d30, F30, m30, b30⟩ := hLOffset c X G
  have Glf : Cal P w K mg base 2 "_law_offset" pLOffset spLOffset := .mk F30 m30 b30 (ok_loffset F30 T Gln)
  obtain ⟨d31, F31, m31, b31⟩ := hLSide c X G
  obtain ⟨d32, F32, m32, b32⟩ := hLSingle c X G
  obtain ⟨d33, F33, m33, b33⟩ := hLCall c X G
  have Ds : Dfn K mg "_law_side" sLSide pLSide := ⟨_, _, _, F31, m31, b31⟩
  have Gsd : CalR P w K mg base (Rm 251) "_law_side" pLSide (spLSide (fun ws => sideF ws 41) 0 0) := lside_tie T Ds (lsingle_tie T Ds ⟨_, _, _, F32, m32, b32⟩ ⟨_, _, _, F33, m33, b33⟩ Gln Glf 41 (Nat.le_refl _))
  obtain ⟨d34, F34, m34, b34⟩ := hLDeep c X G
  have Gdp := ok_ldeep (P := P) (w := w) (base := base) F34 T m34 b34 201
  obtain ⟨d35, F35, m35, b35⟩ := hLEquation c X G
  have Gle : CalR P w K mg base (Rm 252) "_law_equation" pLEquation spLEq := ⟨_, _, ok_lequation F35 T Gls Gsd Gdp, m35, b35, F35.kp⟩
  obtain ⟨d36, F36, m36, b36⟩ := hLIsWord c X G
  obtain ⟨d37, F37, m37, b37⟩ := hLRead c X G
  have Glr : CalR P w K mg base (Rm 253) "_law_read" pLRead spLRead := ⟨_, _, ok_lread F37 T (.mk F36 m36 b36 (ok_lisWord F36 T)) Gln Gle, m37, b37, F37.kp⟩
  obtain ⟨d38, F38, m38, b38⟩ := hLAlike c X G
  obtain ⟨d39, F39, m39, b39⟩ := hLToldBy c X G
  exact {
    T := T, taken := Gtk, pick := Gpk, term := Gdr 5, mill := Gml, text := Glt 5, loose := Gll 5, alike := ok_alike F38 T m38 b38 10, read := Glr, signs := Gls
    rm := ⟨_, _, Orm, m20, b20, F20.kp⟩
    wr := ⟨_, _, Owr, m11, b11, F11.kp⟩
    told := ⟨_, _, _, F39, m39, b39⟩
    mT := B.m, mW := W.m, xf := XF, nl := B.nl, eTT := e1, eWT := e2, eWW := e3
    TB := hT _ tf_law
    nin := hNin c }
end
theorem law_binds {K : PySem.W.Frag} {f c : Addr} {fd : FuncData} (F : FunC K "law" "law" sLaw f fd c) (s : Shared) (u : Value) : BindsTo s fd ⟨[u], []⟩ [("_law_script", u)] := by
  obtain ⟨oc, od, kV, doc, pm, an, ct, osl, rfl, lk, hcd⟩ := F.ex
  exact .of_eq rfl
/-- what is known of the law at the head's heap -/
theorem law_at {w : World} {K : PySem.W.Frag} {mg : Str → Option Value} {h : Heap} (c : He.SaysX fa fn [] tfs ex w h K) (X : K.In h) (G : h.Ns mainGlobals mg) {f : Addr} (hfa : mg ("law" : Str) = some (.ref f)) :
    LamX.LawAtS PySem.Challenge.rw_merelylate_k60_whole_texts w K L2.CX0 219 63 "_law_script" mg f h := by
  obtain ⟨fd, F, m, b⟩ := hLaw c X G
  have e := hfa.symm.trans m
  cases e
  refine ⟨fd, tfs.map (He.cT K), spLaw K (GTof K) (He.cT K ("law", none)).2 qLam, fun p hp => ?_, fun p hp => ?_, fun p hp => ?_, fun s u => ?_, fun H a ns hl _ ht hS => ?_, fun base _ _ hT => ?_⟩
  · obtain ⟨q, hq, rfl⟩ := List.mem_map.mp hp
    exact c.empty q hq
  · obtain ⟨q, hq, rfl⟩ := List.mem_map.mp hp
    exact c.out q hq
  · obtain ⟨q, hq, rfl⟩ := List.mem_map.mp hp
    exact PySem.W.codeHd_of_K X (c.hd q hq)
  · exact law_binds F s u
  · have ht' : ∀ q ∈ tfs, H (He.cT K q).2 = some (.tbl #[]) := fun q hq => ht _ (List.mem_map_of_mem hq)
    refine ⟨a, ns, rfl, hS, fun p hp => ?_, LamX.TabS.nil (ht' _ tf_law), fun _ => rfl⟩
    obtain ⟨q, hq, rfl⟩ := List.mem_map.mp hp
    exact ⟨#[], ht' q (.tail _ hq), True.intro⟩
  · exact ok_law (lawC c X G fun p hp => hT _ (List.mem_map_of_mem hp)) F
end ML
set_option maxHeartbeats 0
open PySem PySem.W PySem.Calls PyProof.Rows
theorem PySem.Challenge.cw_merelylate_k60_whole_texts_holds : PySem.Challenge.rw_merelylate_k60_whole_texts.Holds := by
  w_on; o_law
  refine HandSHeadRun.head_any (r := OpenLaw.row PySem.Challenge.rw_merelylate_k60_whole_texts) (q := view (OpenLaw.row PySem.Challenge.rw_merelylate_k60_whole_texts).prog [69]) (H := ML.hk) (ob := ML.ob) (M := 4000) (loose := ML.nms) (d := HandSHeadRun.topDef (OpenLaw.row PySem.Challenge.rw_merelylate_k60_whole_texts).prog 69) (kwd := []) ML.ob_eq
    (by kernel_rfl) (fun s => by kernel_rfl) ML.run (by kernel_rfl) (by kernel_rfl) (by kernel_rfl) (by rfl) (by first | assumption | decide +kernel) (by decide +kernel) ⟨rfl, rfl, rfl, rfl, rfl, by decide +kernel⟩ ?hw ?hc
  case hw => w_witness2
  case hc =>
    refine LamX.walk_ofTsE (l := PySem.Challenge.rw_merelylate_k60_whole_texts) (n := 63) (k := 219) (x := "_law_script") (CX := fun _ => L2.CX0) rfl (by decide) (by kernel_rfl) ⟨rfl, by decide, by decide⟩ ?F (fun _ _ _ _ _ z => z)
    intro w mg fa h Y G hmg0
    obtain ⟨K, KX, c⟩ := Y
    have hmg : mg ("law" : PySem.Str) = some (.ref fa) := by
      have e : (HandSHeadRun.topDef (OpenLaw.row PySem.Challenge.rw_merelylate_k60_whole_texts).prog 69).name = ("law" : PySem.Str) := by kernel_rfl
      rw [← e]
      exact hmg0
    exact ⟨K, KX, ML.law_at c KX G hmg⟩
