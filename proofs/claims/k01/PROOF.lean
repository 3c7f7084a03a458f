import PyProof.Rows.All
import Wide.All
import OpenK.AllK
import Wide.FinOn
import HandS.ForMost
import HandS.GenList
import HandS.EndTab
import HandS.AnyAll
import HandS.Wide
import HandS.TupAny
import HandS.IsInst
import HandS.Style
import HandS.Flow
import HandS.Rev
import HandS.Zip
import HandS.List
import KE.DataMinMax
import KE.DataEq
import PyProof.ReprRoads
import KE.KNest
import PyProof.ReprBulk
import PyProof.Rows.ReprShort
import PySem.Challenge.RW_wholelost_k01_whole_words_strewn_in_word
set_option Elab.async false
set_option linter.all false
set_option maxRecDepth 100000
set_option maxHeartbeats 2000001
/-! all(..), any(..) of a generator expression of one clause, over whatever PI walks; its test read by PE within the generator's own frame -/
namespace GX
open PySem PySem.Spec PyProof.Rows L2 GenW
open GxR (TabG Tabbed)

theorem over_cl (A : Around) (elt : Expr) (gs : List Comprehension) (sc : Scope) (p : Pos) (it : Value) (cenv : Env) :
    A.over (.compLoop (.GeneratorExp elt gs sc p) 0 it .none cenv) [] = A.deeper cenv := by
  cases A with
  | mk a b c d e => cases c <;> cases d <;> rfl
theorem over_cs (A : Around) (elt : Expr) (gs : List Comprehension) (sc : Scope) (p : Pos) (it : Value) (cenv : Env) :
    A.over (.compStart (.GeneratorExp elt gs sc p) 0 it .none cenv) [] = A.deeper cenv := by
  cases A with
  | mk a b c d e => cases c <;> cases d <;> rfl

/-- the generator's frame -/
abbrev gEnv (X : Cx) (scope : Scope) (C : Addr) (code : Value) (bi : Addr) : Env := genEnv scope (cloFrom X.env.cells scope.names []) C code bi X.env
/-- the context of the generator's body: begun at s, its iterator's objects at fp, its own object pinned -/
abbrev gCx (X : Cx) (s : Shared) (H : Hp) (scope : Scope) (C : Addr) (code : Value) (bi : Addr) (fp : List Addr) (pn : List (Addr × Obj)) : Cx :=
  { X with
    A := X.A.in1.in1.deeper (gEnv X scope C code bi)
    s_0 := s
    H_0 := H
    env := gEnv X scope C code bi
    outer := X.stack
    stack := gEnv X scope C code bi :: X.stack
    ex := fp
    fn := fun _ => false
    calm := true
    pn := pn
    xe := fun _ _ => False }
/-- the generator's scope: no name of it is captured further -/
structure GxS (scope : Scope) : Prop where
  co : scope.isCoroutine = false
  cell : ∀ y ∈ scope.names, y.2 ≠ .cell
  dot : scope.names.lookup (".0" : Str) = some NameKind.local
def gxsC (scope : Scope) : Bool := !scope.isCoroutine && (scope.names.all fun y => decide (y.2 ≠ .cell)) && decide (scope.names.lookup (".0" : Str) = some NameKind.local)
theorem gxs_by {scope : Scope} (h : gxsC scope = true) : GxS scope := by
  unfold gxsC at h
  simp only [Bool.and_eq_true, List.all_eq_true, decide_eq_true_eq, Bool.not_eq_true'] at h
  exact ⟨h.1.1, h.1.2, h.2⟩

section
variable {X : Cx} {pins : List (Addr × Obj)} {σ : L2.St} {H : Hp} {s : Shared}
/-- the frame laid, the generator's object behind it: the body may begin -/
theorem gx_begin {scope : Scope} {own : List (Str × Nat)} {fp : List Addr} {code : Value} {go : Obj} {h' : Heap} {g' : Array GenState} {d' : Drawn} {t' : Nat} (I : Inv X pins σ H s) (ok : BlkOk X.N X.env.scope scope own) (S : GxS scope) (hN : X.N.Nodup)
    (hd : X.A.handled = none) (hfp : ∀ b ∈ fp, FpOk X pins H b ∧ b < s.heap.objs.size)
    (hn : ∃ m, h'.Ns s.heap.objs.size m) (hk : ∀ b o, s.heap.get? b = some o → h'.get? b = some o) (hg : AllBare g') (hgo : h'.get? (s.heap.objs.size + 1) = some go) (hgd : ∀ v, go.data ≠ .cell v) :
    Inv (gCx X s H scope s.heap.objs.size code builtinsNs fp [(s.heap.objs.size + 1, go)]) [] (wipe σ (own.map (·.2))) H { s with heap := h', gens := g', drawn := d', toks := t' } := by
  have hfree : ∀ y ∈ scope.names, y.2 = .free → ∃ c, X.env.cells.lookup y.1 = some c := fun y hy e => by
    rcases ok.free y hy e with k | k
    · exact I.ok.has _ (.inl k)
    · exact I.ok.has _ (.inr k)
  generalize hce : gEnv X scope s.heap.objs.size code builtinsNs = cenv
  have hL : cenv.locals = s.heap.objs.size := by rw [← hce]; rfl
  have hcl : cenv.cells = cloFrom X.env.cells scope.names [] := by rw [← hce]; rfl
  have hsc : cenv.scope = scope := by rw [← hce]; rfl
  have hfr : cenv.frame = some cenv.locals := by rw [← hce]; rfl
  have cm : ∀ {y c}, cenv.cells.lookup y = some c → X.env.cells.lookup y = some c := fun {y c} e => by
    rw [hcl] at e
    rcases cloFrom_mem (PySem.mem_of_lookup e) with hm | ⟨h1, h2⟩
    · cases hm
    · obtain ⟨c1, hc⟩ := hfree _ h1 rfl
      have hc : X.env.cells.lookup y = some c1 := hc
      rw [hc] at h2
      rw [hc, h2] <;> rfl
  have look : ∀ {y}, scope.names.lookup y = some .free → ∃ c, cenv.cells.lookup y = some c := fun {y} hl => by
    rw [hcl]
    exact mem_lookup (cloFrom_has (cells := X.env.cells) (acc := []) (PySem.mem_of_lookup hl))
  have clt : ∀ {y c}, X.env.cells.lookup y = some c → c < s.heap.objs.size := fun {y c} e => by
    obtain ⟨w, z⟩ := I.cell _ _ e
    exact z.lt
  have stkn : ∀ b ∈ frs X.stack, b < s.heap.objs.size := fun b hb => by
    obtain ⟨_, o, ho, _⟩ := I.stack.mem hb
    exact Heap.lt_size ho
  obtain ⟨m, hn⟩ := hn
  have okG : (gCx X s H scope s.heap.objs.size code builtinsNs fp [(s.heap.objs.size + 1, go)]).Ok := by
    refine ⟨I.ok.mod, ok.kind, I.ok.glob, rfl, Nat.le_refl _, fun y z c e1 e2 => ?_, fun y hy => ?_, fun y c z _ => ?_, fun _ => hd, ?_, .inr ⟨rfl, rfl⟩, fun b hb => ⟨?_, fun y c e z => ?_⟩, I.bs, Nat.le_trans I.ok.bsz I.sz, fun b o e hb => ?_, fun b hb z => ?_, I.stack, I.stkFree⟩
    · have e1 : (gEnv X scope s.heap.objs.size code builtinsNs).cells.lookup y = some c := e1
      have e2 : (gEnv X scope s.heap.objs.size code builtinsNs).cells.lookup z = some c := e2
      rw [hce] at e1 e2
      exact I.ok.inj y z c (cm e1) (cm e2)
    · have hy : scope.names.lookup y = some .cell ∨ scope.names.lookup y = some .free := hy
      show ∃ c, (gEnv X scope s.heap.objs.size code builtinsNs).cells.lookup y = some c
      rw [hce]
      rcases hy with hy | hy
      · exact absurd rfl (S.cell _ (PySem.mem_of_lookup hy))
      · exact look hy
    · have z : false = true := z
      cases z
    · show Option.map _ X.A.frames = _
      rw [I.ok.frames]
      rfl
    · show b ≠ s.heap.objs.size
      exact Nat.ne_of_lt (hfp b hb).2
    · have e : (gEnv X scope s.heap.objs.size code builtinsNs).cells.lookup y = some c := e
      rw [hce] at e
      exact (hfp b hb).1.2.2.2.2.1 y c (cm e) z
    · rcases (hfp b hb).1.2.2.2.1 with z | z
      · exact I.ok.noex b o e z
      · exact absurd (Nat.lt_of_lt_of_le (Heap.lt_size e) (Nat.le_trans I.ok.bsz z)) (Nat.lt_irrefl _)
    · rcases List.mem_cons.mp (I.stkSub b z) with z | z
      · exact (hfp b hb).1.2.1 z
      · exact (hfp b hb).1.2.2.1 z
  refine ⟨okG, rfl, hg, Un.kept hk, ⟨m, hn, fun i y av e1 e2 e3 => ?_⟩, fun y c e => ?_, I.hok.fresh (Nat.le_refl _), fun y c e => ?_, fun p hp => ?_, I.hok.kept hk, by rw [wipe_length]; exact I.len⟩
  · obtain ⟨e2, hne⟩ := wipe_some e2
    have e3 : Vis scope y := e3
    have no : ∀ k, scope.names.lookup y = some k → k = .local → False := fun k hk hh => by
      rcases ok.own _ (PySem.mem_of_lookup hk) (.inl hh) with e' | e'
      · obtain ⟨p, hp, hpy⟩ := List.mem_map.mp e'
        have e4 := ok.ix p hp
        have q : p.1 = y := hpy
        rw [q] at e4
        exact hne (List.mem_map.mpr ⟨p, hp, nodup_ix hN e4 e1⟩)
      · exact e' (List.mem_of_getElem? e1)
    rcases e3 with k | k | k
    · exact (no _ k rfl).elim
    · exact absurd rfl (S.cell _ (PySem.mem_of_lookup k))
    · obtain ⟨c, h1⟩ := look k
      have h2 := cm h1
      have hvis : Vis X.env.scope y := (ok.free _ (PySem.mem_of_lookup k) rfl).elim (fun k => .inr (.inl k)) fun k => .inr (.inr k)
      obtain ⟨mm, hnn, hl⟩ := I.loc
      obtain ⟨w, r, q⟩ := hl i y av e1 e2 hvis
      refine ⟨w, r, .inr ⟨.inr k, c, by rw [← hce] at h1; exact h1, ?_⟩⟩
      rcases q with ⟨k', _⟩ | ⟨_, c', e', z⟩
      · have k' : X.env.scope.names.lookup y = some .local := k'
        rcases ok.free _ (PySem.mem_of_lookup k) rfl with k2 | k2
        · have k2 : X.env.scope.names.lookup y = some .cell := k2
          rw [k2] at k'
          cases k'
        · have k2 : X.env.scope.names.lookup y = some .free := k2
          rw [k2] at k'
          cases k'
      · rw [h2] at e'
        cases e'
        exact z.keeps hk
  · have e : (gEnv X scope s.heap.objs.size code builtinsNs).cells.lookup y = some c := e
    rw [hce] at e
    obtain ⟨w, z⟩ := I.cell y c (cm e)
    exact ⟨w, z.keeps hk⟩
  · have e : (gEnv X scope s.heap.objs.size code builtinsNs).cells.lookup y = some c := e
    rw [hce] at e
    exact I.freeC y c (cm e)
  · have hp : p ∈ [(s.heap.objs.size + 1, go)] := by simpa using hp
    rw [List.mem_singleton.mp hp]
    refine ⟨hgo, I.hok.fresh (Nat.le_succ _), ?_, fun hb => ?_, hgd⟩
    · show s.heap.objs.size + 1 ≠ s.heap.objs.size
      exact Nat.succ_ne_self _
    · have h1 := stkn _ hb
      exact absurd (Nat.lt_of_succ_lt h1) (Nat.lt_irrefl _)
end

/-- what a turn asks: sv is what the first such test ends with -/
def gTurn (sv : Bool) (J : It) (g : TG) (tt : TT) (te : TE) (vs : List Nat) (σ : L2.St) (Q : VK) (W : Nat → Nat → Hp → Prop) (i m : Nat) (H : Hp) : Prop :=
  (J.stop i H ∧ Q (.bl (!sv)) H) ∨ (J.go i H ∧ ∃ Nx : Hp → Prop, (∀ H', Nx H' → ∃ m', m' < m ∧ W (i + 1) m' H') ∧
    ∀ x H', J.yld i H x H' → g x (wipe σ vs) H' fun σ2 H2 => wipe σ2 vs = wipe σ vs ∧ tt σ2 H2 fun b H3 =>
      if b = true then te σ2 H3 fun y H4 => ∃ c, y = .bl c ∧ if c = sv then Q (.bl sv) H4 else Nx H4 else Nx H3)
/-- any (sv true), all (sv false); the def's table at P may grow -/
def tGx (sv : Bool) (P : Addr) (wi : TI) (g : TG) (tt : TT) (te : TE) (vs : List Nat) : TE := fun σ H Q => wi σ H fun J H1 => TabG H1 P ∧ ∀ H2, Tabbed P H1 H2 →
  ∃ W : Nat → Nat → Hp → Prop, (∃ m, W 0 m H2) ∧ ∀ i m H, W i m H → gTurn sv J g tt te vs σ Q W i m H

/-- the body's end; what is handed out -/
def gEnd (XG : Cx) (Q : VK) (sv : Bool) (s1 : Shared) : Prop := ∃ σ' H', Inv XG [] σ' H' s1 ∧ Q (.bl (!sv)) H'
def gR (XG : Cx) (Q : VK) (sv : Bool) : GenEnd := fun _ _ r s1 => ((r = .ok (.ret .none) ∨ r = .ok .next) ∧ gEnd XG Q sv s1) ∨ ∃ e, r = .error e ∧ (fun (_ : Value) (_ : Shared) => False) e s1
def gY (XG : Cx) (Q : VK) (sv : Bool) : Protocol := fun _ _ v s1 kap => ∃ c, v = .bool c ∧ (∃ σ' H', Inv XG [] σ' H' s1 ∧ (c = sv → Q (.bl sv) H')) ∧ (c ≠ sv → ∀ g', AllBare g' → kap (.send .none) { s1 with gens := g' })

theorem inv_gens {X : Cx} {pins : List (Addr × Obj)} {σ : L2.St} {H : Hp} {s : Shared} {g' : Array GenState} (I : Inv X pins σ H s) (hg : AllBare g') : Inv X pins σ H { s with gens := g' } :=
  I.call (g' := g') (t' := s.toks) (d' := s.drawn) (h' := s.heap) (ch := []) Un.refl I.hok hg fun _ z => by cases z
theorem inv_wipe {X : Cx} {pins : List (Addr × Obj)} {σ : L2.St} {H : Hp} {s : Shared} (vs : List Nat) (I : Inv X pins σ H s) : Inv X pins (wipe σ vs) H s :=
  I.weak (wipe_length σ vs) fun _ _ e => (wipe_some e).1

section
variable {X : Cx} {σ : L2.St} {s0 : Shared} {H0 : Hp}
theorem gx_loop {scope : Scope} {C : Addr} {code : Value} {bi : Addr} {fp : List Addr} {pn : List (Addr × Obj)} {tg elt iter : Expr} {ifs : List Expr} {gpos : Pos} {it : Addr} {tn : Nat → Heap → Prop} {J : It} {g : TG} {tt : TT} {te : TE} {vs : List Nat} {sv : Bool} {Q : VK} {W : Nat → Nat → Hp → Prop}
    (S : GxS scope) (T : Turn X.prog X.w X.K tg J fp it tn) (hg : PG (gCx X s0 H0 scope C code bi fp pn) tg g) (ht : PTs (gCx X s0 H0 scope C code bi fp pn) ifs tt) (he : PE (gCx X s0 H0 scope C code bi fp pn) elt te)
    (hst : ∀ b ∈ fp, b ≠ C ∧ b ∉ frs X.stack ∧ (∀ y c, (gEnv X scope C code bi).cells.lookup y = some c → c ≠ b) ∧ ∀ p ∈ pn, p.1 ≠ b)
    (turn : ∀ i m H, W i m H → gTurn sv J g tt te vs σ Q W i m H) :
    ∀ (m n i : Nat) (s₀ s : Shared) (H : Hp), m < n → W i m H → Inv (gCx X s0 H0 scope C code bi fp pn) [] (wipe σ vs) H s → tn i s.heap → (∀ b ∈ fp, H b = none) →
      Seg (model X.prog X.w) X.A.in1.in1 (gR (gCx X s0 H0 scope C code bi fp pn) Q sv) (gY (gCx X s0 H0 scope C code bi fp pn) Q sv) n s₀ (.compLoop (.GeneratorExp elt [⟨tg, iter, ifs, 0⟩] scope gpos) 0 (.ref it) .none (gEnv X scope C code bi))
        ((model X.prog X.w).den (.compLoop (.GeneratorExp elt [⟨tg, iter, ifs, 0⟩] scope gpos) 0 (.ref it) .none (gEnv X scope C code bi))) [] s := by
  intro m
  induction m using Nat.strongRecOn with
  | ind m ih =>
    intro n i s₀ s H hmn hW I st fr
    have fpok : ∀ {pins : List (Addr × Obj)} {H : Hp}, (∀ b ∈ fp, H b = none) → (∀ p ∈ pins, p.1 ∉ fp) → ∀ b ∈ fp, FpOk (gCx X s0 H0 scope C code bi fp pn) pins H b := fun {pins H} hf hp b hb => by
      obtain ⟨q1, q2, q3, q4⟩ := hst b hb
      refine ⟨hf b hb, q1, q2, .inl hb, q3, fun p h => ?_⟩
      rcases List.mem_append.mp h with h | h
      · exact q4 p h
      · exact fun z => hp p h (by rw [z]; exact hb)
    show Seg _ _ _ _ n s₀ _ ((compTurn (.GeneratorExp elt [⟨tg, iter, ifs, 0⟩] scope gpos) 0 (.ref it) .none (gEnv X scope C code bi)).onRaise (leaving (gEnv X scope C code bi))) [] s
    rw [compTurn_gen, Sem.onRaise_eq_wrap]
    refine seg_bind_wrap (wpAny_standAt ?_)
    rcases turn i m H hW with ⟨stop, q⟩ | ⟨go, Nx, hN, step⟩
    · refine seg_bind_wrap ?_
      rw [over_cl]
      refine wpAny_mono (T.done (gCx X s0 H0 scope C code bi fp pn) rfl rfl rfl rfl i [] s _ H (fun _ _ => False) I (fpok fr (fun _ z => by cases z)) st stop) (fun r s4 hr => ?_) fun _ _ z => z.elim
      obtain ⟨hr, I4⟩ := hr
      subst hr
      exact seg_end (.ok .next) (.inl ⟨.inr rfl, _, H, I4, q⟩)
    · refine seg_bind_wrap ?_
      rw [over_cl]
      refine wpAny_mono (T.item (gCx X s0 H0 scope C code bi fp pn) rfl rfl rfl rfl i [] s _ H (fun _ _ => False) I (fpok fr (fun _ z => by cases z)) st go) (fun r s1 hr => ?_) fun _ _ z => z.elim
      obtain ⟨u, hr, h1⟩ := hr
      subst hr
      refine seg_bind_wrap ?_
      rw [over_cl]
      refine wpAny_mono h1 (fun _ s2 h2 => ?_) fun _ _ z => z.elim
      obtain ⟨x, H2, I2, rx, y2, st2, fr2⟩ := h2
      have I2' := I2.pinned (fpok fr2 (fun _ z => by cases z)) (T.obj _ _ st2)
      refine seg_bind_wrap ?_
      rw [over_cl]
      refine wpAny_mono (hg.run _ s2 _ H2 x u _ I2' rx (step x H2 y2)) (fun _ s3 h3 => ?_) fun _ _ z => False.elim z
      obtain ⟨σ3, H3, I3, ew, q3⟩ := h3
      have back : ∀ {σ4 : L2.St} {H4 : Hp} {s4 : Shared}, Inv (gCx X s0 H0 scope C code bi fp pn) ([] ++ pinsAt fp s2.heap) σ4 H4 s4 → tn (i + 1) s4.heap ∧ ∀ b ∈ fp, H4 b = none := fun {σ4 H4 s4} I4 => by
        refine ⟨T.keep _ _ _ st2 fun b hb o e => (I4.pin (b, o) (List.mem_append_right _ (List.mem_append_right _ (mem_pinsAt hb e)))).1, fun b hb => ?_⟩
        obtain ⟨o, e, d⟩ := T.obj _ _ st2 b hb
        exact (I4.pin (b, o) (List.mem_append_right _ (List.mem_append_right _ (mem_pinsAt hb e)))).2.1
      refine seg_bind_wrap ?_
      rw [over_cl]
      refine wpAny_mono (ht.run _ s3 σ3 H3 _ I3 q3) (fun b s4 h4 => ?_) fun _ _ z => False.elim z
      obtain ⟨H4, I4, q4⟩ := h4
      cases b with
      | false =>
        obtain ⟨m', hm', hW'⟩ := hN H4 q4
        obtain ⟨st4, fr4⟩ := back I4
        simp only [Bool.false_eq_true, if_false]
        have I5 := inv_wipe vs I4.unpinned
        rw [ew] at I5
        exact seg_again rfl (ih m' hm' n (i + 1) s₀ s4 H4 (by omega) hW' I5 st4 fr4)
      | true =>
        rw [if_pos rfl] at q4
        simp only [if_true]
        have hy : ∀ v, yieldOut (gEnv X scope C code bi) v = yieldValue v := fun v => by
          show (if scope.isCoroutine = true then _ else _) = _
          rw [S.co]
          rfl
        simp only [hy]
        rw [Sem.bind_eq_wrap', Sem.bind_eq_wrap', Sem.wrap_wrap, Sem.wrap_wrap]
        refine seg_wrap ?_
        rw [over_cl]
        refine wpAny_mono (he.run _ s4 σ3 H4 _ I4 q4) (fun v s5 h5 => ?_) fun _ _ z => False.elim z
        obtain ⟨y, H5, I5, ry, c, rfl, q5⟩ := h5
        obtain rfl : v = Value.bool c := ry
        obtain ⟨n, rfl⟩ : ∃ k, n = k + 1 := ⟨n - 1, by omega⟩
        obtain ⟨st5, fr5⟩ := back I5
        have I6 := inv_wipe vs I5.unpinned
        rw [ew] at I6
        refine seg_at (seg_yield rfl rfl rfl ⟨c, rfl, ⟨_, H5, I6, fun hc => ?_⟩, fun hc g' hb => ?_⟩)
        · rw [if_pos hc] at q5
          exact q5
        · rw [if_neg hc] at q5
          obtain ⟨m', hm', hW'⟩ := hN H5 q5
          exact seg_again rfl (ih m' hm' n (i + 1) _ _ H5 (by omega) hW' (inv_gens I6 hb) st5 fr5)
theorem gx_start {scope : Scope} {C : Addr} {code : Value} {bi : Addr} {fp : List Addr} {pn : List (Addr × Obj)} {tg elt iter : Expr} {ifs : List Expr} {gpos : Pos} {it : Addr} {tn : Nat → Heap → Prop} {J : It} {g : TG} {tt : TT} {te : TE} {vs : List Nat} {sv : Bool} {Q : VK} {W : Nat → Nat → Hp → Prop}
    (S : GxS scope) (T : Turn X.prog X.w X.K tg J fp it tn) (hg : PG (gCx X s0 H0 scope C code bi fp pn) tg g) (ht : PTs (gCx X s0 H0 scope C code bi fp pn) ifs tt) (he : PE (gCx X s0 H0 scope C code bi fp pn) elt te)
    (hst : ∀ b ∈ fp, b ≠ C ∧ b ∉ frs X.stack ∧ (∀ y c, (gEnv X scope C code bi).cells.lookup y = some c → c ≠ b) ∧ ∀ p ∈ pn, p.1 ≠ b)
    (turn : ∀ i m H, W i m H → gTurn sv J g tt te vs σ Q W i m H) (m : Nat) (s₀ s : Shared) (H : Hp) (hW : W 0 m H) (I : Inv (gCx X s0 H0 scope C code bi fp pn) [] (wipe σ vs) H s) (st : tn 0 s.heap) (fr : ∀ b ∈ fp, H b = none) :
      Seg (model X.prog X.w) X.A.in1.in1 (gR (gCx X s0 H0 scope C code bi fp pn) Q sv) (gY (gCx X s0 H0 scope C code bi fp pn) Q sv) (m + 1) s₀ (.compStart (.GeneratorExp elt [⟨tg, iter, ifs, 0⟩] scope gpos) 0 (.ref it) .none (gEnv X scope C code bi))
        ((model X.prog X.w).den (.compStart (.GeneratorExp elt [⟨tg, iter, ifs, 0⟩] scope gpos) 0 (.ref it) .none (gEnv X scope C code bi))) [] s := by
  have loop := gx_loop (iter := iter) (gpos := gpos) S T hg ht he hst turn m (m + 1) 0 s₀ s H (Nat.lt_succ_self m) hW I st fr
  show Seg _ _ _ _ _ s₀ _ ((compStart (.GeneratorExp elt [⟨tg, iter, ifs, 0⟩] scope gpos) 0 (.ref it) .none (gEnv X scope C code bi)).onRaise (leaving (gEnv X scope C code bi))) [] s
  unfold compStart
  rw [Sem.onRaise_eq_wrap]
  show Seg _ _ _ _ _ s₀ _ ((ask >>= _).wrap _ _ _ _) [] s
  refine seg_bind_wrap (wpAny_askSetting ?_)
  split
  · exact seg_again rfl loop
  · refine seg_bind_wrap (wpAny_rule ?_)
    show Seg _ _ _ _ _ s₀ _ ((standAt iter.pos >>= _).wrap _ _ _ _) [] s
    refine seg_bind_wrap (wpAny_standAt (seg_bind_wrap (T.self _ 0 s _ _ st ?_)))
    exact seg_again rfl loop
end

/-- the built-in's loop over the generator at a -/
theorem gx_drain {P : Program} {w : World} {A : Around} {XG : Cx} {Q : VK} {sv : Bool} {R : Result → Shared → Prop} {a : Addr} {gi : Nat} {nm : String}
    (hnm : (sv = true ∧ nm = "any.loop") ∨ (sv = false ∧ nm = "all.loop")) (hh : A.handled = none) (hd : A.depth < recursionLimit)
    (hgen : ∀ {σ H s}, Inv XG [] σ H s → s.heap.IsGen a gi ∧ s.heap.NoLimit)
    (hstop : ∀ s1 g' σ H, Inv XG [] σ H s1 → AllBare g' → Q (.bl sv) H → R (.ok (.ret (.bool sv))) { s1 with gens := g' })
    (hend : ∀ s1 h' g' σ H, Inv XG [] σ H s1 → (∀ b o, s1.heap.get? b = some o → h'.get? b = some o) → AllBare g' → Q (.bl (!sv)) H → R (.ok (.ret (.bool (!sv)))) { s1 with gens := g', heap := h' }) :
    ∀ (n : Nat) (s : Shared), s.heap.IsGen a gi → s.heap.NoLimit → (∃ gs, s.gens[gi]? = some gs ∧ gs.Goes (model P w) A.in1.in1 (gR XG Q sv) (gY XG Q sv) n (.send .none) (s.setGen gi .running)) →
      codeAny (model P w) A (.builtin nm ⟨[.ref a], []⟩) R s := by
  intro n
  induction n with
  | zero =>
    intro s hg hl ⟨gs, hgs, hgo⟩
    have hgl : gi < s.gens.size := (Array.getElem?_eq_some_iff.mp hgs).1
    have nxt : ∀ {Q1 : Option Value → Shared → Prop} {E1 : Value → Shared → Prop}, (∀ s1 g', AllBare g' → (∃ σ' H', Inv XG [] σ' H' s1 ∧ Q (.bl sv) H') → Q1 (some (.bool sv)) { s1 with gens := g' }) →
        (∀ s1 h' g', gEnd XG Q sv s1 → AllBare g' → (∀ b o, s1.heap.get? b = some o → h'.get? b = some o) → Q1 none { s1 with gens := g', heap := h' }) → wpAny (model P w) A.in1 (pyNext (.ref a)) Q1 E1 s := fun {Q1 E1} k1 k2 => by
      refine next_genG (A := A.in1) (F := fun _ _ s1 => gEnd XG Q sv s1) (Er := fun _ _ => False) (Y := gY XG Q sv) hh hl hd hg hgs hgo (fun v s1 gs' hb hv => ?_) (fun s1 hp h' hk => ?_) (fun _ _ z => z.elim)
      · obtain ⟨c, rfl, ⟨σ', H', I, q⟩, kk⟩ := hv
        by_cases hc : c = sv
        · subst hc
          exact k1 s1 _ (allBare_setGen I.bare hb) ⟨σ', H', I, q rfl⟩
        · exact (kk hc s1.gens I.bare).elim
      · obtain ⟨σ', H', I, q⟩ := id hp
        exact k2 s1 h' _ hp (allBare_setGen (s := s1) I.bare rfl) hk
    rcases hnm with ⟨e1, e2⟩ | ⟨e1, e2⟩
    · subst e1 e2
      refine codeAny_builtin F.entry_any_loop ?_
      rw [Around.under_plainId F.plain_any_loop _]
      show wpAny _ A.in1 (pyNext (.ref a) >>= _) _ _ s
      refine wpAny_bind (nxt (fun s1 g' hb ⟨σ', H', I, q⟩ => ?_) (fun s1 h' g' ⟨σ', H', I, q⟩ hb hk => ?_))
      · refine wpAny_bind (wpAny_holding (wpAny_truthy_bool ?_))
        refine wpAny_bind (wpAny_letGo ?_)
        simp only [if_true]
        exact wpAny_bind (wpAny_rule (wpAny_pure (hstop s1 g' σ' H' I hb q)))
      · exact wpAny_bind (wpAny_rule (wpAny_pure (hend s1 h' g' σ' H' I hk hb q)))
    · subst e1 e2
      refine codeAny_builtin F.entry_all_loop ?_
      rw [Around.under_plainId F.plain_all_loop _]
      show wpAny _ A.in1 (pyNext (.ref a) >>= _) _ _ s
      refine wpAny_bind (nxt (fun s1 g' hb ⟨σ', H', I, q⟩ => ?_) (fun s1 h' g' ⟨σ', H', I, q⟩ hb hk => ?_))
      · refine wpAny_bind (wpAny_holding (wpAny_truthy_bool ?_))
        refine wpAny_bind (wpAny_letGo ?_)
        simp only [Bool.false_eq_true, if_false]
        exact wpAny_bind (wpAny_rule (wpAny_pure (hstop s1 g' σ' H' I hb q)))
      · exact wpAny_bind (wpAny_rule (wpAny_pure (hend s1 h' g' σ' H' I hk hb q)))
  | succ n ih =>
    intro s hg hl ⟨gs, hgs, hgo⟩
    have hgl : gi < s.gens.size := (Array.getElem?_eq_some_iff.mp hgs).1
    have nxt : ∀ {Q1 : Option Value → Shared → Prop} {E1 : Value → Shared → Prop}, (∀ s1 g', AllBare g' → (∃ σ' H', Inv XG [] σ' H' s1 ∧ Q (.bl sv) H') → Q1 (some (.bool sv)) { s1 with gens := g' }) →
        (∀ s1 g' c, c ≠ sv → AllBare g' → (∃ σ' H', Inv XG [] σ' H' s1) → (∃ gs, g'[gi]? = some gs ∧ gs.Goes (model P w) A.in1.in1 (gR XG Q sv) (gY XG Q sv) n (.send .none) (({ s1 with gens := g' } : Shared).setGen gi .running)) → Q1 (some (.bool c)) { s1 with gens := g' }) →
        (∀ s1 h' g', gEnd XG Q sv s1 → AllBare g' → (∀ b o, s1.heap.get? b = some o → h'.get? b = some o) → Q1 none { s1 with gens := g', heap := h' }) → wpAny (model P w) A.in1 (pyNext (.ref a)) Q1 E1 s := fun {Q1 E1} k1 k3 k2 => by
      refine wpAny_gsz (n := gi + 1) hgl (next_genG (A := A.in1) (F := fun _ _ s1 => gEnd XG Q sv s1) (Er := fun _ _ => False) (Y := gY XG Q sv) hh hl hd hg hgs hgo (fun v s1 gs' hb hv => ?_) (fun s1 hp h' hk => ?_) (fun _ _ z => z.elim))
      · intro hsz
        obtain ⟨c, rfl, ⟨σ', H', I, q⟩, kk⟩ := hv
        have hsz' : gi < s1.gens.size := by
          have q : (s1.setGen gi gs').gens.size = s1.gens.size := setGen_size _ _ _
          have h2 : gi + 1 ≤ (s1.setGen gi gs').gens.size := hsz
          omega
        by_cases hc : c = sv
        · subst hc
          exact k1 s1 _ (allBare_setGen I.bare hb) ⟨σ', H', I, q rfl⟩
        · exact k3 s1 _ c hc (allBare_setGen I.bare hb) ⟨σ', H', I⟩ ⟨gs', setGen_at hsz', kk hc _ (allBare_setGen (s := s1.setGen gi gs') (allBare_setGen I.bare hb) rfl)⟩
      · intro _
        obtain ⟨σ', H', I, q⟩ := id hp
        exact k2 s1 h' _ hp (allBare_setGen (s := s1) I.bare rfl) hk
    rcases hnm with ⟨e1, e2⟩ | ⟨e1, e2⟩
    · subst e1 e2
      refine codeAny_builtin F.entry_any_loop ?_
      rw [Around.under_plainId F.plain_any_loop _]
      show wpAny _ A.in1 (pyNext (.ref a) >>= _) _ _ s
      refine wpAny_bind (nxt (fun s1 g' hb ⟨σ', H', I, q⟩ => ?_) (fun s1 g' c hc hb ⟨σ', H', I⟩ go => ?_) (fun s1 h' g' ⟨σ', H', I, q⟩ hb hk => ?_))
      · refine wpAny_bind (wpAny_holding (wpAny_truthy_bool ?_))
        refine wpAny_bind (wpAny_letGo ?_)
        simp only [if_true]
        exact wpAny_bind (wpAny_rule (wpAny_pure (hstop s1 g' σ' H' I hb q)))
      · obtain rfl : c = false := by cases c <;> first | rfl | exact absurd rfl hc
        refine wpAny_bind (wpAny_holding (wpAny_truthy_bool ?_))
        refine wpAny_bind (wpAny_letGo ?_)
        simp only [Bool.false_eq_true, if_false]
        obtain ⟨q1, q2⟩ := hgen I
        exact wpAny_pure ⟨plainId_quiet F.plain_any_loop _, ih _ q1 q2 go⟩
      · exact wpAny_bind (wpAny_rule (wpAny_pure (hend s1 h' g' σ' H' I hk hb q)))
    · subst e1 e2
      refine codeAny_builtin F.entry_all_loop ?_
      rw [Around.under_plainId F.plain_all_loop _]
      show wpAny _ A.in1 (pyNext (.ref a) >>= _) _ _ s
      refine wpAny_bind (nxt (fun s1 g' hb ⟨σ', H', I, q⟩ => ?_) (fun s1 g' c hc hb ⟨σ', H', I⟩ go => ?_) (fun s1 h' g' ⟨σ', H', I, q⟩ hb hk => ?_))
      · refine wpAny_bind (wpAny_holding (wpAny_truthy_bool ?_))
        refine wpAny_bind (wpAny_letGo ?_)
        simp only [Bool.false_eq_true, if_false]
        exact wpAny_bind (wpAny_rule (wpAny_pure (hstop s1 g' σ' H' I hb q)))
      · obtain rfl : c = true := by cases c <;> first | rfl | exact absurd rfl hc
        refine wpAny_bind (wpAny_holding (wpAny_truthy_bool ?_))
        refine wpAny_bind (wpAny_letGo ?_)
        simp only [if_true]
        obtain ⟨q1, q2⟩ := hgen I
        exact wpAny_pure ⟨plainId_quiet F.plain_all_loop _, ih _ q1 q2 go⟩
      · exact wpAny_bind (wpAny_rule (wpAny_pure (hend s1 h' g' σ' H' I hk hb q)))

section
variable {X : Cx}
theorem pe_gx {c P : Addr} {elt tg iter : Expr} {ifs : List Expr} {nm : Str} {sv : Bool} {p pos gpos : Pos} {scope : Scope} {own : List (Str × Nat)} {wi : TI} {g : TG} {tt : TT} {te : TE} {k : Nat}
    (hnm : (sv = true ∧ nm = "any") ∨ (sv = false ∧ nm = "all")) (hr : Room k X.A) (hgl : Gl X nm) (hm : X.mg nm = none) (TB : LamX.TabB X.base X.mg c P) (hcode : X.env.code = .ref c) (hN : X.N.Nodup) (ok : BlkOk X.N X.env.scope scope own) (S : GxS scope) (hi : PI X tg iter wi)
    (hg : ∀ (s : Shared) (H : Hp) (C : Addr) (code : Value) (bi : Addr) (fp : List Addr) (pn : List (Addr × Obj)), PG (gCx X s H scope C code bi fp pn) tg g)
    (ht : ∀ (s : Shared) (H : Hp) (C : Addr) (code : Value) (bi : Addr) (fp : List Addr) (pn : List (Addr × Obj)), PTs (gCx X s H scope C code bi fp pn) ifs tt)
    (he : ∀ (s : Shared) (H : Hp) (C : Addr) (code : Value) (bi : Addr) (fp : List Addr) (pn : List (Addr × Obj)), PE (gCx X s H scope C code bi fp pn) elt te)
    (hs : ∀ v, genFold iter X.env v = pure v := by intro _; rfl)
    (hst : starEach [.GeneratorExp elt [⟨tg, iter, ifs, 0⟩] scope gpos] X.env = (false, eval (.GeneratorExp elt [⟨tg, iter, ifs, 0⟩] scope gpos) X.env) :: starEach [] X.env := by rfl) :
    PE X (.Call (.Name nm p) [.GeneratorExp elt [⟨tg, iter, ifs, 0⟩] scope gpos] [] pos) (tGx sv P wi g tt te (own.map (·.2))) := by
  refine ⟨fun pins s σ H Q I h => ?_⟩
  have hbn : bootBuiltins nm = some (.builtin (if sv = true then "any" else "all")) ∧ nm ≠ "__name__" ∧ (nm == ("__debug__" : Str)) = false := by
    rcases hnm with ⟨e1, e2⟩ | ⟨e1, e2⟩
    · subst e1 e2
      exact ⟨by decide +kernel, by decide, by decide⟩
    · subst e1 e2
      exact ⟨by decide +kernel, by decide, by decide⟩
  refine wpAny_Call_Name_kw (ld_blt I hgl hm hbn.1 ?_ hbn.2.1 hbn.2.2)
  refine PyProof.Rows.callWith_builtin1 ?_ hst (by rfl)
  rw [hst]
  show wpAny _ _ (spliced ((false, eval (.GeneratorExp elt [⟨tg, iter, ifs, 0⟩] scope gpos) X.env) :: backTo pos (starEach [] X.env))) _ _ s
  have hfree : ∀ y ∈ scope.names, y.2 = .free → ∃ c, X.env.cells.lookup y.1 = some c := fun y hy e => by
    rcases ok.free y hy e with k | k
    · exact I.ok.has _ (.inl k)
    · exact I.ok.has _ (.inr k)
  refine Calls.spliced_cons (wpAny_GeneratorExp_make S.co (closure_ok hfree) S.cell S.dot ok.kind (by have := hr.dp; omega) ?_ hs)
  refine thn (hi.run pins s σ H _ I h) fun xv s1 h1 => ?_
  refine thn h1 fun itv s2 h2 => ?_
  obtain ⟨it, fp, tn, J, H2, rfl, I2, T, st2, f2, ⟨ps, hP, htr⟩, q⟩ := h2
  refine ⟨I2.nolimit, ?_⟩
  have hPs : s2.heap.get? P = some { cls := .none, data := .fields ps } := I2.hok P _ hP
  have cd : PySem.W.CodeHd s2.heap c P := TB.code.keeps I2.bk
  obtain ⟨bm, ob, e1, e2, e3, e4, e5, e6, e7, e8⟩ := TB.bm
  have hfpP : ∀ b ∈ fp, b ≠ P := fun b hb z => by
    have h9 := (f2 b hb).1
    rw [z, hP] at h9
    cases h9
  have cont : ∀ (code : Value) (h3 : Heap) (tk : Nat) (ps' : Array Value), Heap.ExtBut P s2.heap h3 → s2.heap.objs.size ≤ h3.objs.size → h3.get? P = some { cls := .none, data := .fields ps' } → (∃ more, ps' = ps ++ more) → TriplesOk ps'.toList →
      wpAny (model X.prog X.w) X.A (builtinsFor X.env.globals X.env.builtins) (fun bi s₄ =>
        ∀ h', h'.Ns s₄.heap.objs.size (fun y => if y = ".0" then some (Value.ref it) else none) → Heap.SameBut s₄.heap.objs.size (s₄.heap.push { cls := .type "frame", data := .dict #[] }) h' →
          wpAny (model X.prog X.w) X.A (spliced (backTo pos (starEach [] X.env))) (fun us s5 => wpAny (model X.prog X.w) X.A (call (.builtin (if sv = true then "any" else "all")) (Value.ref h'.objs.size :: us)) (EP X pins σ Q) X.xe s5) X.xe { s₄ with
            gens := s₄.gens.push (.fresh (.compStart (.GeneratorExp elt [⟨tg, iter, ifs, 0⟩] scope gpos) 0 (.ref it) .none (genEnv scope (cloFrom X.env.cells scope.names []) s₄.heap.objs.size code bi X.env))),
            toks := s₄.toks + 1 + 1 + 1,
            heap := h'.push { cls := .type "generator", data := .fields #[.int s₄.gens.size 0, .str "<genexpr>" (s₄.toks + 1), .str (X.env.qual ++ "<genexpr>") (s₄.toks + 1 + 1)] } }) X.xe { s2 with heap := h3, toks := tk } := by
    intro code h3 tk ps' hx hsz hP3 hmore ht3
    obtain ⟨more, hmore⟩ := hmore
    subst hmore
    -- the table has grown
    have I3 : Inv X pins σ (upd H2 P (.tbl (ps ++ more))) { s2 with heap := h3, gens := s2.gens, drawn := s2.drawn, toks := tk } :=
      GxR.inv_tab (more := more) I2 hP (fun b o hb e => hx b o hb e) hP3 I2.bare
    refine wpAny_builtinsFor (m := X.mg) (by rw [I.ok.glob]; exact I3.mod.glob.keeps I3.bk) e1 e2 (I3.bk _ _ e5) e6 e7 e8 ?_
    intro h' hns hsb
    have hsz' : h'.objs.size = h3.objs.size + 1 := by rw [hsb.1, Heap.size_push]
    have kh : ∀ b o, h3.get? b = some o → h'.get? b = some o := fun b o e => (hsb.2 b (Nat.ne_of_lt (Heap.lt_size e))).trans (Heap.get?_push_of_some _ e)
    -- the generator's object
    have main : ∀ (go : Obj) (nmv qn : Value) (tk2 : Nat), go.cls = .type "generator" → go.data = .fields #[.int s2.gens.size 0, nmv, qn] → go.slots = #[] → (∀ h : Heap, (h.push go).get? h.objs.size = some go) →
        wpAny (model X.prog X.w) X.A (spliced (backTo pos (starEach [] X.env))) (fun us s5 => wpAny (model X.prog X.w) X.A (call (.builtin (if sv = true then "any" else "all")) (Value.ref h'.objs.size :: us)) (EP X pins σ Q) X.xe s5) X.xe
          { s2 with gens := s2.gens.push (.fresh (.compStart (.GeneratorExp elt [⟨tg, iter, ifs, 0⟩] scope gpos) 0 (.ref it) .none (gEnv X scope h3.objs.size code builtinsNs))), toks := tk2, heap := h'.push go } := by
      intro go nmv qn tk2 hgc hgd0 hgs hgp
      have hgd : ∀ v, go.data ≠ .cell v := fun v q => by rw [hgd0] at q; cases q
      have kh2 : ∀ b o, h3.get? b = some o → (h'.push go).get? b = some o := fun b o e => Heap.get?_push_of_some _ (kh b o e)
      have hgo : (h'.push go).get? (h3.objs.size + 1) = some go := by rw [← hsz']; exact hgp h'
      have fpH : ∀ b ∈ fp, (upd H2 P (.tbl (ps ++ more))) b = none := fun b hb => by rw [upd_ne (hfpP b hb)]; exact (f2 b hb).1
      have f3 : ∀ b ∈ fp, FpOk X pins (upd H2 P (.tbl (ps ++ more))) b ∧ b < h3.objs.size := fun b hb => by
        obtain ⟨o, eo, _⟩ := T.obj _ _ st2 b hb
        exact ⟨⟨fpH b hb, (f2 b hb).2⟩, Heap.lt_size (hx b o (hfpP b hb) eo)⟩
      have bare' : AllBare (s2.gens.push (.fresh (.compStart (.GeneratorExp elt [⟨tg, iter, ifs, 0⟩] scope gpos) 0 (.ref it) .none (gEnv X scope h3.objs.size code builtinsNs)))) := AllBare.push I2.bare rfl
      have IG := gx_begin (h' := h'.push go) (g' := s2.gens.push (.fresh (.compStart (.GeneratorExp elt [⟨tg, iter, ifs, 0⟩] scope gpos) 0 (.ref it) .none (gEnv X scope h3.objs.size code builtinsNs)))) (d' := s2.drawn) (t' := tk2) (code := code) (go := go)
        I3 ok S hN hr.hd f3 ⟨_, hns.push _⟩ kh2 bare' hgo hgd
      have hQ := q _ (show Tabbed P H2 (upd H2 P (.tbl (ps ++ more))) from ⟨⟨_, upd_same, ht3⟩, fun b hb => upd_ne hb⟩)
      obtain ⟨W, ⟨m, w0⟩, turn⟩ := hQ
      have st3 : tn 0 (h'.push go) := T.keep _ _ _ st2 fun b hb o e => kh2 b o (hx b o (hfpP b hb) e)
      have hgen : ∀ {σ' H' s'}, Inv (gCx X { s2 with heap := h3, gens := s2.gens, drawn := s2.drawn, toks := tk } (upd H2 P (.tbl (ps ++ more))) scope h3.objs.size code builtinsNs fp [(h3.objs.size + 1, go)]) [] σ' H' s' → s'.heap.IsGen (h3.objs.size + 1) s2.gens.size ∧ s'.heap.NoLimit := fun {σ' H' s'} J => by
        refine ⟨⟨go, nmv, qn, (J.pin (h3.objs.size + 1, go) (by simp)).1, hgc, hgd0, hgs⟩, J.nolimit⟩
      -- back in the def
      have outer : ∀ (s6 : Shared) (h6 : Heap) (g6 : Array GenState) (σ' : L2.St) (H' : Hp), Inv (gCx X { s2 with heap := h3, gens := s2.gens, drawn := s2.drawn, toks := tk } (upd H2 P (.tbl (ps ++ more))) scope h3.objs.size code builtinsNs fp [(h3.objs.size + 1, go)]) [] σ' H' s6 →
          (∀ b o, s6.heap.get? b = some o → h6.get? b = some o) → AllBare g6 → Inv X pins σ H' { s6 with gens := g6, heap := h6 } := fun s6 h6 g6 σ' H' J hk hb => by
        refine I3.call' (s' := { s6 with gens := g6, heap := h6 }) (ch := fp) J.os (J.base.trans (Un.kept hk)) (J.hok.kept hk) hb fun b hb' => ?_
        obtain ⟨_, _, _, q4, q5, q6⟩ := (f3 b hb').1
        exact ⟨q4, (f3 b hb').1.2.1, q5, q6⟩
      refine Calls.spliced_nil ?_
      have hstat : ∀ b ∈ fp, b ≠ h3.objs.size ∧ b ∉ frs X.stack ∧ (∀ y c, (gEnv X scope h3.objs.size code builtinsNs).cells.lookup y = some c → c ≠ b) ∧ ∀ p ∈ [(h3.objs.size + 1, go)], p.1 ≠ b := fun b hb => by
        refine ⟨Nat.ne_of_lt (f3 b hb).2, fun z => ?_, fun y c e => ?_, fun p hp => ?_⟩
        · rcases List.mem_cons.mp (I3.stkSub b z) with z | z
          · exact (f2 b hb).2.1 z
          · exact (f2 b hb).2.2.1 z
        · have e' : (cloFrom X.env.cells scope.names []).lookup y = some c := e
          rcases cloFrom_mem (PySem.mem_of_lookup e') with hm | ⟨h1, h2⟩
          · cases hm
          · obtain ⟨c1, hc⟩ := hfree _ h1 rfl
            have hc : X.env.cells.lookup y = some c1 := hc
            rw [hc] at h2
            have h3' : c = c1 := h2
            rw [h3']
            exact (f2 b hb).2.2.2.2.1 y c1 hc
        · rw [List.mem_singleton.mp hp]
          exact Nat.ne_of_gt (Nat.lt_succ_of_lt (f3 b hb).2)
      have seg := gx_start (X := X) (σ := σ) (iter := iter) (gpos := gpos) (s0 := { s2 with heap := h3, gens := s2.gens, drawn := s2.drawn, toks := tk }) (H0 := upd H2 P (.tbl (ps ++ more))) (C := h3.objs.size) (code := code) (bi := builtinsNs) (pn := [(h3.objs.size + 1, go)]) (Q := Q) (sv := sv)
        S T (hg _ _ _ _ _ _ _) (ht _ _ _ _ _ _ _) (he _ _ _ _ _ _ _) hstat turn m
      have hgens : (s2.gens.push (.fresh (.compStart (.GeneratorExp elt [⟨tg, iter, ifs, 0⟩] scope gpos) 0 (.ref it) .none (gEnv X scope h3.objs.size code builtinsNs))))[s2.gens.size]? = some (.fresh (.compStart (.GeneratorExp elt [⟨tg, iter, ifs, 0⟩] scope gpos) 0 (.ref it) .none (gEnv X scope h3.objs.size code builtinsNs))) := Array.getElem?_push_size ..
      have drain : ∀ (nl : String), ((sv = true ∧ nl = "any.loop") ∨ (sv = false ∧ nl = "all.loop")) → codeAny (model X.prog X.w) X.A (.builtin nl ⟨[.ref (h3.objs.size + 1)], []⟩) (fun r s' => match r with | .ok (.ret v) => EP X pins σ Q v s' | .ok _ => False | .error e => X.xe e s')
          { s2 with gens := s2.gens.push (.fresh (.compStart (.GeneratorExp elt [⟨tg, iter, ifs, 0⟩] scope gpos) 0 (.ref it) .none (gEnv X scope h3.objs.size code builtinsNs))), toks := tk2, heap := h'.push go } := fun nl hnl => by
        refine gx_drain (Q := Q) (sv := sv) (gi := s2.gens.size) hnl hr.hd (by have := hr.dp; omega) hgen (fun s1 g' σ' H' J hb hq => ?_) (fun s1 h6 g' σ' H' J hk hb hq => ?_) (m + 1) _ (hgen IG).1 (hgen IG).2 ⟨_, hgens, rfl, ?_⟩
        · exact ⟨.bl sv, H', outer s1 s1.heap g' σ' H' J (fun _ _ e => e) hb, rfl, hq⟩
        · exact ⟨.bl (!sv), H', outer s1 h6 g' σ' H' J hk hb, rfl, hq⟩
        · exact seg _ _ _ w0 (inv_gens IG (allBare_setGen (s := { s2 with gens := _ }) bare' rfl)) st3 fpH
      rw [hsz']
      rcases hnm with ⟨z1, z2⟩ | ⟨z1, z2⟩
      · rw [if_pos z1]
        refine call_function_tree F.kind_any F.plain_any F.entry_any (F.args_any1 _) ?_
        unfold Builtin.«any»
        refine wpAny_bind (m := oneArg "any" _) (wpAny_pure ?_)
        refine wpAny_bind (wpAny_pyIter_gen (hgen IG).1 ?_)
        exact wpAny_pure ⟨plainId_quiet F.plain_any_loop _, drain "any.loop" (.inl ⟨z1, rfl⟩)⟩
      · rw [if_neg (by rw [z1]; exact Bool.false_ne_true)]
        refine call_function_tree F.kind_all F.plain_all F.entry_all (F.args_all1 _) ?_
        unfold Builtin.«all»
        refine wpAny_bind (m := oneArg "all" _) (wpAny_pure ?_)
        refine wpAny_bind (wpAny_pyIter_gen (hgen IG).1 ?_)
        exact wpAny_pure ⟨plainId_quiet F.plain_all_loop _, drain "all.loop" (.inr ⟨z1, rfl⟩)⟩
    exact main _ _ _ _ rfl rfl rfl fun h => Heap.get?_push_size _ rfl
  cases hf : codeAmong gpos ps.toList with
  | none =>
    refine wpAny_genexprCodeX hcode (cd.code hPs htr) (cd.tab hPs) hf fun c' h' tk hx hge hlt hco' _ htab' _ => ?_
    obtain ⟨o1, vs, f1, tf, fl, tg', inF, tx, tt', op, _, _, _, _, _, _, _, _, _, htr', _⟩ := hco'
    exact cont _ h' tk _ hx (Nat.le_trans hge (Nat.le_of_lt hlt)) htab'.2 ⟨_, rfl⟩ htr'
  | some cv =>
    refine wpAny_genexprCode_hit hcode (cd.code hPs htr) hf ?_
    exact cont cv s2.heap s2.toks ps (Heap.ExtBut.refl _ _) (Nat.le_refl _) hPs ⟨#[], by simp⟩ htr
end
end GX

set_option maxHeartbeats 2000001
/-! What readings tell of DATA: the heap is hidden behind data (PyData), own lists and wells -/
namespace DW
open PySem L2 PySem.Spec PyProof.Rows
open GxR (TabG Tabbed)

/-! ### heaps that know more -/
def NT (o : HO) : Prop := ∀ ps, o ≠ .tbl ps
/-- all but tables stay -/
def Le (G G' : Hp) : Prop := ∀ b o, G b = some o → NT o → G' b = some o
theorem Le.refl (G : Hp) : Le G G := fun _ _ h _ => h
theorem Le.trans {G G1 G2 : Hp} (a : Le G G1) (b : Le G1 G2) : Le G G2 := fun c o h n => b c o (a c o h n) n
theorem Le.rd {G G' : Hp} (e : Le G G') {a : Addr} {u : HO} (n : NT u) (h : Rd G a u) : Rd G' a u := by
  rcases h with h | ⟨o, h⟩
  · exact .inl (e _ _ h n)
  · exact .inr ⟨o, e _ _ h fun _ z => nomatch z⟩
theorem Le.seqL {K : PySem.W.Frag} {G G' : Hp} (e : Le G G') {a : Addr} {xs : List V} (h : SqL K G a xs) : SqL K G' a xs := by
  rcases h with h | h
  · exact .inl (e.rd (fun _ z => nomatch z) h)
  · exact .inr h
theorem Le.seqT {K : PySem.W.Frag} {G G' : Hp} (e : Le G G') {a : Addr} {xs : List V} (h : SqT K G a xs) : SqT K G' a xs := by
  rcases h with h | h
  · exact .inl (e.rd (fun _ z => nomatch z) h)
  · exact .inr h
mutual
theorem Le.dp {K : PySem.W.Frag} {G G' : Hp} (e : Le G G') : ∀ {d : PyData} {v : V}, Dp K G v d → Dp K G' v d
  | .none, _, .non => .non
  | .bool _, _, .bl _ => .bl _
  | .int _, _, .int _ => .int _
  | .str _, _, .str _ => .str _
  | .list _, _, .lst h a => .lst (e.seqL h) (Le.dpAll e a)
  | .tuple _, _, .tup h a => .tup (e.seqT h) (Le.dpAll e a)
theorem Le.dpAll {K : PySem.W.Frag} {G G' : Hp} (e : Le G G') : ∀ {ds : List PyData} {vs : List V}, DpAll K G vs ds → DpAll K G' vs ds
  | [], _, .nil => .nil
  | _ :: _, _, .cons h t => .cons (Le.dp e h) (Le.dpAll e t)
end
theorem dpLen {K : PySem.W.Frag} {G : Hp} : ∀ {ds : List PyData} {vs : List V}, DpAll K G vs ds → vs.length = ds.length
  | [], _, .nil => rfl
  | _ :: _, _, .cons _ t => congrArg (· + 1) (dpLen t)
theorem dpGet {K : PySem.W.Frag} {G : Hp} : ∀ {ds : List PyData} {vs : List V} {i : Nat} {d : PyData}, DpAll K G vs ds → ds[i]? = some d → ∃ v, vs[i]? = some v ∧ Dp K G v d
  | [], _, _, _, .nil, h => by simp at h
  | _ :: _, _, 0, _, .cons a _, h => by simp at h; subst h; exact ⟨_, rfl, a⟩
  | _ :: ds, _, i + 1, d, .cons _ t, h => by
    obtain ⟨v, h1, h2⟩ := dpGet (i := i) (d := d) t (by simpa using h)
    exact ⟨v, by simpa using h1, h2⟩
theorem dpApp {K : PySem.W.Frag} {G : Hp} : ∀ {ds es : List PyData} {vs us : List V}, DpAll K G vs ds → DpAll K G us es → DpAll K G (vs ++ us) (ds ++ es)
  | [], _, _, _, .nil, h => h
  | _ :: _, _, _, _, .cons a t, h => .cons a (dpApp t h)
theorem dpSet {K : PySem.W.Frag} {G : Hp} {v : V} {d : PyData} (h : Dp K G v d) : ∀ {ds : List PyData} {vs : List V} (i : Nat), DpAll K G vs ds → DpAll K G (vs.set i v) (ds.set i d)
  | [], _, _, .nil => .nil
  | _ :: _, _, 0, .cons _ t => .cons h t
  | _ :: _, _, i + 1, .cons a t => .cons a (dpSet h i t)
theorem dpTake {K : PySem.W.Frag} {G : Hp} : ∀ {ds : List PyData} {vs : List V} (n : Nat), DpAll K G vs ds → DpAll K G (vs.take n) (ds.take n)
  | [], _, n, .nil => by rw [List.take_nil, List.take_nil]; exact .nil
  | _ :: _, _, 0, .cons _ _ => .nil
  | _ :: _, _, n + 1, .cons a t => .cons a (dpTake n t)
theorem dpDrop {K : PySem.W.Frag} {G : Hp} : ∀ {ds : List PyData} {vs : List V} (n : Nat), DpAll K G vs ds → DpAll K G (vs.drop n) (ds.drop n)
  | [], _, n, .nil => by rw [List.drop_nil, List.drop_nil]; exact .nil
  | _ :: _, _, 0, h => h
  | _ :: _, _, n + 1, .cons _ t => dpDrop n t
theorem dpInts {K : PySem.W.Frag} {G : Hp} : ∀ {ns : List Int} {vs : List V}, DpAll K G vs (ns.map .int) → vs = ns.map V.int
  | [], _, .nil => rfl
  | _ :: _, _, .cons (.int _) t => by rw [dpInts t]; rfl
theorem dpOfints {K : PySem.W.Frag} {G : Hp} : ∀ (ns : List Int), DpAll K G (ns.map V.int) (ns.map .int)
  | [] => .nil
  | n :: ns => .cons (.int n) (dpOfints ns)
theorem dpBools {K : PySem.W.Frag} {G : Hp} : ∀ {ns : List Bool} {vs : List V}, DpAll K G vs (ns.map .bool) → vs = ns.map V.bl
  | [], _, .nil => rfl
  | _ :: _, _, .cons (.bl _) t => by rw [dpBools t]; rfl

/-! ### hidden parts, wells, own lists -/
noncomputable def hid (A : Addr → Prop) (H : Hp) : Hp := fun b => open Classical in if A b then none else H b
theorem hid_no {A : Addr → Prop} {H : Hp} {b : Addr} (h : ¬ A b) : hid A H b = H b := if_neg h
theorem hid_yes {A : Addr → Prop} {H : Hp} {b : Addr} (h : A b) : hid A H b = none := if_pos h
theorem hid_some {A : Addr → Prop} {H : Hp} {b : Addr} {o : HO} (h : hid A H b = some o) : ¬ A b ∧ H b = some o := by
  by_cases e : A b
  · rw [hid_yes e] at h; cases h
  · exact ⟨e, (hid_no e).symm.trans h⟩
theorem hid_le (A : Addr → Prop) (H : Hp) : Le (hid A H) H := fun _ _ h _ => (hid_some h).2

structure Gam where
  K : PySem.W.Frag
  cs : List Addr
  WI : List Int → Prop
def WellAt (WI : List Int → Prop) (H : Hp) (b : Addr) : Prop := ∃ xs : List Int, H b = some (.lst (xs.map V.int)) ∧ WI xs
structure Ow where
  /-- what data do not lie on -/
  A : Addr → Prop
  /-- own lists -/
  M : Addr → Prop
  /-- wells -/
  W : Addr → Prop
/-- the tables stand, grown -/
def TabLe (H H' : Hp) : Prop := ∀ b ps, H b = some (.tbl ps) → ∃ ps', H' b = some (.tbl ps') ∧ (TriplesOk ps.toList → TriplesOk ps'.toList)
theorem TabLe.refl (H : Hp) : TabLe H H := fun _ ps h => ⟨ps, h, id⟩
theorem TabLe.trans {H H1 H2 : Hp} (a : TabLe H H1) (b : TabLe H1 H2) : TabLe H H2 := fun c ps h => by
  obtain ⟨p1, h1, k1⟩ := a c ps h
  obtain ⟨p2, h2, k2⟩ := b c p1 h1
  exact ⟨p2, h2, k2 ∘ k1⟩
theorem TabLe.tab {H H' : Hp} (e : TabLe H H') {P : Addr} (h : TabG H P) : TabG H' P := by
  obtain ⟨ps, h1, h2⟩ := h
  obtain ⟨p2, h3, h4⟩ := e P ps h1
  exact ⟨p2, h3, h4 h2⟩
/-- behind an expression: all stands but the wells (still wells) and the tables -/
structure Ext (Γ : Gam) (W : Addr → Prop) (H H' : Hp) : Prop where
  keep : ∀ b o, H b = some o → NT o → ¬ W b → H' b = some o
  tab : TabLe H H'
  well : ∀ b, W b → WellAt Γ.WI H b → WellAt Γ.WI H' b
section
variable {Γ : Gam} {W : Addr → Prop} {H H1 H2 : Hp}
theorem Ext.refl : Ext Γ W H H := ⟨fun _ _ h _ _ => h, TabLe.refl H, fun _ _ h => h⟩
theorem Ext.trans (a : Ext Γ W H H1) (b : Ext Γ W H1 H2) : Ext Γ W H H2 :=
  ⟨fun c o h n w => b.keep c o (a.keep c o h n w) n w, a.tab.trans b.tab, fun c w h => b.well c w (a.well c w h)⟩
theorem ne_fresh {p b : Addr} {o : HO} (hp : H p = none) (h : H b = some o) : b ≠ p := ne_of_none h hp
theorem Ext.new {p : Addr} {o : HO} (hp : H p = none) : Ext Γ W H (upd H p o) := by
  refine ⟨fun b u h _ _ => by rw [upd_ne (ne_fresh hp h)]; exact h, fun b ps h => ⟨ps, by rw [upd_ne (ne_fresh hp h)]; exact h, id⟩, fun b _ ⟨xs, h, q⟩ => ⟨xs, by rw [upd_ne (ne_fresh hp h)]; exact h, q⟩⟩
theorem Ext.hid {A : Addr → Prop} (e : Ext Γ W H H1) (hw : ∀ b, W b → A b) : Le (hid A H) (hid A H1) := fun b o h n => by
  obtain ⟨na, h⟩ := hid_some h
  rw [hid_no na]
  exact e.keep b o h n fun w => na (hw b w)
theorem Ext.weak {W' : Addr → Prop} (e : Ext Γ (fun _ => False) H H1) (hw : ∀ b, W' b → ∃ xs : List Int, H b = some (.lst (xs.map V.int))) : Ext Γ W' H H1 :=
  ⟨fun b o h n _ => e.keep b o h n id, e.tab, fun b _ ⟨xs, h, q⟩ => ⟨xs, e.keep b _ h (fun _ z => nomatch z) id, q⟩⟩
theorem Ext.of0 {W' : Addr → Prop} (e : Ext Γ (fun _ => False) H H1) : Ext Γ W' H H1 :=
  ⟨fun b o h n _ => e.keep b o h n id, e.tab, fun b _ ⟨xs, h, q⟩ => ⟨xs, e.keep b _ h (fun _ z => nomatch z) id, q⟩⟩
theorem Ext.tabbed {P : Addr} {H1 : Hp} (t : TabG H P) (h : Tabbed P H H1) : Ext Γ W H H1 := by
  obtain ⟨⟨ps', h1, h2⟩, h3⟩ := h
  obtain ⟨ps, hp, _⟩ := t
  refine ⟨fun b o e n _ => ?_, fun b qs e => ?_, fun b _ ⟨xs, e, q⟩ => ?_⟩
  · by_cases hb : b = P
    · subst hb; rw [hp] at e; cases e; exact absurd rfl (n ps)
    · rw [h3 b hb]; exact e
  · by_cases hb : b = P
    · subst hb; exact ⟨ps', h1, fun _ => h2⟩
    · rw [← h3 b hb] at e; exact ⟨qs, e, id⟩
  · by_cases hb : b = P
    · subst hb; rw [hp] at e; cases e
    · exact ⟨xs, by rw [h3 b hb]; exact e, q⟩
end

/-- what a slot holds: data; an own list; a well -/
inductive SC where
  | d (x : PyData)
  | l (ds : List PyData)
  | w
abbrev Sl := List (Option SC)
structure Si (Γ : Gam) (ω : Ow) (σ : L2.St) (H : Hp) (δ : Sl) : Prop where
  wm : ∀ b, ω.W b → ω.M b
  ma : ∀ b, ω.M b → ω.A b
  tr : ∀ b, ω.A b → ∃ o, H b = some o ∧ NT o
  tabs : ∀ P ∈ Γ.cs, TabG H P
  wells : ∀ b, ω.W b → WellAt Γ.WI H b
  len : σ.length = δ.length
  slot : ∀ (i : Nat) x, δ[i]? = some (some (SC.d x)) → ∃ v, σ[i]? = some (some v) ∧ Dp Γ.K (hid ω.A H) v x
  own : ∀ (i : Nat) ds, δ[i]? = some (some (SC.l ds)) → ∃ l vs, σ[i]? = some (some (V.ref l)) ∧ ω.M l ∧ ¬ ω.W l ∧ H l = some (.lst vs) ∧ DpAll Γ.K (hid ω.A H) vs ds
  well : ∀ (i : Nat), δ[i]? = some (some SC.w) → ∃ b, σ[i]? = some (some (V.ref b)) ∧ ω.W b
  inj : ∀ (i j : Nat) l ds es, i ≠ j → δ[i]? = some (some (SC.l ds)) → δ[j]? = some (some (SC.l es)) → σ[i]? = some (some (V.ref l)) → σ[j]? ≠ some (some (V.ref l))
section
variable {Γ : Gam} {ω : Ow} {σ : L2.St} {H H1 : Hp} {δ : Sl}
theorem Si.wa (S : Si Γ ω σ H δ) : ∀ b, ω.W b → ω.A b := fun b h => S.ma b (S.wm b h)
theorem Si.ext (S : Si Γ ω σ H δ) (e : Ext Γ ω.W H H1) : Si Γ ω σ H1 δ where
  wm := S.wm
  ma := S.ma
  tr := fun b h => by
    by_cases hw : ω.W b
    · obtain ⟨xs, h1, _⟩ := e.well b hw (S.wells b hw)
      exact ⟨_, h1, fun _ z => nomatch z⟩
    · obtain ⟨o, h1, n⟩ := S.tr b h
      exact ⟨o, e.keep b o h1 n hw, n⟩
  tabs := fun P h => e.tab.tab (S.tabs P h)
  wells := fun b h => e.well b h (S.wells b h)
  len := S.len
  slot := fun i x h => by
    obtain ⟨v, h1, h2⟩ := S.slot i x h
    exact ⟨v, h1, (e.hid S.wa).dp h2⟩
  own := fun i ds h => by
    obtain ⟨l, vs, h1, h2, h3, h4, h5⟩ := S.own i ds h
    exact ⟨l, vs, h1, h2, h3, e.keep l _ h4 (fun _ z => nomatch z) h3, (e.hid S.wa).dpAll h5⟩
  well := S.well
  inj := S.inj
/-- a fresh place is not hidden -/
theorem Si.fresh (S : Si Γ ω σ H δ) {p : Addr} (h : H p = none) : ¬ ω.A p := fun z => by
  obtain ⟨o, e, _⟩ := S.tr p z
  rw [h] at e
  cases e
end

/-! ### expressions, tests, arguments -/
def wE (Γ : Gam) (te : TE) (δ : Sl) (k : PyData → Prop) : Prop := ∀ ω σ H, Si Γ ω σ H δ → ∀ Q : VK, (∀ v H2 d, k d → Ext Γ ω.W H H2 → Dp Γ.K (hid ω.A H2) v d → Q v H2) → te σ H Q
def wT (Γ : Gam) (tt : TT) (δ : Sl) (k : Bool → Prop) : Prop := ∀ ω σ H, Si Γ ω σ H δ → ∀ Q : Bool → Hp → Prop, (∀ b H2, k b → Ext Γ ω.W H H2 → Q b H2) → tt σ H Q
def wA (Γ : Gam) (ta : TA) (δ : Sl) (k : List PyData → Prop) : Prop := ∀ ω σ H, Si Γ ω σ H δ → ∀ Q : List V → Hp → Prop, (∀ vs H2 ds, k ds → Ext Γ ω.W H H2 → DpAll Γ.K (hid ω.A H2) vs ds → Q vs H2) → ta σ H Q
/-- a list that is read: an own one, a new one, or data -/
def wL (Γ : Gam) (te : TE) (δ : Sl) (k : List PyData → Prop) : Prop := ∀ ω σ H, Si Γ ω σ H δ → ∀ Q : VK,
  (∀ a vs H2 ds, k ds → Ext Γ ω.W H H2 → (∀ H3, Ext Γ ω.W H2 H3 → SqL Γ.K H3 a vs) → DpAll Γ.K (hid ω.A H2) vs ds → Q (.ref a) H2) → te σ H Q
/-- a new list -/
def wN (Γ : Gam) (te : TE) (δ : Sl) (k : List PyData → Prop) : Prop := ∀ ω σ H, Si Γ ω σ H δ → ∀ Q : VK,
  (∀ p vs H2 ds, k ds → Ext Γ ω.W H H2 → H p = none → H2 p = some (.lst vs) → DpAll Γ.K (hid (fun b => ω.A b ∨ b = p) H2) vs ds → Q (.ref p) H2) → te σ H Q
section
variable {Γ : Gam} {δ : Sl} {te ta tb : TE} {tt : TT} {k : PyData → Prop}
theorem wE.mono {k' : PyData → Prop} (h : wE Γ te δ k) (hk : ∀ d, k d → k' d) : wE Γ te δ k' := fun ω σ H S Q q => h ω σ H S Q fun v H2 d kd => q v H2 d (hk d kd)
theorem wL.mono {k k' : List PyData → Prop} (h : wL Γ te δ k) (hk : ∀ d, k d → k' d) : wL Γ te δ k' := fun ω σ H S Q q => h ω σ H S Q fun a vs H2 d kd => q a vs H2 d (hk d kd)
theorem wN.mono {k k' : List PyData → Prop} (h : wN Γ te δ k) (hk : ∀ d, k d → k' d) : wN Γ te δ k' := fun ω σ H S Q q => h ω σ H S Q fun a vs H2 d kd => q a vs H2 d (hk d kd)
theorem wT.mono {k k' : Bool → Prop} (h : wT Γ tt δ k) (hk : ∀ d, k d → k' d) : wT Γ tt δ k' := fun ω σ H S Q q => h ω σ H S Q fun v H2 kd => q v H2 (hk v kd)
theorem hid_less {A A' : Addr → Prop} {H : Hp} (h : ∀ b, A b → A' b) : Le (hid A' H) (hid A H) := fun b o e _ => by
  obtain ⟨n, e⟩ := hid_some e
  rw [hid_no fun z => n (h b z)]
  exact e
theorem hid_1 {A : Addr → Prop} {p : Addr} {H : Hp} : Le (hid (fun b => A b ∨ b = p) H) (hid A H) := hid_less fun _ => .inl
theorem hid_add {A : Addr → Prop} {H : Hp} {p : Addr} {b : Addr} (h : b ≠ p) : hid (fun b => A b ∨ b = p) H b = hid A H b := by
  by_cases e : A b
  · rw [hid_yes e, hid_yes (show A b ∨ b = p from .inl e)]
  · rw [hid_no e, hid_no (show ¬ (A b ∨ b = p) from fun z => z.elim e h)]
/-- what was told before the object at p came does not lie on it -/
theorem le_add {A : Addr → Prop} {H H2 : Hp} {p : Addr} (e : Le (hid A H) (hid A H2)) (hp : H p = none) : Le (hid A H) (hid (fun b => A b ∨ b = p) H2) := fun b o h n => by
  have hb : b ≠ p := by
    rintro rfl
    obtain ⟨_, h1⟩ := hid_some h
    rw [hp] at h1; cases h1
  rw [hid_add hb]
  exact e b o h n
theorem wN.e (h : wN Γ te δ fun ds => k (.list ds)) : wE Γ te δ k := fun ω σ H S Q q => h ω σ H S Q fun p vs H2 ds kd e hp h2 a =>
  q (.ref p) H2 (.list ds) kd e (.lst (SqL.of (by rw [hid_no (S.fresh hp)]; exact h2)) (hid_1.dpAll a))
theorem wN.l {k : List PyData → Prop} (h : wN Γ te δ k) : wL Γ te δ k := fun ω σ H S Q q => h ω σ H S Q fun p vs H2 ds kd e hp h2 a =>
  q p vs H2 ds kd e (fun H3 e3 => SqL.of (e3.keep p _ h2 (fun _ z => nomatch z) fun w => S.fresh hp (S.wa p w))) (hid_1.dpAll a)
theorem wE.l {k : List PyData → Prop} (h : wE Γ te δ fun d => ∃ ds, d = .list ds ∧ k ds) : wL Γ te δ k := fun ω σ H S Q q => h ω σ H S Q fun v H2 d ⟨ds, e1, kd⟩ e a => by
  subst e1
  cases a with
  | lst hs ha => exact q _ _ H2 ds kd e (fun H3 e3 => (hid_le _ _).seqL ((e3.hid S.wa).seqL hs)) ha
theorem w_var {i : Nat} {d : PyData} (h : δ[i]? = some (some (SC.d d))) (hk : k d) : wE Γ (tVar i) δ k := fun ω σ H S Q q => by
  obtain ⟨v, h1, h2⟩ := S.slot i d h
  exact ⟨v, h1, q v H d hk .refl h2⟩
/-- an own list, read -/
theorem w_varL {i : Nat} {ds : List PyData} {k : List PyData → Prop} (h : δ[i]? = some (some (SC.l ds))) (hk : k ds) : wL Γ (tVar i) δ k := fun ω σ H S Q q => by
  obtain ⟨l, vs, h1, h2, h3, h4, h5⟩ := S.own i ds h
  exact ⟨_, h1, q l vs H ds hk .refl (fun H3 e3 => SqL.of (e3.keep l _ h4 (fun _ z => nomatch z) h3)) h5⟩
theorem w_int {i : Int} (hk : k (.int i)) : wE Γ (tC (.int i)) δ k := fun ω σ H S Q q => q _ H _ hk .refl (.int i)
theorem w_bl {b : Bool} (hk : k (.bool b)) : wE Γ (tC (.bl b)) δ k := fun ω σ H S Q q => q _ H _ hk .refl (.bl b)
theorem w_non (hk : k .none) : wE Γ (tC .non) δ k := fun ω σ H S Q q => q _ H _ hk .refl .non
theorem w_str {x : Str} (hk : k (.str x)) : wE Γ (tC (.str x)) δ k := fun ω σ H S Q q => q _ H _ hk .refl (.str x)

/-- a rule of two values: what it asks of data -/
def RD2 (Γ : Gam) (r : R2) (d e : PyData) (k : PyData → Prop) : Prop := ∀ (A W : Addr → Prop) (H : Hp) (x y : V) (Q : VK), (∀ b, W b → A b) → Dp Γ.K (hid A H) x d → Dp Γ.K (hid A H) y e → (∀ b, A b → H b ≠ none) →
  (∀ v H2 d, k d → Ext Γ W H H2 → Dp Γ.K (hid A H2) v d → Q v H2) → r x y H Q
theorem Si.trn {ω : Ow} {σ : L2.St} {H : Hp} (S : Si Γ ω σ H δ) : ∀ b, ω.A b → H b ≠ none := fun b h z => S.fresh z h
theorem w_op {r : R2} (h : wE Γ ta δ fun d => wE Γ tb δ fun e => RD2 Γ r d e k) : wE Γ (tOp r ta tb) δ k := fun ω σ H S Q q =>
  h ω σ H S _ fun x H1 d hb e1 a1 => hb ω σ H1 (S.ext e1) _ fun y H2 e hr e2 a2 =>
    hr ω.A ω.W H2 x y Q S.wa ((e2.hid S.wa).dp a1) a2 (((S.ext e1).ext e2).trn) fun v H3 d kd e3 a3 => q v H3 d kd ((e1.trans e2).trans e3) a3
theorem rd_i {C : Int → Int → Prop} {g : Int → Int → Int} {i j : Int} (hc : C i j) (hk : k (.int (g i j))) : RD2 Γ (rI C fun i j => .int (g i j)) (.int i) (.int j) k := fun A W H x y Q hw a b ht q => by
  cases a; cases b
  exact ⟨i, j, rfl, rfl, hc, q _ H _ hk .refl (.int _)⟩
theorem rd_i0 {g : Int → Int → Int} {i j : Int} (hk : k (.int (g i j))) : RD2 Γ (rI0 fun i j => .int (g i j)) (.int i) (.int j) k := fun A W H x y Q hw a b ht q => by
  cases a; cases b
  exact ⟨i, j, rfl, rfl, q _ H _ hk .refl (.int _)⟩
theorem rd_b0 {g : Int → Int → Bool} {i j : Int} (hk : k (.bool (g i j))) : RD2 Γ (rI0 fun i j => .bl (g i j)) (.int i) (.int j) k := fun A W H x y Q hw a b ht q => by
  cases a; cases b
  exact ⟨i, j, rfl, rfl, q _ H _ hk .refl (.bl _)⟩
/-- two rules, one of them fits -/
theorem rd_or1 {r r' : R2} {d e : PyData} (h : RD2 Γ r d e k) : RD2 Γ (fun x y H Q => r x y H Q ∨ r' x y H Q) d e k := fun A W H x y Q hw a b ht q => .inl (h A W H x y Q hw a b ht q)
theorem rd_or2 {r r' : R2} {d e : PyData} (h : RD2 Γ r' d e k) : RD2 Γ (fun x y H Q => r x y H Q ∨ r' x y H Q) d e k := fun A W H x y Q hw a b ht q => .inr (h A W H x y Q hw a b ht q)
end

/-! ### more expressions -/
section
variable {Γ : Gam} {δ : Sl} {te ta tb tc : TE} {tt tu : TT} {k : PyData → Prop} {kb : Bool → Prop}
theorem w_test (h : wE Γ te δ fun d => ∃ b, d = .bool b ∧ kb b) : wT Γ (tTest te) δ kb := fun ω σ H S Q q => h ω σ H S _ fun v H2 d hd e a => by
  obtain ⟨b, e1, hb⟩ := hd
  subst e1
  cases a
  exact ⟨b, rfl, q b H2 hb e⟩
theorem w_tb (h : wE Γ te δ fun d => ∃ b, d = .bool b ∧ kb b) : wT Γ (tB te) δ kb := fun ω σ H S Q q => h ω σ H S _ fun v H2 d hd e a => by
  obtain ⟨b, e1, hb⟩ := hd
  subst e1
  cases a
  exact ⟨b, rfl, q b H2 hb e⟩
theorem w_not (h : wT Γ tt δ fun b => kb (!b)) : wT Γ (tNot tt) δ kb := fun ω σ H S Q q => h ω σ H S _ fun b H2 hb e => q (!b) H2 hb e
theorem w_and (h : wT Γ tt δ fun b => if b = true then wT Γ tu δ kb else kb false) : wT Γ (tAnd tt tu) δ kb := fun ω σ H S Q q => h ω σ H S _ fun b H2 hb e => by
  cases b with
  | true => exact (show wT Γ tu δ kb from hb) ω σ H2 (S.ext e) Q fun b H3 h3 e3 => q b H3 h3 (e.trans e3)
  | false => exact q false H2 hb e
theorem w_or (h : wT Γ tt δ fun b => if b = true then kb true else wT Γ tu δ kb) : wT Γ (tOr tt tu) δ kb := fun ω σ H S Q q => h ω σ H S _ fun b H2 hb e => by
  cases b with
  | true => exact q true H2 hb e
  | false => exact (show wT Γ tu δ kb from hb) ω σ H2 (S.ext e) Q fun b H3 h3 e3 => q b H3 h3 (e.trans e3)
theorem w_ifE (h : wT Γ tt δ fun b => if b = true then wE Γ ta δ k else wE Γ tb δ k) : wE Γ (tIf tt ta tb) δ k := fun ω σ H S Q q => h ω σ H S _ fun b H2 hb e => by
  cases b with
  | true => exact (show wE Γ ta δ k from hb) ω σ H2 (S.ext e) Q fun v H3 d h3 e3 => q v H3 d h3 (e.trans e3)
  | false => exact (show wE Γ tb δ k from hb) ω σ H2 (S.ext e) Q fun v H3 d h3 e3 => q v H3 d h3 (e.trans e3)
theorem w_ifN {k : List PyData → Prop} (h : wT Γ tt δ fun b => if b = true then wN Γ ta δ k else wN Γ tb δ k) : wN Γ (tIf tt ta tb) δ k := fun ω σ H S Q q => h ω σ H S _ fun b H2 hb e => by
  have fr : ∀ {p : Addr}, H2 p = none → H p = none := fun {p} hp => by
    cases hq : H p with
    | none => rfl
    | some o =>
      by_cases n : NT o
      · by_cases hw : ω.W p
        · obtain ⟨xs, h1, _⟩ := e.well p hw (S.wells p hw)
          rw [hp] at h1; cases h1
        · have h1 := e.keep p o hq n hw
          rw [hp] at h1; cases h1
      · have : ∃ ps, o = .tbl ps := by
          cases o <;> first | exact ⟨_, rfl⟩ | exact (n fun _ z => nomatch z).elim
        obtain ⟨ps, rfl⟩ := this
        obtain ⟨_, h1, _⟩ := e.tab p ps hq
        rw [hp] at h1; cases h1
  cases b with
  | true => exact (show wN Γ ta δ k from hb) ω σ H2 (S.ext e) Q fun p vs H3 d h3 e3 hp => q p vs H3 d h3 (e.trans e3) (fr hp)
  | false => exact (show wN Γ tb δ k from hb) ω σ H2 (S.ext e) Q fun p vs H3 d h3 e3 hp => q p vs H3 d h3 (e.trans e3) (fr hp)
/-- fresh behind is fresh ahead -/
theorem Si.back {ω : Ow} {σ : L2.St} {H H2 : Hp} (S : Si Γ ω σ H δ) (e : Ext Γ ω.W H H2) {p : Addr} (hp : H2 p = none) : H p = none := by
  cases hq : H p with
  | none => rfl
  | some o =>
    by_cases n : NT o
    · by_cases hw : ω.W p
      · obtain ⟨xs, h1, _⟩ := e.well p hw (S.wells p hw)
        rw [hp] at h1; cases h1
      · have h1 := e.keep p o hq n hw
        rw [hp] at h1; cases h1
    · have : ∃ ps, o = .tbl ps := by
        cases o <;> first | exact ⟨_, rfl⟩ | exact (n fun _ z => nomatch z).elim
      obtain ⟨ps, rfl⟩ := this
      obtain ⟨_, h1, _⟩ := e.tab p ps hq
      rw [hp] at h1; cases h1
theorem w_andV (h : wE Γ ta δ fun d => ∃ b, d = .bool b ∧ if b = true then wE Γ tb δ k else k (.bool false)) : wE Γ (tAndV ta tb) δ k := fun ω σ H S Q q => h ω σ H S _ fun v H2 d hd e a => by
  obtain ⟨b, e1, hb⟩ := hd
  subst e1
  cases a
  refine ⟨b, rfl, ?_⟩
  cases b with
  | true => exact (show wE Γ tb δ k from hb) ω σ H2 (S.ext e) Q fun v H3 d h3 e3 => q v H3 d h3 (e.trans e3)
  | false => exact q _ H2 _ hb e (.bl false)
theorem w_orV (h : wE Γ ta δ fun d => ∃ b, d = .bool b ∧ if b = true then k (.bool true) else wE Γ tb δ k) : wE Γ (tOrV ta tb) δ k := fun ω σ H S Q q => h ω σ H S _ fun v H2 d hd e a => by
  obtain ⟨b, e1, hb⟩ := hd
  subst e1
  cases a
  refine ⟨b, rfl, ?_⟩
  cases b with
  | true => exact q _ H2 _ hb e (.bl true)
  | false => exact (show wE Γ tb δ k from hb) ω σ H2 (S.ext e) Q fun v H3 d h3 e3 => q v H3 d h3 (e.trans e3)
theorem w_notV (h : wE Γ ta δ fun d => ∃ b, d = .bool b ∧ k (.bool (!b))) : wE Γ (tNotV ta) δ k := fun ω σ H S Q q => h ω σ H S _ fun v H2 d hd e a => by
  obtain ⟨b, e1, hb⟩ := hd
  subst e1
  cases a
  exact ⟨b, rfl, q _ H2 _ hb e (.bl _)⟩
theorem w_nil {k : List PyData → Prop} (hk : k []) : wA Γ tNil δ k := fun ω σ H S Q q => q [] H [] hk .refl .nil
theorem w_cons {ta : TE} {tr : TA} {k : List PyData → Prop} (h : wE Γ ta δ fun d => wA Γ tr δ fun ds => k (d :: ds)) : wA Γ (tCons ta tr) δ k := fun ω σ H S Q q =>
  h ω σ H S _ fun v H1 d hd e1 a1 => hd ω σ H1 (S.ext e1) _ fun vs H2 ds h2 e2 a2 => q (v :: vs) H2 (d :: ds) h2 (e1.trans e2) (.cons ((e2.hid S.wa).dp a1) a2)
theorem sizeOk {n : Nat} (h : n ≤ 16777216) : n ≤ sizeLine := by rw [sizeLine_eq]; exact h
theorem w_tup {ta : TA} (h : wA Γ ta δ fun ds => ds.length ≤ 16777216 ∧ k (.tuple ds)) : wE Γ (tTup ta) δ k := fun ω σ H S Q q => h ω σ H S _ fun vs H2 ds ⟨h1, h2⟩ e a => by
  refine ⟨sizeOk (by rw [dpLen a]; exact h1), fun p hp => ?_⟩
  have na := S.fresh (S.back e hp)
  exact q _ _ _ h2 (e.trans (.new hp)) (.tup (.of (by rw [hid_no na, upd_same])) (((Ext.new (Γ := Γ) (W := ω.W) hp).hid S.wa).dpAll a))
theorem w_lst {ta : TA} {k : List PyData → Prop} (h : wA Γ ta δ fun ds => ds.length ≤ 16777216 ∧ k ds) : wN Γ (tLst ta) δ k := fun ω σ H S Q q => h ω σ H S _ fun vs H2 ds ⟨h1, h2⟩ e a => by
  refine ⟨sizeOk (by rw [dpLen a]; exact h1), fun p hp => ?_⟩
  exact q p vs _ ds h2 (e.trans (.new hp)) (S.back e hp) upd_same ((le_add ((Ext.new (Γ := Γ) (W := ω.W) hp).hid S.wa) hp).dpAll a)
theorem w_un {r : V → Hp → VK → Prop} (h : wE Γ ta δ fun d => ∀ (A W : Addr → Prop) (H : Hp) (x : V) (Q : VK), (∀ b, W b → A b) → Dp Γ.K (hid A H) x d → (∀ v H2 d, k d → Ext Γ W H H2 → Dp Γ.K (hid A H2) v d → Q v H2) → r x H Q) : wE Γ (tUn r ta) δ k := fun ω σ H S Q q =>
  h ω σ H S _ fun x H1 d hd e1 a1 => hd ω.A ω.W H1 x Q S.wa a1 fun v H2 d kd e2 a2 => q v H2 d kd (e1.trans e2) a2
theorem w_neg (h : wE Γ ta δ fun d => ∃ i, d = .int i ∧ k (.int (-i))) : wE Γ (tUn (rU fun i => .int (-i)) ta) δ k := w_un (h.mono fun d ⟨i, e, hk⟩ A W H x Q hw a q => by
  subst e
  cases a
  exact ⟨i, rfl, q _ H _ hk .refl (.int _)⟩)

/-! ### a call on values -/
def CD (Γ : Gam) (r : List V → Hp → VK → Prop) (ds : List PyData) (k : PyData → Prop) : Prop := ∀ (A W : Addr → Prop) (H : Hp) (xs : List V) (Q : VK), (∀ b, W b → A b) → DpAll Γ.K (hid A H) xs ds → (∀ b, A b → H b ≠ none) →
  (∀ v H2 d, k d → Ext Γ W H H2 → Dp Γ.K (hid A H2) v d → Q v H2) → r xs H Q
theorem w_cb {r : List V → Hp → VK → Prop} {ta : TA} (h : wA Γ ta δ fun ds => CD Γ r ds k) : wE Γ (tCB r ta) δ k := fun ω σ H S Q q =>
  h ω σ H S _ fun xs H1 ds hd e1 a1 => hd ω.A ω.W H1 xs Q S.wa a1 ((S.ext e1).trn) fun v H2 d kd e2 a2 => q v H2 d kd (e1.trans e2) a2

/-! ### what a def promises of data -/
def Trk (A : Addr → Prop) (H : Hp) : Prop := ∀ b, A b → ∃ o, H b = some o ∧ NT o
/-- arguments in, a datum out; nothing else changes -/
def pureSp (Γ : Gam) (n : Nat) (pre : List PyData → Prop) (post : List PyData → PyData → Prop) : Sp := fun vs H Q _ =>
  vs.length = n ∧ ∃ (A : Addr → Prop) (ds : List PyData), Trk A H ∧ (∀ P ∈ Γ.cs, TabG H P) ∧ DpAll Γ.K (hid A H) vs ds ∧ pre ds ∧ ∀ v H' d, post ds d → Ext Γ (fun _ => False) H H' → Dp Γ.K (hid A H') v d → Q v H'
/-- .., a new list out -/
def newSp (Γ : Gam) (n : Nat) (pre : List PyData → Prop) (post : List PyData → List PyData → Prop) : Sp := fun vs H Q _ =>
  vs.length = n ∧ ∃ (A : Addr → Prop) (ds : List PyData), Trk A H ∧ (∀ P ∈ Γ.cs, TabG H P) ∧ DpAll Γ.K (hid A H) vs ds ∧ pre ds ∧
    ∀ p us H' es, post ds es → Ext Γ (fun _ => False) H H' → H p = none → H' p = some (.lst us) → DpAll Γ.K (hid (fun b => A b ∨ b = p) H') us es → Q (.ref p) H'
/-- a well and arguments in, a datum out; the well may change -/
def wellSp (Γ : Gam) (n : Nat) (pre : List PyData → Prop) (post : List PyData → PyData → Prop) : Sp := fun vs H Q _ =>
  ∃ (a : Addr) (us : List V), vs = .ref a :: us ∧ us.length = n ∧ ∃ (A : Addr → Prop) (ds : List PyData), A a ∧ WellAt Γ.WI H a ∧ Trk A H ∧ (∀ P ∈ Γ.cs, TabG H P) ∧ DpAll Γ.K (hid A H) us ds ∧ pre ds ∧
    ∀ v H' d, post ds d → Ext Γ (fun b => b = a) H H' → Dp Γ.K (hid A H') v d → Q v H'
theorem w_call {n : Nat} {pre : List PyData → Prop} {post : List PyData → PyData → Prop} {E : XK} {ta : TA} (h : wA Γ ta δ fun ds => ds.length = n ∧ pre ds ∧ ∀ d, post ds d → k d) : wE Γ (tCall (pureSp Γ n pre post) [] E ta) δ k := fun ω σ H S Q q =>
  h ω σ H S _ fun xs H1 ds ⟨hn, hp, hk⟩ e1 a1 => by
    rw [List.append_nil]
    exact ⟨(dpLen a1).trans hn, ω.A, ds, (S.ext e1).tr, (S.ext e1).tabs, a1, hp, fun v H2 d hd e2 a2 => q v H2 d (hk d hd) (e1.trans e2.of0) a2⟩
theorem w_callN {n : Nat} {pre : List PyData → Prop} {post : List PyData → List PyData → Prop} {E : XK} {ta : TA} {k : List PyData → Prop} (h : wA Γ ta δ fun ds => ds.length = n ∧ pre ds ∧ ∀ d, post ds d → k d) : wN Γ (tCall (newSp Γ n pre post) [] E ta) δ k := fun ω σ H S Q q =>
  h ω σ H S _ fun xs H1 ds ⟨hn, hp, hk⟩ e1 a1 => by
    rw [List.append_nil]
    exact ⟨(dpLen a1).trans hn, ω.A, ds, (S.ext e1).tr, (S.ext e1).tabs, a1, hp, fun p us H2 d hd e2 hf h2 a2 => q p us H2 d (hk d hd) (e1.trans e2.of0) (S.back e1 hf) h2 a2⟩
theorem Ext.one {ω : Ow} {σ : L2.St} {H H2 : Hp} {a : Addr} (S : Si Γ ω σ H δ) (hw : ω.W a) (e : Ext Γ (fun b => b = a) H H2) : Ext Γ ω.W H H2 :=
  ⟨fun b o h n nw => e.keep b o h n fun z => nw (by rw [z]; exact hw), e.tab, fun b _ hb => by
    by_cases z : b = a
    · subst z; exact e.well b rfl hb
    · obtain ⟨xs, h1, h2⟩ := hb
      exact ⟨xs, e.keep b _ h1 (fun _ z => nomatch z) z, h2⟩⟩
theorem w_callW {i n : Nat} {pre : List PyData → Prop} {post : List PyData → PyData → Prop} {E : XK} {ta : TA} (hi : δ[i]? = some (some SC.w)) (h : wA Γ ta δ fun ds => ds.length = n ∧ pre ds ∧ ∀ d, post ds d → k d) : wE Γ (tCall (wellSp Γ n pre post) [] E (tCons (tVar i) ta)) δ k := fun ω σ H S Q q => by
  obtain ⟨a, h1, h2⟩ := S.well i hi
  refine ⟨.ref a, h1, h ω σ H S _ fun xs H1 ds ⟨hn, hp, hk⟩ e1 a1 => ?_⟩
  have S1 := S.ext e1
  show wellSp Γ n pre post ((V.ref a :: xs) ++ []) H1 Q E
  rw [List.append_nil]
  exact ⟨a, xs, rfl, (dpLen a1).trans hn, ω.A, ds, S.wa a h2, S1.wells a h2, S1.tr, S1.tabs, a1, hp, fun v H2 d hd e2 a2 => q v H2 d (hk d hd) (e1.trans (Ext.one S1 h2 e2)) a2⟩
/-- by keywords: the parameters' order -/
theorem w_callK {n : Nat} {pre : List PyData → Prop} {post : List PyData → PyData → Prop} {E : XK} {ta tk : TA} {gV : List V → List V → List V} {gD : List PyData → List PyData → List PyData}
    (hg : ∀ {A : Addr → Prop} {H : Hp} {vs us : List V} {ds es : List PyData}, DpAll Γ.K (hid A H) vs ds → DpAll Γ.K (hid A H) us es → DpAll Γ.K (hid A H) (gV vs us) (gD ds es))
    (h : wA Γ ta δ fun ds => wA Γ tk δ fun es => (gD ds es).length = n ∧ pre (gD ds es) ∧ ∀ d, post (gD ds es) d → k d) : wE Γ (tCallK (pureSp Γ n pre post) gV E ta tk) δ k := fun ω σ H S Q q =>
  h ω σ H S _ fun xs H1 ds hh e1 a1 => hh ω σ H1 (S.ext e1) _ fun us H2 es ⟨hn, hp, hk⟩ e2 a2 => by
    have S2 := (S.ext e1).ext e2
    have a3 := hg ((e2.hid S.wa).dpAll a1) a2
    exact ⟨(dpLen a3).trans hn, ω.A, _, S2.tr, S2.tabs, a3, hp, fun v H3 d hd e3 a4 => q v H3 d (hk d hd) ((e1.trans e2).trans e3.of0) a4⟩
end

/-! ### statements -/
structure Stp (Γ : Gam) (ω : Ow) (H : Hp) (ω' : Ow) (H' : Hp) : Prop where
  keep : ∀ b o, H b = some o → NT o → ¬ ω.M b → H' b = some o
  tab : TabLe H H'
  well : ∀ b, ω.W b → ω'.W b
  wellp : ∀ b, ω.W b → WellAt Γ.WI H b → WellAt Γ.WI H' b
  fresh : ∀ b, ω'.M b → ω.M b ∨ H b = none
  avoid : ∀ b, ω.A b → ¬ ω.M b ∨ ω.W b → ω'.A b
  af : ∀ b, ω'.A b → ω.A b ∨ H b = none
theorem Stp.refl {Γ : Gam} {ω : Ow} {H : Hp} : Stp Γ ω H ω H := ⟨fun _ _ h _ _ => h, TabLe.refl H, fun _ h => h, fun _ _ h => h, fun _ h => .inl h, fun _ h _ => h, fun _ h => .inl h⟩
theorem Ext.stp {Γ : Gam} {ω : Ow} {σ : L2.St} {H H' : Hp} {δ : Sl} (S : Si Γ ω σ H δ) (e : Ext Γ ω.W H H') : Stp Γ ω H ω H' :=
  ⟨fun b o h n nm => e.keep b o h n fun w => nm (S.wm b w), e.tab, fun _ h => h, e.well, fun _ h => .inl h, fun _ h _ => h, fun _ h => .inl h⟩
theorem gone {Γ : Gam} {ω ω1 : Ow} {H H1 : Hp} (s : Stp Γ ω H ω1 H1) {p : Addr} (hm : ¬ ω.M p) (hp : H1 p = none) : H p = none := by
  cases hq : H p with
  | none => rfl
  | some o =>
    by_cases n : NT o
    · rw [s.keep p o hq n hm] at hp; cases hp
    · have : ∃ ps, o = .tbl ps := by
        cases o <;> first | exact ⟨_, rfl⟩ | exact (n fun _ z => nomatch z).elim
      obtain ⟨ps, rfl⟩ := this
      obtain ⟨_, h1, _⟩ := s.tab p ps hq
      rw [hp] at h1; cases h1
theorem Stp.trans {Γ : Gam} {ω ω1 ω2 : Ow} {H H1 H2 : Hp} (tr : Trk ω.A H) (ma : ∀ b, ω.M b → ω.A b) (a : Stp Γ ω H ω1 H1) (b : Stp Γ ω1 H1 ω2 H2) : Stp Γ ω H ω2 H2 where
  keep := fun c o h n nm => b.keep c o (a.keep c o h n nm) n fun z => by
    rcases a.fresh c z with y | y
    · exact nm y
    · rw [h] at y; cases y
  tab := a.tab.trans b.tab
  well := fun c w => b.well c (a.well c w)
  wellp := fun c w h => b.wellp c (a.well c w) (a.wellp c w h)
  fresh := fun c m => by
    rcases b.fresh c m with y | y
    · exact a.fresh c y
    · by_cases hm : ω.M c
      · exact .inl hm
      · exact .inr (gone a hm y)
  avoid := fun c ha hc => by
    refine b.avoid c (a.avoid c ha hc) ?_
    rcases hc with hc | hc
    · refine .inl fun z => ?_
      rcases a.fresh c z with y | y
      · exact hc y
      · obtain ⟨o, h1, _⟩ := tr c ha
        rw [h1] at y; cases y
    · exact .inr (a.well c hc)
  af := fun c h => by
    rcases b.af c h with y | y
    · exact a.af c y
    · by_cases hm : ω.M c
      · exact .inl (ma c hm)
      · exact .inr (gone a hm y)
structure DEnd where
  nx : Sl → Prop
  rt : PyData → Prop
  rn : List PyData → Prop := fun _ => False
  bk : Sl → Prop := fun _ => False
  ct : Sl → Prop := fun _ => False
/-- the data's ends, borne by the ends over heaps -/
structure EndOk (Γ : Gam) (ω : Ow) (H : Hp) (E : DEnd) (D : Ends) : Prop where
  nx : ∀ ω' σ' H' δ', E.nx δ' → Si Γ ω' σ' H' δ' → Stp Γ ω H ω' H' → D.nx σ' H'
  bk : ∀ ω' σ' H' δ', E.bk δ' → Si Γ ω' σ' H' δ' → Stp Γ ω H ω' H' → D.bk σ' H'
  ct : ∀ ω' σ' H' δ', E.ct δ' → Si Γ ω' σ' H' δ' → Stp Γ ω H ω' H' → D.ct σ' H'
  rt : ∀ (ω' : Ow) v H' d, E.rt d → Stp Γ ω H ω' H' → Dp Γ.K (hid ω'.A H') v d → D.rt v H'
  rn : ∀ (ω' : Ow) p us H' ds, E.rn ds → Stp Γ ω H ω' H' → (ω.M p ∧ ¬ ω.W p) ∨ H p = none → H' p = some (.lst us) → DpAll Γ.K (hid (fun b => ω'.A b ∨ b = p) H') us ds → D.rt (.ref p) H'
theorem EndOk.step {Γ : Gam} {ω ω1 : Ow} {σ : L2.St} {δ : Sl} {H H1 : Hp} {E : DEnd} {D : Ends} (S : Si Γ ω σ H δ) (s : Stp Γ ω H ω1 H1) (h : EndOk Γ ω H E D) : EndOk Γ ω1 H1 E D where
  nx := fun ω' σ' H' δ' e S' t => h.nx ω' σ' H' δ' e S' (s.trans S.tr S.ma t)
  bk := fun ω' σ' H' δ' e S' t => h.bk ω' σ' H' δ' e S' (s.trans S.tr S.ma t)
  ct := fun ω' σ' H' δ' e S' t => h.ct ω' σ' H' δ' e S' (s.trans S.tr S.ma t)
  rt := fun ω' v H' d e t a => h.rt ω' v H' d e (s.trans S.tr S.ma t) a
  rn := fun ω' p us H' ds e t hp h1 a => h.rn ω' p us H' ds e (s.trans S.tr S.ma t) (by
    rcases hp with ⟨m, w⟩ | hp
    · rcases s.fresh p m with y | y
      · exact .inl ⟨y, fun z => w (s.well p z)⟩
      · exact .inr y
    · by_cases hm : ω.M p
      · by_cases hw : ω.W p
        · obtain ⟨xs, h2, _⟩ := s.wellp p hw (S.wells p hw)
          rw [hp] at h2; cases h2
        · exact .inl ⟨hm, hw⟩
      · exact .inr (gone s hm hp)) h1 a
def wS (Γ : Gam) (t : TS) (δ : Sl) (E : DEnd) : Prop := ∀ ω σ H, Si Γ ω σ H δ → ∀ D : Ends, EndOk Γ ω H E D → t D σ H

section
variable {Γ : Gam} {δ : Sl} {te ta tb : TE} {t u : TS} {tt : TT} {E : DEnd}
/-! ### slots set -/
theorem sGet {α : Type} {l : List α} {i j : Nat} {x y : α} (h : (l.set i x)[j]? = some y) : (i = j ∧ y = x ∧ j < l.length) ∨ (i ≠ j ∧ l[j]? = some y) := by
  by_cases e : i = j
  · subst e
    by_cases hl : i < l.length
    · rw [List.getElem?_set_self hl] at h
      exact .inl ⟨rfl, (Option.some.inj h).symm, hl⟩
    · rw [List.getElem?_eq_none (by simpa using hl)] at h
      cases h
  · rw [List.getElem?_set_ne e] at h
    exact .inr ⟨e, h⟩
theorem Si.setD {ω : Ow} {σ : L2.St} {H : Hp} {i : Nat} {v : V} {d : PyData} (S : Si Γ ω σ H δ) (a : Dp Γ.K (hid ω.A H) v d) : Si Γ ω (σ.set i (some v)) H (δ.set i (some (.d d))) where
  wm := S.wm
  ma := S.ma
  tr := S.tr
  tabs := S.tabs
  wells := S.wells
  len := by rw [List.length_set, List.length_set]; exact S.len
  slot := fun j x h => by
    rcases sGet h with ⟨rfl, e, hl⟩ | ⟨ne, h⟩
    · cases e
      exact ⟨v, List.getElem?_set_self (by rw [S.len]; exact hl), a⟩
    · rw [List.getElem?_set_ne ne]; exact S.slot j x h
  own := fun j ds h => by
    rcases sGet h with ⟨rfl, e, hl⟩ | ⟨ne, h⟩
    · cases e
    · rw [List.getElem?_set_ne ne]; exact S.own j ds h
  well := fun j h => by
    rcases sGet h with ⟨rfl, e, hl⟩ | ⟨ne, h⟩
    · cases e
    · rw [List.getElem?_set_ne ne]; exact S.well j h
  inj := fun j1 j2 l ds es n h1 h2 => by
    rcases sGet h1 with ⟨rfl, e, hl⟩ | ⟨n1, h1⟩
    · cases e
    rcases sGet h2 with ⟨rfl, e, hl⟩ | ⟨n2, h2⟩
    · cases e
    rw [List.getElem?_set_ne n1, List.getElem?_set_ne n2]
    exact S.inj j1 j2 l ds es n h1 h2
/-- a new list becomes one's own -/
def Ow.add (ω : Ow) (p : Addr) : Ow := ⟨fun b => ω.A b ∨ b = p, fun b => ω.M b ∨ b = p, ω.W⟩
theorem Si.ntW {ω : Ow} {σ : L2.St} {H : Hp} (S : Si Γ ω σ H δ) {p : Addr} (hp : H p = none) : ¬ ω.W p := fun z => S.fresh hp (S.wa p z)
theorem Si.addL {ω : Ow} {σ : L2.St} {H H2 : Hp} {i : Nat} {p : Addr} {vs : List V} {ds : List PyData} (S : Si Γ ω σ H δ) (e : Ext Γ ω.W H H2) (hp : H p = none) (h2 : H2 p = some (.lst vs)) (a : DpAll Γ.K (hid (fun b => ω.A b ∨ b = p) H2) vs ds) :
    Si Γ (ω.add p) (σ.set i (some (.ref p))) H2 (δ.set i (some (.l ds))) := by
  have S2 := S.ext e
  have np : ¬ ω.A p := S.fresh hp
  have le : Le (hid ω.A H) (hid (fun b => ω.A b ∨ b = p) H2) := le_add (e.hid S.wa) hp
  refine ⟨fun b h => .inl (S.wm b h), fun b h => h.imp (S.ma b) id, fun b h => ?_, S2.tabs, S2.wells, by rw [List.length_set, List.length_set]; exact S.len, fun j x h => ?_, fun j es h => ?_, fun j h => ?_, fun j1 j2 l es fs n h1 h2' q1 => ?_⟩
  · rcases h with h | h
    · exact S2.tr b h
    · subst h; exact ⟨_, h2, fun _ z => nomatch z⟩
  · rcases sGet h with ⟨rfl, z, hl⟩ | ⟨ne, h⟩
    · cases z
    · rw [List.getElem?_set_ne ne]
      obtain ⟨v, h1, h3⟩ := S.slot j x h
      exact ⟨v, h1, le.dp h3⟩
  · rcases sGet h with ⟨rfl, z, hl⟩ | ⟨ne, h⟩
    · cases z
      exact ⟨p, vs, List.getElem?_set_self (by rw [S.len]; exact hl), .inr rfl, S.ntW hp, h2, a⟩
    · rw [List.getElem?_set_ne ne]
      obtain ⟨l, us, h1, h3, h4, h5, h6⟩ := S.own j es h
      exact ⟨l, us, h1, .inl h3, h4, e.keep l _ h5 (fun _ z => nomatch z) h4, le.dpAll h6⟩
  · rcases sGet h with ⟨rfl, z, hl⟩ | ⟨ne, h⟩
    · cases z
    · rw [List.getElem?_set_ne ne]; exact S.well j h
  · have ol : ∀ {j : Nat} {es : List PyData}, δ[j]? = some (some (SC.l es)) → σ[j]? ≠ some (some (V.ref p)) := fun {j es} h z => by
      obtain ⟨l, us, z1, z2, _⟩ := S.own j es h
      rw [z] at z1
      cases z1
      exact np (S.ma p z2)
    rcases sGet h1 with ⟨rfl, z, hl⟩ | ⟨n1, h1⟩
    · rcases sGet h2' with ⟨rfl, z, hl⟩ | ⟨n2, h2'⟩
      · exact absurd rfl n
      · rw [List.getElem?_set_self (by rw [S.len]; exact hl)] at q1
        cases q1
        rw [List.getElem?_set_ne n2]
        exact ol h2'
    · rw [List.getElem?_set_ne n1] at q1
      rcases sGet h2' with ⟨rfl, z, hl⟩ | ⟨n2, h2'⟩
      · rw [List.getElem?_set_self (by rw [S.len]; exact hl)]
        intro z2
        cases z2
        exact ol h1 q1
      · rw [List.getElem?_set_ne n2]
        exact S.inj j1 j2 l es fs n h1 h2' q1
theorem stp_add {ω : Ow} {σ : L2.St} {H H2 : Hp} {p : Addr} (S : Si Γ ω σ H δ) (e : Ext Γ ω.W H H2) (hp : H p = none) : Stp Γ ω H (ω.add p) H2 :=
  ⟨fun b o h n nm => e.keep b o h n fun w => nm (S.wm b w), e.tab, fun _ h => h, e.well, fun b h => h.elim .inl fun z => .inr (by rw [z]; exact hp), fun _ h _ => .inl h, fun b h => h.elim .inl fun z => .inr (by rw [z]; exact hp)⟩
/-- a new list becomes a well -/
def Ow.addW (ω : Ow) (p : Addr) : Ow := ⟨fun b => ω.A b ∨ b = p, fun b => ω.M b ∨ b = p, fun b => ω.W b ∨ b = p⟩
theorem Si.addW {ω : Ow} {σ : L2.St} {H H2 : Hp} {i : Nat} {p : Addr} {xs : List Int} (S : Si Γ ω σ H δ) (e : Ext Γ ω.W H H2) (hp : H p = none) (h2 : H2 p = some (.lst (xs.map V.int))) (hx : Γ.WI xs) :
    Si Γ (ω.addW p) (σ.set i (some (.ref p))) H2 (δ.set i (some .w)) := by
  have S2 := S.ext e
  have np : ¬ ω.A p := S.fresh hp
  have le : Le (hid ω.A H) (hid (fun b => ω.A b ∨ b = p) H2) := le_add (e.hid S.wa) hp
  refine ⟨fun b h => h.imp (S.wm b) id, fun b h => h.imp (S.ma b) id, fun b h => ?_, S2.tabs, fun b h => ?_, by rw [List.length_set, List.length_set]; exact S.len, fun j x h => ?_, fun j es h => ?_, fun j h => ?_, fun j1 j2 l es fs n h1 h2' q1 => ?_⟩
  · rcases h with h | h
    · exact S2.tr b h
    · subst h; exact ⟨_, h2, fun _ z => nomatch z⟩
  · rcases h with h | h
    · exact S2.wells b h
    · subst h; exact ⟨xs, h2, hx⟩
  · rcases sGet h with ⟨rfl, z, hl⟩ | ⟨ne, h⟩
    · cases z
    · rw [List.getElem?_set_ne ne]
      obtain ⟨v, h1, h3⟩ := S.slot j x h
      exact ⟨v, h1, le.dp h3⟩
  · rcases sGet h with ⟨rfl, z, hl⟩ | ⟨ne, h⟩
    · cases z
    · rw [List.getElem?_set_ne ne]
      obtain ⟨l, us, h1, h3, h4, h5, h6⟩ := S.own j es h
      refine ⟨l, us, h1, .inl h3, fun z => z.elim h4 fun z => ?_, e.keep l _ h5 (fun _ z => nomatch z) h4, le.dpAll h6⟩
      subst z
      exact np (S.ma _ h3)
  · rcases sGet h with ⟨rfl, z, hl⟩ | ⟨ne, h⟩
    · exact ⟨p, List.getElem?_set_self (by rw [S.len]; exact hl), .inr rfl⟩
    · rw [List.getElem?_set_ne ne]
      obtain ⟨b, h1, h3⟩ := S.well j h
      exact ⟨b, h1, .inl h3⟩
  · rcases sGet h1 with ⟨rfl, z, hl⟩ | ⟨n1, h1⟩
    · cases z
    rcases sGet h2' with ⟨rfl, z, hl⟩ | ⟨n2, h2'⟩
    · cases z
    rw [List.getElem?_set_ne n1] at q1
    rw [List.getElem?_set_ne n2]
    exact S.inj j1 j2 l es fs n h1 h2' q1
theorem stp_addW {ω : Ow} {σ : L2.St} {H H2 : Hp} {p : Addr} (S : Si Γ ω σ H δ) (e : Ext Γ ω.W H H2) (hp : H p = none) : Stp Γ ω H (ω.addW p) H2 :=
  ⟨fun b o h n nm => e.keep b o h n fun w => nm (S.wm b w), e.tab, fun _ h => .inl h, e.well, fun b h => h.elim .inl fun z => .inr (by rw [z]; exact hp), fun _ h _ => .inl h, fun b h => h.elim .inl fun z => .inr (by rw [z]; exact hp)⟩
/-- an own list changes -/
theorem hid_upd {A : Addr → Prop} {H : Hp} {l : Addr} {o : HO} (h : A l) : hid A (upd H l o) = hid A H := by
  funext b
  by_cases e : A b
  · rw [hid_yes e, hid_yes e]
  · rw [hid_no e, hid_no e, upd_ne (fun z => e (by rw [z]; exact h))]
theorem Si.updL {ω : Ow} {σ : L2.St} {H : Hp} {i : Nat} {l : Addr} {us vs : List V} {ds es : List PyData} (S : Si Γ ω σ H δ) (hi : δ[i]? = some (some (SC.l ds))) (hs : σ[i]? = some (some (V.ref l))) (hm : ω.M l) (hw : ¬ ω.W l) (hl : H l = some (.lst us)) (a : DpAll Γ.K (hid ω.A H) vs es) :
    Si Γ ω σ (upd H l (.lst vs)) (δ.set i (some (.l es))) := by
  have eh : hid ω.A (upd H l (.lst vs)) = hid ω.A H := hid_upd (S.ma l hm)
  refine ⟨S.wm, S.ma, fun b h => ?_, fun P h => ?_, fun b h => ?_, by rw [List.length_set]; exact S.len, fun j x h => ?_, fun j fs h => ?_, fun j h => ?_, fun j1 j2 l' es' fs n h1 h2 q1 => ?_⟩
  · by_cases e : b = l
    · subst e; exact ⟨_, upd_same, fun _ z => nomatch z⟩
    · rw [upd_ne e]; exact S.tr b h
  · obtain ⟨ps, h1, h2⟩ := S.tabs P h
    exact ⟨ps, by rw [upd_ne (ne_of h1 hl fun z => nomatch z)]; exact h1, h2⟩
  · obtain ⟨xs, h1, h2⟩ := S.wells b h
    exact ⟨xs, by rw [upd_ne (fun z => hw (by rw [← z]; exact h))]; exact h1, h2⟩
  · rw [eh]
    rcases sGet h with ⟨rfl, z, _⟩ | ⟨ne, h⟩
    · cases z
    · exact S.slot j x h
  · rw [eh]
    rcases sGet h with ⟨rfl, z, _⟩ | ⟨ne, h⟩
    · cases z
      exact ⟨l, vs, hs, hm, hw, upd_same, a⟩
    · obtain ⟨l', us', h1, h3, h4, h5, h6⟩ := S.own j fs h
      have nl : l' ≠ l := fun z => by
        subst z
        exact S.inj i j l' ds fs ne hi h hs h1
      exact ⟨l', us', h1, h3, h4, by rw [upd_ne nl]; exact h5, h6⟩
  · rcases sGet h with ⟨rfl, z, _⟩ | ⟨ne, h⟩
    · cases z
    · exact S.well j h
  · have g1 : ∃ es0, δ[j1]? = some (some (SC.l es0)) := by
      rcases sGet h1 with ⟨rfl, z, _⟩ | ⟨_, h1⟩
      · exact ⟨_, hi⟩
      · exact ⟨_, h1⟩
    have g2 : ∃ es0, δ[j2]? = some (some (SC.l es0)) := by
      rcases sGet h2 with ⟨rfl, z, _⟩ | ⟨_, h2⟩
      · exact ⟨_, hi⟩
      · exact ⟨_, h2⟩
    obtain ⟨_, g1⟩ := g1
    obtain ⟨_, g2⟩ := g2
    exact S.inj j1 j2 l' _ _ n g1 g2 q1
theorem stp_upd {ω : Ow} {σ : L2.St} {H : Hp} {l : Addr} {us vs : List V} (S : Si Γ ω σ H δ) (hm : ω.M l) (hw : ¬ ω.W l) (hl : H l = some (.lst us)) : Stp Γ ω H ω (upd H l (.lst vs)) := by
  refine ⟨fun b o h n nm => ?_, fun b ps h => ⟨ps, ?_, id⟩, fun _ h => h, fun b h ⟨xs, h1, h2⟩ => ⟨xs, ?_, h2⟩, fun _ h => .inl h, fun _ h _ => h, fun _ h => .inl h⟩
  · rw [upd_ne (fun z => nm (by rw [z]; exact hm))]; exact h
  · rw [upd_ne (ne_of h hl fun z => nomatch z)]; exact h
  · rw [upd_ne (fun z => hw (by rw [← z]; exact h))]; exact h1
/-- an own list is told as data from now on -/
theorem Si.freeze {ω : Ow} {σ : L2.St} {H : Hp} {i : Nat} {ds : List PyData} (S : Si Γ ω σ H δ) (hi : δ[i]? = some (some (SC.l ds))) :
    ∃ ω', Si Γ ω' σ H (δ.set i (some (.d (.list ds)))) ∧ Stp Γ ω H ω' H := by
  obtain ⟨l, vs, h1, h2, h3, h4, h5⟩ := S.own i ds hi
  have le : Le (hid ω.A H) (hid (fun b => ω.A b ∧ b ≠ l) H) := hid_less fun _ h => h.1
  refine ⟨⟨fun b => ω.A b ∧ b ≠ l, fun b => ω.M b ∧ b ≠ l, ω.W⟩, ⟨fun b h => ⟨S.wm b h, fun z => h3 (by rw [← z]; exact h)⟩, fun b h => ⟨S.ma b h.1, h.2⟩, fun b h => S.tr b h.1, S.tabs, S.wells, by rw [List.length_set]; exact S.len, fun j x h => ?_, fun j fs h => ?_, fun j h => ?_, fun j1 j2 l' es' fs n g1 g2 q1 => ?_⟩,
    ⟨fun _ _ h _ _ => h, TabLe.refl H, fun _ h => h, fun _ _ h => h, fun _ h => .inl h.1, fun b h hc => ⟨h, fun z => ?_⟩, fun _ h => .inl h.1⟩⟩
  · rcases sGet h with ⟨rfl, z, _⟩ | ⟨ne, h⟩
    · cases z
      exact ⟨_, h1, .lst (SqL.of (by rw [hid_no (fun z => z.2 rfl)]; exact h4)) (le.dpAll h5)⟩
    · obtain ⟨v, g1, g2⟩ := S.slot j x h
      exact ⟨v, g1, le.dp g2⟩
  · rcases sGet h with ⟨rfl, z, _⟩ | ⟨ne, h⟩
    · cases z
    · obtain ⟨l', us', g1, g3, g4, g5, g6⟩ := S.own j fs h
      exact ⟨l', us', g1, ⟨g3, fun z => S.inj i j l ds fs ne hi h h1 (by rw [← z]; exact g1)⟩, g4, g5, le.dpAll g6⟩
  · rcases sGet h with ⟨rfl, z, _⟩ | ⟨ne, h⟩
    · cases z
    · exact S.well j h
  · rcases sGet g1 with ⟨rfl, z, _⟩ | ⟨_, g1⟩
    · cases z
    rcases sGet g2 with ⟨rfl, z, _⟩ | ⟨_, g2⟩
    · cases z
    exact S.inj j1 j2 l' es' fs n g1 g2 q1
  · subst z
    rcases hc with hc | hc
    · exact hc h2
    · exact h3 hc

/-! ### statements, one by one -/
theorem wS.mono {E' : DEnd} (h : wS Γ t δ E) (h1 : ∀ δ', E.nx δ' → E'.nx δ') (h2 : ∀ d, E.rt d → E'.rt d) (h3 : ∀ d, E.rn d → E'.rn d) (h4 : ∀ δ', E.bk δ' → E'.bk δ') (h5 : ∀ δ', E.ct δ' → E'.ct δ') : wS Γ t δ E' := fun ω σ H S D hD =>
  h ω σ H S D ⟨fun a b c d e => hD.nx a b c d (h1 d e), fun a b c d e => hD.bk a b c d (h4 d e), fun a b c d e => hD.ct a b c d (h5 d e), fun a b c d e => hD.rt a b c d (h2 d e), fun a b c d e f => hD.rn a b c d e (h3 e f)⟩
theorem s_seq (h : wS Γ t δ { E with nx := fun δ' => wS Γ u δ' E }) : wS Γ (tSeq t u) δ E := fun ω σ H S D hD =>
  h ω σ H S _ ⟨fun ω' σ' H' δ' e S' s => e ω' σ' H' S' D (hD.step S s), hD.bk, hD.ct, hD.rt, hD.rn⟩
theorem s_next (h : E.nx δ) : wS Γ tNext δ E := fun ω σ H S D hD => hD.nx ω σ H δ h S .refl
theorem s_brk (h : E.bk δ) : wS Γ tBreak δ E := fun ω σ H S D hD => hD.bk ω σ H δ h S .refl
theorem s_cont (h : E.ct δ) : wS Γ tCont δ E := fun ω σ H S D hD => hD.ct ω σ H δ h S .refl
theorem s_drop (h : wE Γ te δ fun _ => E.nx δ) : wS Γ (tDrop te) δ E := fun ω σ H S D hD => h ω σ H S _ fun v H2 d hd e a => hD.nx ω σ H2 δ hd (S.ext e) (e.stp S)
theorem s_ret (h : wE Γ te δ E.rt) : wS Γ (tRet te) δ E := fun ω σ H S D hD => h ω σ H S _ fun v H2 d hd e a => hD.rt ω v H2 d hd (e.stp S) a
theorem s_retN (h : wN Γ te δ E.rn) : wS Γ (tRet te) δ E := fun ω σ H S D hD => h ω σ H S _ fun p vs H2 d hd e hp h2 a => hD.rn ω p vs H2 d hd (e.stp S) (.inr hp) h2 a
theorem s_retL {i : Nat} {ds : List PyData} (hi : δ[i]? = some (some (SC.l ds))) (h : E.rn ds) : wS Γ (tRet (tVar i)) δ E := fun ω σ H S D hD => by
  obtain ⟨l, vs, h1, h2, h3, h4, h5⟩ := S.own i ds hi
  refine ⟨_, h1, hD.rn ω l vs H ds h .refl (.inl ⟨h2, h3⟩) h4 ?_⟩
  have e : (fun b => ω.A b ∨ b = l) = ω.A := by
    funext b
    exact propext ⟨fun z => z.elim id fun z => by rw [z]; exact S.ma l h2, .inl⟩
  rw [e]
  exact h5
theorem s_retV (h : E.rt .none) : wS Γ tRetN δ E := fun ω σ H S D hD => hD.rt ω .non H .none h .refl .non
theorem s_if (h : wT Γ tt δ fun b => if b = true then wS Γ t δ E else wS Γ u δ E) : wS Γ (tIfS tt t u) δ E := fun ω σ H S D hD => h ω σ H S _ fun b H2 hb e => by
  have hD2 := hD.step S (e.stp S)
  cases b with
  | true => exact (show wS Γ t δ E from hb) ω σ H2 (S.ext e) D hD2
  | false => exact (show wS Γ u δ E from hb) ω σ H2 (S.ext e) D hD2
theorem s_asg {i : Nat} (h : wE Γ te δ fun d => E.nx (δ.set i (some (.d d)))) : wS Γ (tAsg te (gName i)) δ E := fun ω σ H S D hD => h ω σ H S _ fun v H2 d hd e a => hD.nx ω _ H2 _ hd ((S.ext e).setD a) (e.stp S)
theorem s_asgL {i : Nat} (h : wN Γ te δ fun ds => E.nx (δ.set i (some (.l ds)))) : wS Γ (tAsg te (gName i)) δ E := fun ω σ H S D hD => h ω σ H S _ fun p vs H2 d hd e hp h2 a => hD.nx _ _ H2 _ hd (S.addL e hp h2 a) (stp_add S e hp)
theorem s_asgW {i : Nat} (h : wN Γ te δ fun ds => ∃ xs : List Int, ds = xs.map .int ∧ Γ.WI xs ∧ E.nx (δ.set i (some .w))) : wS Γ (tAsg te (gName i)) δ E := fun ω σ H S D hD => h ω σ H S _ fun p vs H2 d hd e hp h2 a => by
  obtain ⟨xs, rfl, hx, hn⟩ := hd
  rw [dpInts a] at h2
  exact hD.nx _ _ H2 _ hn (S.addW e hp h2 hx) (stp_addW S e hp)
theorem s_freeze (i : Nat) {ds : List PyData} (hi : δ[i]? = some (some (SC.l ds))) (h : wS Γ t (δ.set i (some (.d (.list ds)))) E) : wS Γ t δ E := fun ω σ H S D hD => by
  obtain ⟨ω', S', s⟩ := S.freeze hi
  exact h ω' σ H S' D (hD.step S s)
theorem s_aug {i : Nat} {f : Int → Int → Int} {a : Int} (hi : δ[i]? = some (some (SC.d (.int a)))) (h : wE Γ te δ fun d => ∃ b, d = .int b ∧ E.nx (δ.set i (some (.d (.int (f a b)))))) : wS Γ (tAug i te (ipI f)) δ E := fun ω σ H S D hD => by
  obtain ⟨v, h1, h2⟩ := S.slot i _ hi
  cases h2
  refine ⟨_, h1, h ω σ H S _ fun w H2 d hd e a2 => ?_⟩
  obtain ⟨b, rfl, hn⟩ := hd
  cases a2
  exact ⟨a, b, rfl, rfl, hD.nx ω _ H2 _ hn ((S.ext e).setD (.int _)) (e.stp S)⟩
theorem s_append {i : Nat} {ds : List PyData} (hi : δ[i]? = some (some (SC.l ds))) (h : wE Γ te δ fun d => ds.length < 16777216 ∧ E.nx (δ.set i (some (.l (ds ++ [d]))))) : wS Γ (tDrop (tBM Γ.K "list" rAppend (tVar i) (tCons te tNil))) δ E := fun ω σ H S D hD => by
  obtain ⟨l, vs, h1, h2, h3, h4, h5⟩ := S.own i ds hi
  refine ⟨_, h1, .inl ⟨rfl, vs, SqL.of h4⟩, h ω σ H S _ fun v H2 d hd e a => ?_⟩
  have S2 := S.ext e
  have g4 := e.keep l _ h4 (fun _ z => nomatch z) h3
  have g5 := (e.hid S.wa).dpAll h5
  refine ⟨l, vs, v, rfl, rfl, g4, ?_, hD.nx ω σ _ _ hd.2 (S2.updL hi h1 h2 h3 g4 (dpApp g5 (.cons a .nil))) ((e.stp S).trans S.tr S.ma (stp_upd S2 h2 h3 g4))⟩
  rw [dpLen h5, sizeLine_eq]
  exact hd.1
theorem s_extend {i : Nat} {ds : List PyData} (hi : δ[i]? = some (some (SC.l ds))) (h : wN Γ te δ fun es => ds.length + es.length ≤ 16777216 ∧ E.nx (δ.set i (some (.l (ds ++ es))))) : wS Γ (tDrop (tBM Γ.K "list" rExtend (tVar i) (tCons te tNil))) δ E := fun ω σ H S D hD => by
  obtain ⟨l, vs, h1, h2, h3, h4, h5⟩ := S.own i ds hi
  refine ⟨_, h1, .inl ⟨rfl, vs, SqL.of h4⟩, h ω σ H S _ fun p us H2 es hd e hp g2 a => ?_⟩
  have S2 := S.ext e
  have g4 := e.keep l _ h4 (fun _ z => nomatch z) h3
  have g5 := (e.hid S.wa).dpAll h5
  refine ⟨l, p, vs, us, rfl, rfl, g4, g2, ?_, hD.nx ω σ _ _ hd.2 (S2.updL hi h1 h2 h3 g4 (dpApp g5 (hid_1.dpAll a))) ((e.stp S).trans S.tr S.ma (stp_upd S2 h2 h3 g4))⟩
  rw [dpLen h5, dpLen a, sizeLine_eq]
  exact hd.1
theorem s_setL {i : Nat} {ds : List PyData} {ti : TE} (hi : δ[i]? = some (some (SC.l ds))) (h : wE Γ te δ fun d => wE Γ ti δ fun z => ∃ (n : Int) (j : Nat), z = .int n ∧ ixN ds.length n = some j ∧ E.nx (δ.set i (some (.l (ds.set j d))))) : wS Γ (tAsg te (gSub (tVar i) ti rSetL)) δ E := fun ω σ H S D hD => by
  refine h ω σ H S _ fun v H1 d hd e1 a1 => ?_
  have S1 := S.ext e1
  obtain ⟨l, vs, h1, h2, h3, h4, h5⟩ := S1.own i ds hi
  refine ⟨_, h1, hd ω σ H1 S1 _ fun w H2 z hz e2 a2 => ?_⟩
  obtain ⟨n, j, rfl, hj, hn⟩ := hz
  cases a2
  have S2 := S1.ext e2
  have g4 := e2.keep l _ h4 (fun _ z => nomatch z) h3
  have g5 := (e2.hid S.wa).dpAll h5
  exact ⟨l, vs, n, j, rfl, rfl, g4, by rw [dpLen h5]; exact hj, hD.nx ω σ _ _ hn (S2.updL hi h1 h2 h3 g4 (dpSet ((e2.hid S.wa).dp a1) j g5)) (((e1.trans e2).stp S).trans S.tr S.ma (stp_upd S2 h2 h3 g4))⟩
/-- while: an invariant and a measure -/
theorem s_while (I : Nat → Sl → Prop) {m : Nat} (h0 : I m δ) (hs : ∀ m δ', I m δ' → wT Γ tt δ' fun b => if b = true then wS Γ t δ' { E with nx := fun δ2 => ∃ m', m' < m ∧ I m' δ2, ct := fun δ2 => ∃ m', m' < m ∧ I m' δ2, bk := E.nx } else E.nx δ') : wS Γ (tWhile tt t) δ E := fun ω σ H S D hD => by
  refine ⟨fun m σ' H' => ∃ ω' δ', I m δ' ∧ Si Γ ω' σ' H' δ' ∧ Stp Γ ω H ω' H', ⟨m, ω, δ, h0, S, .refl⟩, fun m σ' H' ⟨ω', δ', hI, S', s'⟩ => ?_⟩
  refine hs m δ' hI ω' σ' H' S' _ fun b H2 hb e => ?_
  have S2 := S'.ext e
  have s2 : Stp Γ ω H ω' H2 := s'.trans S.tr S.ma (e.stp S')
  cases b with
  | true =>
    refine (if_pos rfl : (if true = true then _ else _) = _) ▸ ⟨fun σ' H' => ∃ m', m' < m ∧ ∃ ω' δ', I m' δ' ∧ Si Γ ω' σ' H' δ' ∧ Stp Γ ω H ω' H', fun σ3 H3 ⟨m', hm, ω3, δ3, g1, g2, g3⟩ => ⟨m', hm, ω3, δ3, g1, g2, g3⟩, ?_⟩
    have hD2 := hD.step S s2
    refine (show wS Γ t δ' _ from hb) ω' σ' H2 S2 _ ⟨?_, ?_, ?_, hD2.rt, hD2.rn⟩
    · intro ω3 σ3 H3 δ3 ⟨m', hm, g⟩ S3 s3
      exact ⟨m', hm, ω3, δ3, g, S3, s2.trans S.tr S.ma s3⟩
    · intro ω3 σ3 H3 δ3 g S3 s3
      exact hD2.nx ω3 σ3 H3 δ3 g S3 s3
    · intro ω3 σ3 H3 δ3 ⟨m', hm, g⟩ S3 s3
      exact ⟨m', hm, ω3, δ3, g, S3, s2.trans S.tr S.ma s3⟩
  | false => exact hD.nx ω' σ' H2 δ' hb S2 s2
end
end DW

set_option maxHeartbeats 2000001
/-! data: what is walked; for, comprehensions, generator expressions; defs entered -/
namespace DW
open PySem L2 PySem.Spec PyProof.Rows
open GxR (TabG Tabbed)

theorem Stp.hid {Γ : Gam} {ω ω' : Ow} {H H' : Hp} (ma : ∀ b, ω.M b → ω.A b) (s : Stp Γ ω H ω' H') : Le (hid ω.A H) (hid ω'.A H') := fun b o h n => by
  obtain ⟨na, h⟩ := hid_some h
  have na' : ¬ ω'.A b := fun z => by
    rcases s.af b z with y | y
    · exact na y
    · rw [h] at y; cases y
  rw [hid_no na']
  exact s.keep b o h n fun z => na (ma b z)

/-- what is walked hands out the data ds, in whatever heap P knows of -/
def ItOk (Γ : Gam) (P : (Addr → Prop) → Hp → Prop) (J : It) (ds : List PyData) : Prop := ∀ A H, P A H →
  J.stop ds.length H ∧ ∀ i d, ds[i]? = some d → J.go i H ∧ ∀ x H', J.yld i H x H' → (∀ W, (∀ b, A b → H b ≠ none) → Ext Γ W H H' ∧ Dp Γ.K (hid A H') x d)
/-- within an expression -/
def wI (Γ : Gam) (wi : TI) (δ : Sl) (k : List PyData → Prop) : Prop := ∀ ω σ H, Si Γ ω σ H δ → ∀ R : It → Hp → Prop,
  (∀ J H2 ds P, k ds → Ext Γ ω.W H H2 → ItOk Γ P J ds → (∀ H3, Ext Γ ω.W H2 H3 → P ω.A H3 ∧ ∀ p, H2 p = none → P (fun b => ω.A b ∨ b = p) H3) → R J H2) → wi σ H R
/-- of a for statement -/
def wIs (Γ : Gam) (wi : TI) (δ : Sl) (k : List PyData → Prop) : Prop := ∀ ω σ H, Si Γ ω σ H δ → ∀ R : It → Hp → Prop,
  (∀ J H2 ds P, k ds → Ext Γ ω.W H H2 → ItOk Γ P J ds → (∀ ω' H3, Stp Γ ω H2 ω' H3 → P ω'.A H3) → R J H2) → wi σ H R
section
variable {Γ : Gam} {δ : Sl} {te tl : TE} {k : List PyData → Prop} {X : Cx}
def PL (K : PySem.W.Frag) (a : Addr) (vs : List V) (ds : List PyData) (A : Addr → Prop) (H : Hp) : Prop := SqL K H a vs ∧ DpAll K (hid A H) vs ds
def PT (K : PySem.W.Frag) (a : Addr) (vs : List V) (ds : List PyData) (A : Addr → Prop) (H : Hp) : Prop := SqT K H a vs ∧ DpAll K (hid A H) vs ds
theorem sqL_at {K : PySem.W.Frag} {a : Addr} {vs : List V} {H : Hp} {i : Nat} {x : V} (h : SqL K H a vs) (q : ∀ xs, SqL K H a xs → xs[i]? = some x) : vs[i]? = some x := q vs h
theorem it_l {a : Addr} {vs : List V} {ds : List PyData} : ItOk Γ (PL Γ.K a vs ds) (Itl Γ.K a) ds := fun A H ⟨h1, h2⟩ => by
  refine ⟨⟨vs, h1, Nat.le_of_eq (dpLen h2)⟩, fun i d hd => ?_⟩
  obtain ⟨v, e1, e2⟩ := dpGet h2 hd
  refine ⟨⟨vs, v, h1, e1⟩, fun x H' hy => ?_⟩
  obtain ⟨rfl, hx⟩ := hy
  have ex := hx vs h1
  rw [e1] at ex
  cases ex
  exact fun W _ => ⟨.refl, e2⟩
theorem it_t {a : Addr} {vs : List V} {ds : List PyData} : ItOk Γ (PT Γ.K a vs ds) (Itt Γ.K a) ds := fun A H ⟨h1, h2⟩ => by
  refine ⟨⟨vs, h1, Nat.le_of_eq (dpLen h2)⟩, fun i d hd => ?_⟩
  obtain ⟨v, e1, e2⟩ := dpGet h2 hd
  refine ⟨⟨vs, v, h1, e1⟩, fun x H' hy => ?_⟩
  obtain ⟨rfl, hx⟩ := hy
  have ex := hx vs h1
  rw [e1] at ex
  cases ex
  exact fun W _ => ⟨.refl, e2⟩
theorem it_r {lo : Int} {n : Nat} : ItOk Γ (fun _ _ => True) (Itr lo n) ((List.range n).map fun i => .int (lo + (i : Nat))) := fun A H _ => by
  refine ⟨by rw [List.length_map, List.length_range]; exact Nat.le_refl _, fun i d hd => ?_⟩
  rw [List.getElem?_map] at hd
  have hi : i < n := by
    by_cases h : i < n
    · exact h
    · rw [List.getElem?_eq_none (by simpa using h)] at hd; cases hd
  rw [List.getElem?_range hi] at hd
  cases hd
  refine ⟨hi, fun x H' hy => ?_⟩
  obtain ⟨rfl, rfl⟩ := hy
  exact fun W _ => ⟨.refl, .int _⟩
/-- a list or a tuple -/
def iSeq (K : PySem.W.Frag) (tl : TE) : TI := fun σ H R => tl σ H fun x H1 => ∃ a, x = .ref a ∧ ((∃ xs, SqL K H1 a xs ∧ R (Itl K a) H1) ∨ (∃ xs, SqT K H1 a xs ∧ R (Itt K a) H1))
theorem pi_seq {tg l : Expr} (hl : PE X l tl) : PI X tg l (iSeq X.K tl) := by
  refine ⟨fun pins s σ H R I h => ?_⟩
  refine thn (hl.run pins s σ H _ I h) fun v s1 hv => ?_
  obtain ⟨x, H1, I1, r1, a, rfl, hq⟩ := hv
  cases r1
  rcases hq with ⟨xs, hs, q⟩ | ⟨xs, hs, q⟩
  · obtain ⟨its, rv, p, hz⟩ := I1.list hs
    refine wpAny_pyIter_list p.isList ?_
    refine ⟨s1.heap.objs.size, [s1.heap.objs.size], _, _, H1, rfl, I1.kept (t' := s1.toks) (fun b o e => Heap.get?_push_of_some _ e), turn_list a _, ⟨_, Heap.get?_push_size _ rfl, rfl, rfl⟩, fun b hb => ?_, q⟩
    obtain rfl : b = s1.heap.objs.size := by simpa using hb
    exact I1.fpOk (Nat.le_refl _) (I1.hok.fresh (Nat.le_refl _))
  · obtain ⟨its, rv, p, hz⟩ := I1.tuple hs
    refine wpAny_pyIter_tuple (show s1.heap.IsTuple a its.toArray from p) ?_
    refine ⟨s1.heap.objs.size, [s1.heap.objs.size], _, _, H1, rfl, I1.kept (t' := s1.toks) (fun b o e => Heap.get?_push_of_some _ e), turn_tuple a _, ⟨_, Heap.get?_push_size _ rfl, rfl, rfl⟩, fun b hb => ?_, q⟩
    obtain rfl : b = s1.heap.objs.size := by simpa using hb
    exact I1.fpOk (Nat.le_refl _) (I1.hok.fresh (Nat.le_refl _))

theorem PL.up {K : PySem.W.Frag} {a : Addr} {vs : List V} {ds : List PyData} {A A' : Addr → Prop} {H H' : Hp} (h : PL K a vs ds A H) (h1 : SqL K H' a vs) (e : Le (hid A H) (hid A' H')) : PL K a vs ds A' H' := ⟨h1, e.dpAll h.2⟩
/-- a list: own, new or data -/
theorem i_seqL (h : wL Γ tl δ k) : wI Γ (iSeq Γ.K tl) δ k := fun ω σ H S R q => h ω σ H S _ fun a vs H2 ds hk e st dp => by
  refine ⟨a, rfl, .inl ⟨vs, st H2 .refl, q _ H2 ds (PL Γ.K a vs ds) hk e it_l fun H3 e3 => ⟨⟨st H3 e3, (e3.hid S.wa).dpAll dp⟩, fun p hp => ⟨st H3 e3, (le_add (e3.hid S.wa) hp).dpAll dp⟩⟩⟩⟩
/-- a tuple or a list of data -/
theorem i_seqE (h : wE Γ tl δ fun d => ∃ ds, (d = .tuple ds ∨ d = .list ds) ∧ k ds) : wI Γ (iSeq Γ.K tl) δ k := fun ω σ H S R q => h ω σ H S _ fun v H2 d hd e a => by
  obtain ⟨ds, hd, hk⟩ := hd
  rcases hd with rfl | rfl
  · cases a with
    | tup hs ha =>
      refine ⟨_, rfl, .inr ⟨_, (hid_le _ _).seqT hs, q _ H2 ds (PT Γ.K _ _ ds) hk e it_t fun H3 e3 => ⟨⟨(hid_le _ _).seqT ((e3.hid S.wa).seqT hs), (e3.hid S.wa).dpAll ha⟩, fun p hp => ⟨(hid_le _ _).seqT ((e3.hid S.wa).seqT hs), (le_add (e3.hid S.wa) hp).dpAll ha⟩⟩⟩⟩
  · cases a with
    | lst hs ha =>
      refine ⟨_, rfl, .inl ⟨_, (hid_le _ _).seqL hs, q _ H2 ds (PL Γ.K _ _ ds) hk e it_l fun H3 e3 => ⟨⟨(hid_le _ _).seqL ((e3.hid S.wa).seqL hs), (e3.hid S.wa).dpAll ha⟩, fun p hp => ⟨(hid_le _ _).seqL ((e3.hid S.wa).seqL hs), (le_add (e3.hid S.wa) hp).dpAll ha⟩⟩⟩⟩
theorem is_seq (h : wE Γ tl δ fun d => ∃ ds, (d = .tuple ds ∨ d = .list ds) ∧ k ds) : wIs Γ (iSeq Γ.K tl) δ k := fun ω σ H S R q => h ω σ H S _ fun v H2 d hd e a => by
  obtain ⟨ds, hd, hk⟩ := hd
  have S2 := S.ext e
  rcases hd with rfl | rfl
  · cases a with
    | tup hs ha =>
      exact ⟨_, rfl, .inr ⟨_, (hid_le _ _).seqT hs, q _ H2 ds (PT Γ.K _ _ ds) hk e it_t fun ω' H3 s => ⟨(hid_le _ _).seqT ((s.hid S2.ma).seqT hs), (s.hid S2.ma).dpAll ha⟩⟩⟩
  · cases a with
    | lst hs ha =>
      exact ⟨_, rfl, .inl ⟨_, (hid_le _ _).seqL hs, q _ H2 ds (PL Γ.K _ _ ds) hk e it_l fun ω' H3 s => ⟨(hid_le _ _).seqL ((s.hid S2.ma).seqL hs), (s.hid S2.ma).dpAll ha⟩⟩⟩
/-- 0, 1, .. -/
def rangeD (lo : Int) (n : Nat) : List PyData := (List.range n).map fun i => .int (lo + (i : Nat))
theorem rangeD_len (lo : Int) (n : Nat) : (rangeD lo n).length = n := by simp [rangeD]
theorem rangeD_get {lo : Int} {n i : Nat} {d : PyData} (h : (rangeD lo n)[i]? = some d) : i < n ∧ d = .int (lo + (i : Nat)) := by
  unfold rangeD at h
  rw [List.getElem?_map] at h
  have hi : i < n := by
    by_cases h' : i < n
    · exact h'
    · rw [List.getElem?_eq_none (by simpa using h')] at h; cases h
  rw [List.getElem?_range hi] at h
  cases h
  exact ⟨hi, rfl⟩
theorem i_rng1 {ta : TA} (h : wA Γ ta δ fun ds => ∃ j : Int, ds = [.int j] ∧ -(2 ^ 62) ≤ j ∧ j < 2 ^ 62 ∧ k (rangeD 0 j.toNat)) : wI Γ (iRng1 ta) δ k := fun ω σ H S R q => h ω σ H S _ fun vs H2 ds hd e a => by
  obtain ⟨j, rfl, h1, h2, hk⟩ := hd
  cases a with
  | cons a t =>
    cases a; cases t
    exact ⟨j, rfl, h1, h2, q _ H2 _ _ hk e it_r fun _ _ => ⟨trivial, fun _ _ => trivial⟩⟩
theorem is_rng1 {ta : TA} (h : wA Γ ta δ fun ds => ∃ j : Int, ds = [.int j] ∧ -(2 ^ 62) ≤ j ∧ j < 2 ^ 62 ∧ k (rangeD 0 j.toNat)) : wIs Γ (iRng1 ta) δ k := fun ω σ H S R q => h ω σ H S _ fun vs H2 ds hd e a => by
  obtain ⟨j, rfl, h1, h2, hk⟩ := hd
  cases a with
  | cons a t =>
    cases a; cases t
    exact ⟨j, rfl, h1, h2, q _ H2 _ _ hk e it_r fun _ _ _ => trivial⟩
theorem i_rng2 {ta : TA} (h : wA Γ ta δ fun ds => ∃ i j : Int, ds = [.int i, .int j] ∧ (-(2 ^ 62) ≤ i ∧ i < 2 ^ 62 ∧ -(2 ^ 62) ≤ j ∧ j < 2 ^ 62) ∧ k (rangeD i (j - i).toNat)) : wI Γ (iRng2 ta) δ k := fun ω σ H S R q => h ω σ H S _ fun vs H2 ds hd e a => by
  obtain ⟨i, j, rfl, h1, hk⟩ := hd
  cases a with
  | cons a t =>
    cases t with
    | cons b t =>
      cases a; cases b; cases t
      exact ⟨i, j, rfl, h1, q _ H2 _ _ hk e it_r fun _ _ => ⟨trivial, fun _ _ => trivial⟩⟩
theorem is_rng2 {ta : TA} (h : wA Γ ta δ fun ds => ∃ i j : Int, ds = [.int i, .int j] ∧ (-(2 ^ 62) ≤ i ∧ i < 2 ^ 62 ∧ -(2 ^ 62) ≤ j ∧ j < 2 ^ 62) ∧ k (rangeD i (j - i).toNat)) : wIs Γ (iRng2 ta) δ k := fun ω σ H S R q => h ω σ H S _ fun vs H2 ds hd e a => by
  obtain ⟨i, j, rfl, h1, hk⟩ := hd
  cases a with
  | cons a t =>
    cases t with
    | cons b t =>
      cases a; cases b; cases t
      exact ⟨i, j, rfl, h1, q _ H2 _ _ hk e it_r fun _ _ _ => trivial⟩

/-! ### targets -/
def wG (Γ : Gam) (g : TG) (d : PyData) (δ : Sl) (k : Sl → Prop) : Prop := ∀ ω σ H v, Si Γ ω σ H δ → Dp Γ.K (hid ω.A H) v d → ∀ Q : L2.St → Hp → Prop, (∀ σ' δ', k δ' → Si Γ ω σ' H δ' → Q σ' H) → g v σ H Q
def wGs (Γ : Gam) (g : TGs) (ds : List PyData) (δ : Sl) (k : Sl → Prop) : Prop := ∀ ω σ H vs, Si Γ ω σ H δ → DpAll Γ.K (hid ω.A H) vs ds → ∀ Q : L2.St → Hp → Prop, (∀ σ' δ', k δ' → Si Γ ω σ' H δ' → Q σ' H) → g vs σ H Q
theorem g_name {i : Nat} {d : PyData} {kg : Sl → Prop} (h : kg (δ.set i (some (.d d)))) : wG Γ (gName i) d δ kg := fun ω σ H v S a Q q => q _ _ h (S.setD a)
theorem g_nil {kg : Sl → Prop} (h : kg δ) : wGs Γ gNil [] δ kg := fun ω σ H vs S a Q q => by
  cases a
  exact ⟨rfl, q _ _ h S⟩
theorem g_cons {g : TG} {gs : TGs} {d : PyData} {ds : List PyData} {kg : Sl → Prop} (h : wG Γ g d δ fun δ' => wGs Γ gs ds δ' kg) : wGs Γ (gCons g gs) (d :: ds) δ kg := fun ω σ H vs S a Q q => by
  cases a with
  | cons a t =>
    exact ⟨_, _, rfl, h ω σ H _ S a _ fun σ' δ' h' S' => h' ω σ' H _ S' t Q q⟩
theorem g_tup {n : Nat} {gs : TGs} {ds : List PyData} {kg : Sl → Prop} (hn : ds.length = n) (h : wGs Γ gs ds δ kg) : wG Γ (gTup Γ.K n gs) (.tuple ds) δ kg := fun ω σ H v S a Q q => by
  cases a with
  | tup hs ha => exact ⟨_, _, rfl, (hid_le _ _).seqT hs, (dpLen ha).trans hn, h ω σ H _ S ha Q q⟩
/-- a, b, .. = e -/
theorem s_asgG {g : TG} {E : DEnd} (h : wE Γ te δ fun d => wG Γ g d δ E.nx) : wS Γ (tAsg te g) δ E := fun ω σ H S D hD => h ω σ H S _ fun v H2 d hd e a => hd ω σ H2 v (S.ext e) a _ fun σ' δ' h' S' => hD.nx ω σ' H2 δ' h' S' (e.stp S)
/-- for: an invariant by the turn -/
theorem s_for {wi : TI} {g : TG} {t : TS} {E : DEnd} (h : wIs Γ wi δ fun ds => ∃ I : Nat → Sl → Prop, I 0 δ ∧
    (∀ i d δ', ds[i]? = some d → I i δ' → wG Γ g d δ' fun δ2 => wS Γ t δ2 { E with nx := I (i + 1), ct := I (i + 1), bk := E.nx }) ∧ ∀ δ', I ds.length δ' → E.nx δ') : wS Γ (tFor wi g t) δ E := fun ω σ H S D hD => by
  refine h ω σ H S _ fun J H2 ds P hk e it hp => ?_
  obtain ⟨I, h0, hs, hd⟩ := hk
  have S2 := S.ext e
  refine ⟨fun i m σ' H' => m = ds.length - i ∧ i ≤ ds.length ∧ ∃ ω' δ', I i δ' ∧ Si Γ ω' σ' H' δ' ∧ Stp Γ ω H2 ω' H', ⟨_, rfl, Nat.zero_le _, ω, δ, h0, S2, .refl⟩, fun i m σ' H' ⟨hm, hi, ω', δ', hI, S', s'⟩ => ?_⟩
  obtain ⟨stop, items⟩ := it ω'.A H' (hp ω' H' s')
  have hD' := hD.step S ((e.stp S).trans S.tr S.ma s')
  by_cases hlt : i < ds.length
  · obtain ⟨go, yl⟩ := items i ds[i] (List.getElem?_eq_getElem hlt)
    refine .inr ⟨go, fun σ3 H3 => ∃ ω3 δ3, I (i + 1) δ3 ∧ Si Γ ω3 σ3 H3 δ3 ∧ Stp Γ ω H2 ω3 H3, fun σ3 H3 ⟨ω3, δ3, g1, g2, g3⟩ => ⟨ds.length - (i + 1), by omega, rfl, hlt, ω3, δ3, g1, g2, g3⟩, fun x H3 hy => ?_⟩
    obtain ⟨e3, dp⟩ := yl x H3 hy ω'.W S'.trn
    have S3 := S'.ext e3
    have s3 : Stp Γ ω H2 ω' H3 := s'.trans S2.tr S2.ma (e3.stp S')
    have hD3 := hD'.step S' (e3.stp S')
    refine hs i _ δ' (List.getElem?_eq_getElem hlt) hI ω' σ' H3 x S3 dp _ fun σ4 δ4 h4 S4 => ?_
    refine h4 ω' σ4 H3 S4 _ ⟨?_, ?_, ?_, hD3.rt, hD3.rn⟩
    · intro ω5 σ5 H5 δ5 g S5 s5
      exact ⟨ω5, δ5, g, S5, s3.trans S2.tr S2.ma s5⟩
    · intro ω5 σ5 H5 δ5 g S5 s5
      exact hD3.nx ω5 σ5 H5 δ5 g S5 s5
    · intro ω5 σ5 H5 δ5 g S5 s5
      exact ⟨ω5, δ5, g, S5, s3.trans S2.tr S2.ma s5⟩
  · obtain rfl : i = ds.length := by omega
    exact .inl ⟨stop, hD'.nx ω' σ' H' δ' (hd δ' hI) S' .refl⟩

/-! ### comprehensions, generator expressions -/
def wipeD (δ : Sl) : List Nat → Sl
  | [] => δ
  | v :: vs => (wipeD δ vs).set v none
theorem Si.wipe {ω : Ow} {σ : L2.St} {H : Hp} (S : Si Γ ω σ H δ) : ∀ vs : List Nat, Si Γ ω (L2.wipe σ vs) H (wipeD δ vs)
  | [] => S
  | v :: vs => by
    have T := Si.wipe S vs
    show Si Γ ω ((L2.wipe σ vs).set v none) H ((wipeD δ vs).set v none)
    refine ⟨T.wm, T.ma, T.tr, T.tabs, T.wells, by rw [List.length_set, List.length_set]; exact T.len, fun j x h => ?_, fun j fs h => ?_, fun j h => ?_, fun j1 j2 l es fs n h1 h2 => ?_⟩
    · rcases sGet h with ⟨rfl, z, _⟩ | ⟨ne, h⟩
      · cases z
      · rw [List.getElem?_set_ne ne]; exact T.slot j x h
    · rcases sGet h with ⟨rfl, z, _⟩ | ⟨ne, h⟩
      · cases z
      · rw [List.getElem?_set_ne ne]; exact T.own j fs h
    · rcases sGet h with ⟨rfl, z, _⟩ | ⟨ne, h⟩
      · cases z
      · rw [List.getElem?_set_ne ne]; exact T.well j h
    · rcases sGet h1 with ⟨rfl, z, _⟩ | ⟨n1, h1⟩
      · cases z
      rcases sGet h2 with ⟨rfl, z, _⟩ | ⟨n2, h2⟩
      · cases z
      rw [List.getElem?_set_ne n1, List.getElem?_set_ne n2]
      exact T.inj j1 j2 l es fs n h1 h2
/-- a target that sets the block's own names alone -/
def GOwn (g : TG) (vs : List Nat) : Prop := ∀ v σ H (Q : L2.St → Hp → Prop), g v σ H Q → g v σ H fun σ' H' => L2.wipe σ' vs = L2.wipe σ vs ∧ Q σ' H'
def GsOwn (g : TGs) (vs : List Nat) : Prop := ∀ v σ H (Q : L2.St → Hp → Prop), g v σ H Q → g v σ H fun σ' H' => L2.wipe σ' vs = L2.wipe σ vs ∧ Q σ' H'
theorem set_comm' {α : Type} (l : List α) (i j : Nat) (x : α) : (l.set i x).set j x = (l.set j x).set i x := by
  by_cases e : i = j
  · subst e; rfl
  · rw [List.set_comm _ _ e]
theorem wipe_set {σ : L2.St} {x : Option V} : ∀ {vs : List Nat} {j : Nat}, j ∈ vs → L2.wipe (σ.set j x) vs = L2.wipe σ vs
  | v :: vs, j, h => by
    by_cases hv : j ∈ vs
    · show (L2.wipe (σ.set j x) vs).set v none = (L2.wipe σ vs).set v none
      rw [wipe_set hv]
    · obtain rfl : j = v := by
        rcases List.mem_cons.mp h with e | e
        · exact e
        · exact absurd e hv
      have key : ∀ (ws : List Nat), j ∉ ws → L2.wipe (σ.set j x) ws = (L2.wipe σ ws).set j x := by
        intro ws
        induction ws with
        | nil => intro _; rfl
        | cons w ws ih =>
          intro hn
          show (L2.wipe (σ.set j x) ws).set w none = ((L2.wipe σ ws).set w none).set j x
          rw [ih fun z => hn (List.mem_cons_of_mem _ z), List.set_comm _ _ (fun z => hn (by rw [z]; exact List.mem_cons_self))]
      show (L2.wipe (σ.set j x) vs).set j none = (L2.wipe σ vs).set j none
      rw [key vs hv, List.set_set]
theorem wipe_wipe {σ : L2.St} {ws : List Nat} : ∀ {us : List Nat}, (∀ u ∈ us, u ∈ ws) → L2.wipe (L2.wipe σ us) ws = L2.wipe σ ws
  | [], _ => rfl
  | u :: us, h => by
    show L2.wipe ((L2.wipe σ us).set u none) ws = _
    rw [wipe_set (h u List.mem_cons_self)]
    exact wipe_wipe fun v hv => h v (List.mem_cons_of_mem _ hv)
theorem wipe_idem {σ : L2.St} {vs : List Nat} : L2.wipe (L2.wipe σ vs) vs = L2.wipe σ vs := wipe_wipe fun _ h => h
theorem go_name {i : Nat} {vs : List Nat} (h : i ∈ vs) : GOwn (gName i) vs := fun v σ H Q q => ⟨wipe_set h, q⟩
theorem go_nil {vs : List Nat} : GsOwn gNil vs := fun v σ H Q q => ⟨q.1, rfl, q.2⟩
theorem go_cons {g : TG} {gs : TGs} {vs : List Nat} (hm : ∀ v σ H (Q Q' : L2.St → Hp → Prop), (∀ σ' H', Q σ' H' → Q' σ' H') → g v σ H Q → g v σ H Q') (hgs : ∀ v σ H (Q Q' : L2.St → Hp → Prop), (∀ σ' H', Q σ' H' → Q' σ' H') → gs v σ H Q → gs v σ H Q') (h : GOwn g vs) (h2 : GsOwn gs vs) : GsOwn (gCons g gs) vs := fun v σ H Q q => by
  obtain ⟨x, r, e, q⟩ := q
  refine ⟨x, r, e, hm _ _ _ _ _ ?_ (h x σ H _ q)⟩
  rintro σ' H' ⟨q1, q2⟩
  refine hgs _ _ _ _ _ ?_ (h2 r σ' H' Q q2)
  rintro σ2 H2 ⟨z1, z2⟩
  exact ⟨z1.trans q1, z2⟩
theorem gm_nil : ∀ v σ H (Q Q' : L2.St → Hp → Prop), (∀ σ' H', Q σ' H' → Q' σ' H') → gNil v σ H Q → gNil v σ H Q' := fun v σ H Q Q' h q => ⟨q.1, h _ _ q.2⟩
theorem gm_cons {g : TG} {gs : TGs} (hm : ∀ v σ H (Q Q' : L2.St → Hp → Prop), (∀ σ' H', Q σ' H' → Q' σ' H') → g v σ H Q → g v σ H Q') (hgs : ∀ v σ H (Q Q' : L2.St → Hp → Prop), (∀ σ' H', Q σ' H' → Q' σ' H') → gs v σ H Q → gs v σ H Q') :
    ∀ v σ H (Q Q' : L2.St → Hp → Prop), (∀ σ' H', Q σ' H' → Q' σ' H') → gCons g gs v σ H Q → gCons g gs v σ H Q' := fun v σ H Q Q' h q => by
  obtain ⟨x, r, e, q⟩ := q
  exact ⟨x, r, e, hm _ _ _ _ _ (fun σ' H' q => hgs _ _ _ _ _ h q) q⟩
theorem gm_name {i : Nat} : ∀ v σ H (Q Q' : L2.St → Hp → Prop), (∀ σ' H', Q σ' H' → Q' σ' H') → gName i v σ H Q → gName i v σ H Q' := fun v σ H Q Q' h q => h _ _ q
theorem go_tup {K : PySem.W.Frag} {n : Nat} {gs : TGs} {vs : List Nat} (h : GsOwn gs vs) : GOwn (gTup K n gs) vs := fun v σ H Q q => by
  obtain ⟨a, xs, e, h1, h2, q⟩ := q
  exact ⟨a, xs, e, h1, h2, h xs σ H Q q⟩
/-- an object that is not in any slot is hidden -/
theorem Si.hide {ω : Ow} {σ : L2.St} {H H2 : Hp} {p : Addr} {o : HO} (S : Si Γ ω σ H δ) (e : Ext Γ ω.W H H2) (hp : H p = none) (h2 : H2 p = some o) (n : NT o) : Si Γ (ω.add p) σ H2 δ := by
  have S2 := S.ext e
  have le : Le (hid ω.A H) (hid (fun b => ω.A b ∨ b = p) H2) := le_add (e.hid S.wa) hp
  refine ⟨fun b h => .inl (S.wm b h), fun b h => h.imp (S.ma b) id, fun b h => ?_, S2.tabs, S2.wells, S.len, fun j x h => ?_, fun j es h => ?_, S.well, S.inj⟩
  · rcases h with h | h
    · exact S2.tr b h
    · subst h; exact ⟨_, h2, n⟩
  · obtain ⟨v, h1, h3⟩ := S.slot j x h
    exact ⟨v, h1, le.dp h3⟩
  · obtain ⟨l, us, h1, h3, h4, h5, h6⟩ := S.own j es h
    exact ⟨l, us, h1, .inl h3, h4, e.keep l _ h5 (fun _ z => nomatch z) h4, le.dpAll h6⟩
theorem n_lc {wi : TI} {g : TG} {tt : TT} {te : TE} {vs : List Nat} (hg : GOwn g vs) (h : wI Γ wi δ fun ds => ∃ I : Nat → List PyData → Prop, I 0 [] ∧ (∀ acc, I ds.length acc → k acc) ∧
    ∀ i d acc, ds[i]? = some d → I i acc → wG Γ g d (wipeD δ vs) fun δ2 => wT Γ tt δ2 fun b => if b = true then wE Γ te δ2 fun e => acc.length < 16777216 ∧ I (i + 1) (acc ++ [e]) else I (i + 1) acc) :
    wN Γ (tLc wi g tt te vs) δ k := fun ω σ H S Q q => by
  refine h ω σ H S _ fun J H2 ds P hk e it hp D hD => ?_
  obtain ⟨I, h0, hd, hs⟩ := hk
  have S2 := S.ext e
  have eD : Ext Γ ω.W H2 (upd H2 D (.lst [])) := .new hD
  refine ⟨fun i m H' => m = ds.length - i ∧ i ≤ ds.length ∧ Ext Γ ω.W H2 H' ∧ ∃ acc us, I i acc ∧ H' D = some (.lst us) ∧ DpAll Γ.K (hid (fun b => ω.A b ∨ b = D) H') us acc, ⟨_, rfl, Nat.zero_le _, eD, [], [], h0, upd_same, .nil⟩, fun i m H' ⟨hm, hi, e', acc, us, hI, hD', dp⟩ => ?_⟩
  have p2 := (hp H' e').2 D hD
  obtain ⟨stop, items⟩ := it _ H' p2
  by_cases hlt : i < ds.length
  · obtain ⟨go, yl⟩ := items i ds[i] (List.getElem?_eq_getElem hlt)
    refine .inr ⟨go, fun H3 => Ext Γ ω.W H2 H3 ∧ ∃ acc us, I (i + 1) acc ∧ H3 D = some (.lst us) ∧ DpAll Γ.K (hid (fun b => ω.A b ∨ b = D) H3) us acc, fun H3 ⟨g1, acc, us, g2, g3, g4⟩ => ⟨ds.length - (i + 1), by omega, rfl, hlt, g1, acc, us, g2, g3, g4⟩, fun x H3 hy => ?_⟩
    have SD : Si Γ (ω.add D) (L2.wipe σ vs) H' (wipeD δ vs) := (S2.hide e' hD hD' (fun _ z => nomatch z)).wipe vs
    obtain ⟨e3, dx⟩ := yl x H3 hy (ω.add D).W SD.trn
    have S3 := SD.ext e3
    have nW : ¬ ω.W D := S2.ntW hD
    have go1 := hs i _ acc (List.getElem?_eq_getElem hlt) hI (ω.add D) _ H3 x S3 dx (fun σ2 H4 => tt σ2 H4 fun b H5 => if b = true then te σ2 H5 fun y H6 => ∃ acc, H6 D = some (.lst acc) ∧ acc.length < sizeLine ∧ (fun H3 => Ext Γ ω.W H2 H3 ∧ ∃ acc us, I (i + 1) acc ∧ H3 D = some (.lst us) ∧ DpAll Γ.K (hid (fun b => ω.A b ∨ b = D) H3) us acc) (upd H6 D (.lst (acc ++ [y]))) else (fun H3 => Ext Γ ω.W H2 H3 ∧ ∃ acc us, I (i + 1) acc ∧ H3 D = some (.lst us) ∧ DpAll Γ.K (hid (fun b => ω.A b ∨ b = D) H3) us acc) H5) fun σ4 δ4 h4 S4 => ?_
    · have go2 := hg _ _ _ _ go1
      rw [wipe_idem] at go2
      exact go2
    · refine h4 (ω.add D) σ4 H3 S4 _ fun b H5 hb e5 => ?_
      have e35 := e3.trans e5
      cases b with
      | true =>
        rw [if_pos rfl] at hb
        rw [if_pos rfl]
        refine hb (ω.add D) σ4 H5 (S4.ext e5) _ fun y H6 ey hy6 e6 d6 => ?_
        have e36 := e35.trans e6
        have k6 : H6 D = some (.lst us) := e36.keep D _ hD' (fun _ z => nomatch z) nW
        have a6 := (e36.hid SD.wa).dpAll dp
        have E6 : Ext Γ ω.W H2 H6 := e'.trans e36
        refine ⟨us, k6, by rw [dpLen dp, sizeLine_eq]; exact hy6.1, ⟨fun b o hb n nw => ?_, E6.tab.trans fun b ps hb => ⟨ps, by rw [upd_ne (ne_of hb k6 fun z => nomatch z)]; exact hb, id⟩, fun b hb hw => ?_⟩, _, _, hy6.2, upd_same, ?_⟩
        · rw [upd_ne (ne_fresh hD hb)]
          exact E6.keep b o hb n nw
        · obtain ⟨xs, w1, w2⟩ := E6.well b hb hw
          exact ⟨xs, by rw [upd_ne (fun z => nW (by rw [← z]; exact hb))]; exact w1, w2⟩
        · rw [hid_upd (show ω.A D ∨ D = D from .inr rfl)]
          exact dpApp a6 (.cons d6 .nil)
      | false =>
        rw [if_neg Bool.false_ne_true] at hb
        rw [if_neg Bool.false_ne_true]
        exact ⟨e'.trans e35, acc, us, hb, e35.keep D _ hD' (fun _ z => nomatch z) nW, (e35.hid SD.wa).dpAll dp⟩
  · obtain rfl : i = ds.length := by omega
    exact .inl ⟨stop, q D us H' acc (hd acc hI) (e.trans e') (S.back e hD) hD' dp⟩
/-- any (sv true), all (sv false) -/
theorem w_gx {P : Addr} {sv : Bool} {wi : TI} {g : TG} {tt : TT} {te : TE} {vs : List Nat} {k : PyData → Prop} (hP : P ∈ Γ.cs) (hg : GOwn g vs) (h : wI Γ wi δ fun ds => ∃ I : Nat → Prop, I 0 ∧ (I ds.length → k (.bool (!sv))) ∧
    ∀ i d, ds[i]? = some d → I i → wG Γ g d (wipeD δ vs) fun δ2 => wT Γ tt δ2 fun b => if b = true then wE Γ te δ2 fun e => ∃ c, e = .bool c ∧ if c = sv then k (.bool sv) else I (i + 1) else I (i + 1)) :
    wE Γ (GX.tGx sv P wi g tt te vs) δ k := fun ω σ H S Q q => by
  refine h ω σ H S _ fun J H2 ds PP hk e it hp => ?_
  obtain ⟨I, h0, hd, hs⟩ := hk
  have S2 := S.ext e
  refine ⟨S2.tabs P hP, fun H3 ht => ?_⟩
  have e3 : Ext Γ ω.W H2 H3 := .tabbed (S2.tabs P hP) ht
  refine ⟨fun i m H' => m = ds.length - i ∧ i ≤ ds.length ∧ Ext Γ ω.W H2 H' ∧ I i, ⟨_, rfl, Nat.zero_le _, e3, h0⟩, fun i m H' ⟨hm, hi, e', hI⟩ => ?_⟩
  have p1 : PP ω.A H' := (hp H' e').1
  obtain ⟨stop, items⟩ := it _ H' p1
  by_cases hlt : i < ds.length
  · obtain ⟨go, yl⟩ := items i ds[i] (List.getElem?_eq_getElem hlt)
    refine .inr ⟨go, fun H3 => Ext Γ ω.W H2 H3 ∧ I (i + 1), fun H3 ⟨g1, g2⟩ => ⟨ds.length - (i + 1), by omega, rfl, hlt, g1, g2⟩, fun x H3 hy => ?_⟩
    have SD : Si Γ ω (L2.wipe σ vs) H' (wipeD δ vs) := (S2.ext e').wipe vs
    obtain ⟨e4, dx⟩ := yl x H3 hy ω.W SD.trn
    have S3 := SD.ext e4
    have go1 := hs i _ (List.getElem?_eq_getElem hlt) hI ω _ H3 x S3 dx (fun σ2 H4 => tt σ2 H4 fun b H5 => if b = true then te σ2 H5 fun y H6 => ∃ c, y = .bl c ∧ if c = sv then Q (.bl sv) H6 else (Ext Γ ω.W H2 H6 ∧ I (i + 1)) else (Ext Γ ω.W H2 H5 ∧ I (i + 1))) fun σ4 δ4 h4 S4 => ?_
    · have go2 := hg _ _ _ _ go1
      rw [wipe_idem] at go2
      exact go2
    · refine h4 ω σ4 H3 S4 _ fun b H5 hb e5 => ?_
      have E5 : Ext Γ ω.W H2 H5 := (e'.trans e4).trans e5
      cases b with
      | true =>
        rw [if_pos rfl] at hb
        rw [if_pos rfl]
        refine hb ω σ4 H5 (S4.ext e5) _ fun y H6 ey hy6 e6 d6 => ?_
        obtain ⟨c, rfl, hc⟩ := hy6
        cases d6
        refine ⟨c, rfl, ?_⟩
        by_cases z : c = sv
        · rw [if_pos z] at hc
          rw [if_pos z]
          exact q _ H6 _ hc (e.trans (E5.trans e6)) (.bl _)
        · rw [if_neg z] at hc
          rw [if_neg z]
          exact ⟨E5.trans e6, hc⟩
      | false =>
        rw [if_neg Bool.false_ne_true] at hb
        rw [if_neg Bool.false_ne_true]
        exact ⟨E5, hb⟩
  · obtain rfl : i = ds.length := by omega
    exact .inl ⟨stop, q _ H' _ (hd hI) (e.trans e') (.bl _)⟩
end
end DW

set_option maxHeartbeats 2000001
/-! data: operators, built-ins; a def entered -/
namespace DW
open PySem L2 PySem.Spec PyProof.Rows
open GxR (TabG Tabbed)
/-- what is read: an own list too -/
def wR (Γ : Gam) (te : TE) (δ : Sl) (k : PyData → Prop) : Prop := ∀ ω σ H, Si Γ ω σ H δ → ∀ Q : VK,
  (∀ v H2 d, k d → Ext Γ ω.W H H2 → (∀ H3, Ext Γ ω.W H2 H3 → Dp Γ.K H3 v d) → Q v H2) → te σ H Q
section
variable {Γ : Gam} {δ : Sl} {te ta tb : TE} {k : PyData → Prop}
theorem wE.r (h : wE Γ te δ k) : wR Γ te δ k := fun ω σ H S Q q => h ω σ H S Q fun v H2 d kd e a => q v H2 d kd e fun H3 e3 => (hid_le _ _).dp ((e3.hid S.wa).dp a)
theorem wL.r (h : wL Γ te δ fun ds => k (.list ds)) : wR Γ te δ k := fun ω σ H S Q q => h ω σ H S Q fun a vs H2 d kd e st dp => q _ H2 _ kd e fun H3 e3 => .lst (st H3 e3) ((hid_le _ _).dpAll ((e3.hid S.wa).dpAll dp))
/-- two things read, a truth told -/
def RB2 (Γ : Gam) (r : R2) (d e : PyData) (k : PyData → Prop) : Prop := ∀ (H : Hp) (x y : V) (Q : VK), Dp Γ.K H x d → Dp Γ.K H y e → (∀ b, k (.bool b) → Q (.bl b) H) → r x y H Q
theorem w_opR {r : R2} (h : wR Γ ta δ fun d => wR Γ tb δ fun e => RB2 Γ r d e k) : wE Γ (tOp r ta tb) δ k := fun ω σ H S Q q =>
  h ω σ H S _ fun x H1 d hb e1 a1 => hb ω σ H1 (S.ext e1) _ fun y H2 e hr e2 a2 => hr H2 x y Q (a1 H2 e2) (a2 H2 .refl) fun b kb => q _ H2 _ kb (e1.trans e2) (.bl b)
theorem rb_eq {d e : PyData} (h1 : SeqAt.shaped d = true) (h2 : SeqAt.shaped e = true) (hk : k (.bool (PyData.eqv d e))) : RB2 Γ (rEqD Γ.K) d e k := fun H x y Q a b q => ⟨d, e, a, b, h1, h2, q _ hk⟩
theorem rb_ne {d e : PyData} (h1 : SeqAt.shaped d = true) (h2 : SeqAt.shaped e = true) (hk : k (.bool (!PyData.eqv d e))) : RB2 Γ (rNeD Γ.K) d e k := fun H x y Q a b q => ⟨d, e, a, b, h1, h2, q _ hk⟩
def isNon : PyData → Bool
  | .none => true
  | _ => false
theorem dp_non {K : PySem.W.Frag} {H : Hp} {v : V} {d : PyData} (h : Dp K H v d) : decide (v = .non) = isNon d := by
  cases h <;> first | rfl | exact decide_eq_false (fun z => nomatch z)
theorem w_isN (h : wR Γ ta δ fun d => k (.bool (isNon d))) : wE Γ (tOp (fun x y H Q => y = .non ∧ Q (.bl (decide (x = .non))) H) ta (tC .non)) δ k := fun ω σ H S Q q => h ω σ H S _ fun v H2 d kd e a => by
  refine ⟨rfl, ?_⟩
  rw [dp_non (a H2 .refl)]
  exact q _ H2 _ kd e (.bl _)
theorem w_notN (h : wR Γ ta δ fun d => k (.bool (!isNon d))) : wE Γ (tOp (fun x y H Q => y = .non ∧ Q (.bl (!decide (x = .non))) H) ta (tC .non)) δ k := fun ω σ H S Q q => h ω σ H S _ fun v H2 d kd e a => by
  refine ⟨rfl, ?_⟩
  rw [dp_non (a H2 .refl)]
  exact q _ H2 _ kd e (.bl _)
theorem rd_isB {a b : Bool} (hk : k (.bool (decide (a = b)))) : RD2 Γ rIsB (.bool a) (.bool b) k := fun A W H x y Q hw d e ht q => by
  cases d; cases e
  exact ⟨a, b, rfl, rfl, q _ H _ hk .refl (.bl _)⟩
theorem rd_notB {a b : Bool} (hk : k (.bool (!decide (a = b)))) : RD2 Γ rNotB (.bool a) (.bool b) k := fun A W H x y Q hw d e ht q => by
  cases d; cases e
  exact ⟨a, b, rfl, rfl, q _ H _ hk .refl (.bl _)⟩
/-- t[i] of a tuple, s[i] of a list of data -/
theorem dp_at {K : PySem.W.Frag} {G : Hp} {vs : List V} {ds : List PyData} {i : Int} {x : PyData} (a : DpAll K G vs ds) (h : atI ds i = some x) : ∃ v, atI vs i = some v ∧ Dp K G v x := by
  unfold atI at h ⊢
  rw [dpLen a]
  cases e : ixN ds.length i with
  | none => rw [e] at h; cases h
  | some j =>
    rw [e] at h
    exact dpGet a h
theorem rd_ix {ds : List PyData} {d x : PyData} {i : Int} (hd : d = .tuple ds ∨ d = .list ds) (h : atI ds i = some x) (hk : k x) : RD2 Γ (rIx Γ.K) d (.int i) k := fun A W H v y Q hw a b ht q => by
  cases b
  rcases hd with rfl | rfl
  · cases a with
    | tup hs ha =>
      obtain ⟨w, h1, h2⟩ := dp_at ha h
      exact .inr (.inl ⟨_, _, i, w, rfl, rfl, (hid_le _ _).seqT hs, h1, q w H x hk .refl h2⟩)
  · cases a with
    | lst hs ha =>
      obtain ⟨w, h1, h2⟩ := dp_at ha h
      exact .inl ⟨_, _, i, w, rfl, rfl, (hid_le _ _).seqL hs, h1, q w H x hk .refl h2⟩
/-- s[i] of an own list -/
theorem w_ixL (h : wL Γ ta δ fun ds => wE Γ tb δ fun e => ∃ i x, e = .int i ∧ atI ds i = some x ∧ k x) : wE Γ (tOp (rIx Γ.K) ta tb) δ k := fun ω σ H S Q q => h ω σ H S _ fun a vs H2 ds hd e st dp => hd ω σ H2 (S.ext e) _ fun y H3 z hz e2 a2 => by
  obtain ⟨i, x, rfl, h1, hk⟩ := hz
  cases a2
  have dp3 := (e2.hid S.wa).dpAll dp
  obtain ⟨w, g1, g2⟩ := dp_at dp3 h1
  exact .inl ⟨a, vs, i, w, rfl, rfl, st H3 e2, g1, q w H3 x hk (e.trans e2) g2⟩
theorem w_len (h : wR Γ ta δ fun d => ∃ ds, (d = .tuple ds ∨ d = .list ds) ∧ k (.int ds.length)) : wE Γ (tCB (fun xs H Q => ∃ p ys, xs = [.ref p] ∧ (SqL Γ.K H p ys ∨ SqT Γ.K H p ys) ∧ Q (.int ys.length) H) (tCons ta tNil)) δ k := fun ω σ H S Q q => h ω σ H S _ fun v H2 d hd e a => by
  obtain ⟨ds, hd, hk⟩ := hd
  have a := a H2 .refl
  rcases hd with rfl | rfl
  · cases a with
    | tup hs ha =>
      refine ⟨_, _, rfl, .inr hs, ?_⟩
      rw [dpLen ha]
      exact q _ H2 _ hk e (.int _)
  · cases a with
    | lst hs ha =>
      refine ⟨_, _, rfl, .inl hs, ?_⟩
      rw [dpLen ha]
      exact q _ H2 _ hk e (.int _)
/-- tuple(..) -/
theorem w_tupleL (h : wL Γ ta δ fun ds => k (.tuple ds)) : wE Γ (tCB (fun xs H Q => ∃ p ys, xs = [.ref p] ∧ ((SqL Γ.K H p ys ∧ ∀ l, H l = none → Q (.ref l) (upd H l (.tup ys))) ∨ (SqT Γ.K H p ys ∧ Q (.ref p) H))) (tCons ta tNil)) δ k := fun ω σ H S Q q => h ω σ H S _ fun a vs H2 ds hk e st dp => by
  refine ⟨a, vs, rfl, .inl ⟨st H2 .refl, fun p hp => ?_⟩⟩
  have na := S.fresh (S.back e hp)
  exact q _ _ _ hk (e.trans (.new hp)) (.tup (.of (by rw [hid_no na, upd_same])) (((Ext.new (Γ := Γ) (W := ω.W) hp).hid S.wa).dpAll dp))
theorem w_tupleT (h : wE Γ ta δ fun d => ∃ ds, d = .tuple ds ∧ k (.tuple ds)) : wE Γ (tCB (fun xs H Q => ∃ p ys, xs = [.ref p] ∧ ((SqL Γ.K H p ys ∧ ∀ l, H l = none → Q (.ref l) (upd H l (.tup ys))) ∨ (SqT Γ.K H p ys ∧ Q (.ref p) H))) (tCons ta tNil)) δ k := fun ω σ H S Q q => h ω σ H S _ fun v H2 d hd e a => by
  obtain ⟨ds, rfl, hk⟩ := hd
  cases a with
  | tup hs ha => exact ⟨_, _, rfl, .inr ⟨(hid_le _ _).seqT hs, q _ H2 _ hk e (.tup hs ha)⟩⟩
/-- list(..) -/
theorem n_list {k : List PyData → Prop} (h : wL Γ ta δ k) : wN Γ (tCB (fun xs H Q => ∃ p ys, xs = [.ref p] ∧ (SqL Γ.K H p ys ∨ SqT Γ.K H p ys) ∧ ∀ l, H l = none → Q (.ref l) (upd H l (.lst ys))) (tCons ta tNil)) δ k := fun ω σ H S Q q => h ω σ H S _ fun a vs H2 ds hk e st dp => by
  refine ⟨a, vs, rfl, .inl (st H2 .refl), fun p hp => ?_⟩
  exact q p vs _ ds hk (e.trans (.new hp)) (S.back e hp) upd_same ((le_add ((Ext.new (Γ := Γ) (W := ω.W) hp).hid S.wa) hp).dpAll dp)
theorem n_listT {k : List PyData → Prop} (h : wE Γ ta δ fun d => ∃ ds, d = .tuple ds ∧ k ds) : wN Γ (tCB (fun xs H Q => ∃ p ys, xs = [.ref p] ∧ (SqL Γ.K H p ys ∨ SqT Γ.K H p ys) ∧ ∀ l, H l = none → Q (.ref l) (upd H l (.lst ys))) (tCons ta tNil)) δ k := fun ω σ H S Q q => h ω σ H S _ fun v H2 d hd e a => by
  obtain ⟨ds, rfl, hk⟩ := hd
  cases a with
  | tup hs ha =>
    refine ⟨_, _, rfl, .inr ((hid_le _ _).seqT hs), fun p hp => ?_⟩
    exact q p _ _ ds hk (e.trans (.new hp)) (S.back e hp) upd_same ((le_add ((Ext.new (Γ := Γ) (W := ω.W) hp).hid S.wa) hp).dpAll ha)
/-- ints in, an int out -/
theorem cd_i1 {f : Int → Int} {i : Int} (hk : k (.int (f i))) : CD Γ (fun xs H Q => ∃ i, xs = [.int i] ∧ Q (.int (f i)) H) [.int i] k := fun A W H xs Q hw a ht q => by
  cases a with
  | cons a t => cases a; cases t; exact ⟨i, rfl, q _ H _ hk .refl (.int _)⟩
theorem cd_i2 {f : Int → Int → Int} {i j : Int} (hk : k (.int (f i j))) : CD Γ (fun xs H Q => ∃ i j, xs = [.int i, .int j] ∧ Q (.int (f i j)) H) [.int i, .int j] k := fun A W H xs Q hw a ht q => by
  cases a with
  | cons a t =>
    cases t with
    | cons b t => cases a; cases b; cases t; exact ⟨i, j, rfl, q _ H _ hk .refl (.int _)⟩
theorem cd_int1 {i : Int} (hk : k (.int i)) : CD Γ (fun xs H Q => (∃ i, xs = [.int i] ∧ Q (.int i) H) ∨ ∃ k, xs = [.bl k] ∧ Q (.int (if k then 1 else 0)) H) [.int i] k := fun A W H xs Q hw a ht q => by
  cases a with
  | cons a t => cases a; cases t; exact .inl ⟨i, rfl, q _ H _ hk .refl (.int _)⟩
/-- all(..), any(..) of a list of truths -/
theorem w_allL (h : wL Γ ta δ fun ds => ∃ bs : List Bool, ds = bs.map .bool ∧ k (.bool (bs.all id))) : wE Γ (tCB (rAll Γ.K) (tCons ta tNil)) δ k := fun ω σ H S Q q => h ω σ H S _ fun a vs H2 ds hd e st dp => by
  obtain ⟨bs, rfl, hk⟩ := hd
  rw [dpBools dp] at st
  exact ⟨a, bs, rfl, st H2 .refl, q _ H2 _ hk e (.bl _)⟩
theorem w_anyL (h : wL Γ ta δ fun ds => ∃ bs : List Bool, ds = bs.map .bool ∧ k (.bool (bs.any id))) : wE Γ (tCB (rAny Γ.K) (tCons ta tNil)) δ k := fun ω σ H S Q q => h ω σ H S _ fun a vs H2 ds hd e st dp => by
  obtain ⟨bs, rfl, hk⟩ := hd
  rw [dpBools dp] at st
  exact ⟨a, bs, rfl, st H2 .refl, q _ H2 _ hk e (.bl _)⟩
/-- isinstance(x, T), T a class of Python's own -/
def tyD : PyData → String
  | .none => "NoneType"
  | .bool _ => "bool"
  | .int _ => "int"
  | .str _ => "str"
  | .list _ => "list"
  | .tuple _ => "tuple"
  | .dict _ => "dict"
theorem tyX_of {K : PySem.W.Frag} {H : Hp} {v : V} {d : PyData} (h : Dp K H v d) : TyX K H v (.type (tyD d)) := by
  cases h with
  | non => exact .base .non
  | bl b => exact .base (.bl b)
  | int i => exact .base (.int i)
  | str x => exact .base (.str x)
  | lst hs _ =>
    rcases hs with (e | ⟨o, e⟩) | ⟨o, its, n, e, c, _⟩
    · exact .base (.lst e)
    · exact .base (.frz e)
    · exact .kList e c
  | tup hs _ =>
    rcases hs with (e | ⟨o, e⟩) | ⟨o, its, n, e, c, _⟩
    · exact .base (.tup e)
    · exact .fTuple e
    · exact .kTuple e c
theorem w_isi {T : String} {b : Bool} (h : wR Γ ta δ fun d => kitB (tyD d) T = some b ∧ k (.bool b)) : wE Γ (tCB (rIsi Γ.K) (tCons ta (tCons (tC (.ty T)) tNil))) δ k := fun ω σ H S Q q => h ω σ H S _ fun v H2 d hd e a => ⟨v, _, _, _, b, rfl, .ty T, tyX_of (a H2 .refl), kit_ty hd.1, q _ H2 _ hd.2 e (.bl b)⟩
end
end DW

set_option maxHeartbeats 2000001
/-! promises that know that no repr is under way; what a def does, by continuations of data -/
namespace MG
open PySem PySem.Spec PyProof.Rows L2 DW
open GxR (TabG Tabbed)
/-- room, and no repr under way -/
structure Rm (k : Nat) (A : Around) : Prop where
  r : Room k A
  g : A.guards = some []
theorem Rm.mono {j k : Nat} {A : Around} (h : Rm k A) (hj : j ≤ k) : Rm j A := ⟨h.r.mono hj, h.g⟩
theorem Rm.deeper {k : Nat} {A : Around} (h : Rm (k + 1) A) (env : Env) : Rm k (A.deeper env) := ⟨h.r.deeper env, h.g⟩
theorem Rm.in1 {k : Nat} {A : Around} (h : Rm (k + 1) A) : Rm k A.in1 := ⟨h.r.in1, h.g⟩
/-- within a generator expression -/
theorem Rm.gx {k : Nat} {A : Around} (h : Rm (k + 3) A) (env : Env) : Rm k (A.in1.in1.deeper env) := Rm.deeper (Rm.in1 (Rm.in1 h)) env
structure FnG (P : Program) (w : World) (K : PySem.W.Frag) (mg : Str → Option Value) (base : Heap) (CX : CXT) (k : Nat) (f : Addr) (fd : FuncData) (ps : List Str) (sp : Sp) : Prop where
  len : ∀ vs H Q E, sp vs H Q E → vs.length = ps.length
  go : ∀ (A : Around) (out : List Env) (s : Shared) (H : Hp) (ar : Args) (us : List Value) (vs : List V) (Q : VK) (E : XK), Rm k A → Env0 P w K mg base A out s H →
    BindsTo s fd ar (ps.zip us) → Vals vs us → sp vs H Q E → codeAny (model P w) A (.call (.ref f) ar) (CR CX out P w H s Q E) s
section
variable {P : Program} {w : World} {K : PySem.W.Frag} {mg : Str → Option Value} {base : Heap} {CX : CXT}
theorem FnG.mono {j k : Nat} {f : Addr} {fd : FuncData} {ps : List Str} {sp : Sp} (F : FnG P w K mg base CX j f fd ps sp) (h : j ≤ k) : FnG P w K mg base CX k f fd ps sp :=
  ⟨F.len, fun A out s H ar us vs Q E r => F.go A out s H ar us vs Q E (r.mono h)⟩
/-- a def of the text, by its body -/
theorem fn_g {k : Nat} {f : Addr} {nm qual : Str} {pars : Arguments} {body : List Stmt} {sco : Scope} {dV kV doc pm cdv ct oc : Value} {an od : Option Addr} {osl : Array (Option Value)} {N ps : List Str} {sp : Sp}
    (lk : K.lookup f = some ⟨oc, od, .func (PySem.W.fnOf nm qual pars body sco dV kV doc pm an cdv ct), osl⟩) (hcd : PySem.W.codeIn K cdv qual = true) (S : FnScope N ps sco) (len : ∀ vs H Q E, sp vs H Q E → vs.length = ps.length)
    (hb : ∀ (A : Around) (out : List Env) (s : Shared) (H : Hp) (vs : List V) (Q : VK) (E : XK), Rm k (A.deeper (envOfC qual sco s.heap.objs.size f cdv)) → sp vs H Q E →
      ∃ t, PSs (cxOf CX P w K mg base N qual sco f cdv A out s H E) body t ∧ t { nx := fun _ H' => Q .non H', rt := Q } (start N vs) H) :
    FnG P w K mg base CX (k + 1) f (PySem.W.fnOf nm qual pars body sco dV kV doc pm an cdv ct) ps sp := by
  refine ⟨len, fun A out s H ar us vs Q E hr e0 bnd rv hs => ?_⟩
  have kin : K.In s.heap := e0.mod.kin.keeps fun b o q => (e0.bs b o q).1
  have hkd : ∀ y ∈ ps.zip us, sco.names.lookup y.1 = some .local ∨ (sco.names.lookup y.1 = some .cell ∧ ((cellsFrom (s.heap.objs.size + 1) sco.names []).lookup y.1).isSome = true) := by
    rintro ⟨n, v⟩ hy
    exact (S.par n (List.of_mem_zip hy).1).imp id fun q => ⟨q, PySem.W.cellsFrom_some _ _ _ (.inl q)⟩
  refine codeAny_call_function hr.r.depth (kin _ _ lk) rfl S.co S.gen rfl (PySem.W.codeRec_of kin hcd) (bnd _ _ _ _ (wpAny_newFunctionEnv_cells S.kind hkd fun env he s1 x => ?_))
  cases he
  refine ⟨(e0.mod.nolimit.keeps fun b o q => (e0.bs b o q).1).keeps x.toInCall.keep, codeAny_func ?_⟩
  obtain ⟨t, ht, hq⟩ := hb A out s H vs Q E (hr.deeper _) hs
  refine wpAny_mono (ht.run [] s1 (start N vs) H _ (inv_start S hr.r.hd e0 (len _ _ _ _ hs) rv x) hq) (fun fl s2 h2 => ?_) fun _ _ z => z
  cases fl with
  | ret u =>
    obtain ⟨v, σ2, H2, J, rv2, q2⟩ := h2
    exact ⟨v, H2, J.os, J.bare, J.base, J.hok, rv2, q2⟩
  | next =>
    obtain ⟨σ2, H2, J, q2⟩ := h2
    exact ⟨V.non, H2, J.os, J.bare, J.base, J.hok, rfl, q2⟩
  | brk => exact h2.elim fun _ ⟨_, _, z⟩ => False.elim z
  | cont => exact h2.elim fun _ ⟨_, _, z⟩ => False.elim z
theorem fun_okg {x qual : Str} {st : Stmt} {f : Addr} {fd : FuncData} {N ps : List Str} {k : Nat} {sp : Sp} (F : Fun K x qual st f fd) (S : FnScope N ps (defScope st)) (len : ∀ vs H Q E, sp vs H Q E → vs.length = ps.length)
    (hb : ∀ (cdv : Value) (A : Around) (out : List Env) (s : Shared) (H : Hp) (vs : List V) (Q : VK) (E : XK), fd.code = cdv → Rm k (A.deeper (envOfC qual (defScope st) s.heap.objs.size f cdv)) → sp vs H Q E →
      ∃ t, PSs (cxOf CX0 P w K mg base N qual (defScope st) f cdv A out s H E).nox (defBody st) t ∧ t { nx := fun _ H' => Q .non H', rt := Q } (start N vs) H) : FnG P w K mg base CX0 (k + 1) f fd ps sp := by
  obtain ⟨oc, od, kV, doc, pm, an, cdv, ct, osl, e, lk, hcd⟩ := F.ex
  subst e
  refine fn_g lk hcd S len fun A out s H vs Q E hr hsp => ?_
  obtain ⟨t, h, q⟩ := hb cdv A out s H vs Q E rfl hr hsp
  exact ⟨t, h.nox, q⟩
end
section
variable {X : Cx} {CX : CXT} {k : Nat} {f : Addr} {fd : FuncData} {ps ks : List Str} {sp : Sp} {dvs : List V} {ds : List Value} {E : XK} {x : Str} {p pos : Pos} {e : Expr} {es : List Expr} {kws : List Keyword} {t tk : TA}
theorem ran_ok {pins : List (Addr × Obj)} {σ : L2.St} {H : Hp} {s : Shared} {Q : VK} (hx : Passes CX X E) (I : Inv X pins σ H s) {a : Args} (h : codeAny (model X.prog X.w) X.A (.call (.ref f) a) (CR CX X.stack X.prog X.w H s Q E) s) :
    codeAny (model X.prog X.w) X.A (.call (.ref f) a) (fun r s' => match r with | .ok (.ret u) => EP X pins σ Q u s' | .error e => X.xe e s' | _ => False) s := codeAny_mono h fun r s2 h2 => by
  cases r with
  | error e => exact hx pins σ H s e s2 I h2
  | ok fl =>
    cases fl with
    | ret u => exact I.after h2
    | next => exact h2
    | brk => exact h2
    | cont => exact h2
theorem go_fn {pins : List (Addr × Obj)} {σ : L2.St} {H : Hp} {s : Shared} {Q : VK} {us : List Value} {vs : List V} (F : FnG X.prog X.w X.K X.mg X.base CX k f fd ps sp) (hr : Rm k X.A) (hb : Binds X.K fd ps ds) (hd : Vals dvs ds) (hx : Passes CX X E)
    (I : Inv X pins σ H s) (r : Vals vs us) (h : sp (vs ++ dvs) H Q E) : wpAny (model X.prog X.w) X.A (call (.ref f) us) (EP X pins σ Q) X.xe s := by
  have r2 := r.append hd
  refine wpAny_call (codeAny_mono (ran_ok hx I (F.go X.A X.stack s H ⟨us, []⟩ (us ++ ds) (vs ++ dvs) Q E hr I.env0 (hb s us I.kIn (by rw [← r2.length]; exact F.len _ _ _ _ h)) r2 h)) fun r s2 h2 => ?_)
  cases r with
  | error e => exact h2
  | ok fl =>
    cases fl with
    | ret u => exact h2
    | next => exact h2
    | brk => exact h2
    | cont => exact h2
/-- f(e, ..) -/
theorem pe_cg (F : FnG X.prog X.w X.K X.mg X.base CX k f fd ps sp) (hr : Rm k X.A) (hg : Gl X x) (hm : X.mg x = some (.ref f)) (hk : PySem.W.keepIn X.K (.ref f) = true) (hb : Binds X.K fd ps ds) (hd : Vals dvs ds) (hx : Passes CX X E) (ha : PA X (e :: es) t)
    (hdb : (x == ("__debug__" : Str)) = false := by decide) (he : starEach (e :: es) X.env = (false, eval e X.env) :: starEach es X.env := by rfl) (hpl : (backTo pos (starEach es X.env)).any (·.1) = false := by rfl) :
    PE X (.Call (.Name x p) (e :: es) [] pos) (tCall sp dvs E t) :=
  ⟨fun pins s σ H Q I h => wpAny_Call_Name_kw (ld_glob I hg hm (PySem.W.callWith_K (h₀ := X.base) I.ok.mod.kin hk (thn (ha.run pos pins s σ H _ I h) fun us s1 ⟨vs, H1, I1, r, q⟩ => ⟨I1.kIn, go_fn F hr hb hd hx I1 r q⟩) he hpl) hdb)⟩
theorem pe_cg0 (F : FnG X.prog X.w X.K X.mg X.base CX k f fd ps sp) (hr : Rm k X.A) (hg : Gl X x) (hm : X.mg x = some (.ref f)) (hk : PySem.W.keepIn X.K (.ref f) = true) (hb : Binds X.K fd ps ds) (hd : Vals dvs ds) (hx : Passes CX X E)
    (hdb : (x == ("__debug__" : Str)) = false := by decide) : PE X (.Call (.Name x p) [] [] pos) (tCall sp dvs E tNil) :=
  ⟨fun pins s σ H Q I h => wpAny_Call_Name_kw (ld_glob I hg hm (PySem.W.callWith_K0 I.kIn hk (go_fn (us := []) F hr hb hd hx I .nil h)) hdb)⟩
variable {g : List Value → List Value → List Value} {gV : List V → List V → List V}
/-- f(e, .., k = v, ..) -/
theorem pe_cgk (F : FnG X.prog X.w X.K X.mg X.base CX k f fd ps sp) (hr : Rm k X.A) (hg : Gl X x) (hm : X.mg x = some (.ref f)) (hk : PySem.W.keepIn X.K (.ref f) = true) (hb : KBinds X.K fd ps ks g gV) (hx : Passes CX X E) (ha : PA X (e :: es) t) (hkw : PK X kws tk)
    (hall : (backToKw pos (keywordEach kws X.env)).all (·.1.isSome) = true := by rfl) (hks : (backToKw pos (keywordEach kws X.env)).filterMap (·.1) = ks := by rfl) (hdb : (x == ("__debug__" : Str)) = false := by decide)
    (he : starEach (e :: es) X.env = (false, eval e X.env) :: starEach es X.env := by rfl) (hpl : ((backTo pos (starEach (e :: es) X.env)).any (·.1) || (backToKw pos (keywordEach kws X.env)).any (·.1.isNone)) = false := by rfl) :
    PE X (.Call (.Name x p) (e :: es) kws pos) (tCallK sp gV E t tk) := by
  refine ⟨fun pins s σ H Q I h => wpAny_Call_Name_kw (ld_glob I hg hm ?_ hdb)⟩
  refine PySem.W.callWith_KW (h₀ := X.base) I.ok.mod.kin hk hall (thn (ha.run pos pins s σ H _ I h) fun us s1 ⟨vs, H1, I1, r, q⟩ => thn (hkw.run pos pins s1 σ H1 _ I1 q) fun ws s2 ⟨zs, H2, I2, rz, q2⟩ => ⟨I2.kIn, ?_⟩) hpl he
  rw [hks]
  have r2 := hb.rel r rz
  refine wpAny_call (codeAny_mono (ran_ok hx I2 (F.go X.A X.stack s2 H2 ⟨us, ks.zip ws⟩ (g us ws) (gV vs zs) Q E hr I2.env0 (hb.to s2 us ws I2.kIn (by rw [← r2.length]; exact F.len _ _ _ _ q2)) r2 q2)) fun r s3 h3 => ?_)
  cases r with
  | error e => exact h3
  | ok fl =>
    cases fl with
    | ret u => exact h3
    | next => exact h3
    | brk => exact h3
    | cont => exact h3
end
end MG

/-! what the words of Python do to data, by continuations; no program in sight -/
namespace MW
open PySem L2
abbrev D := PyData
abbrev Kt := PyData → Prop
def bW (d : D) (k : Bool → Prop) : Prop := match d with | .bool b => k b | _ => False
def iW (d : D) (k : Int → Prop) : Prop := match d with | .int i => k i | _ => False
def seqW (d : D) (k : List D → Prop) : Prop := match d with | .list l => k l | .tuple l => k l | _ => False
def lstW (d : D) (k : List D → Prop) : Prop := match d with | .list l => k l | _ => False
def most : Nat := 16777216
def addW (d e : D) (k : Kt) : Prop := match d, e with
  | .int i, .int j => k (.int (i + j))
  | .tuple x, .tuple y => x.length + y.length ≤ most ∧ k (.tuple (x ++ y))
  | .list x, .list y => x.length + y.length ≤ most ∧ k (.list (x ++ y))
  | _, _ => False
def i2W (C : Int → Int → Prop) (f : Int → Int → D) (d e : D) (k : Kt) : Prop := match d, e with
  | .int i, .int j => C i j ∧ k (f i j)
  | _, _ => False
def subW (d e : D) (k : Kt) : Prop := match d, e with | .int i, .int j => k (.int (i - j)) | _, _ => False
def mulW : D → D → Kt → Prop := i2W CMulW fun i j => .int (i * j)
def fdivW : D → D → Kt → Prop := i2W CDivW fun i j => .int (i / j)
def modW : D → D → Kt → Prop := i2W (fun _ j => 0 < j) fun i j => .int (i % j)
def powW : D → D → Kt → Prop := i2W CPow fun i j => .int (i ^ j.toNat)
def shlW : D → D → Kt → Prop := i2W CPow fun i j => .int (i * 2 ^ j.toNat)
def shrW : D → D → Kt → Prop := i2W (fun _ j => 0 ≤ j) fun i j => .int (i / 2 ^ j.toNat)
def bandW (d e : D) (k : Kt) : Prop := match d, e with | .int i, .int j => k (.int (Builtin.bitAnd i j)) | _, _ => False
def borW (d e : D) (k : Kt) : Prop := match d, e with | .int i, .int j => k (.int (Builtin.bitOr i j)) | _, _ => False
def intsOf : List D → Option (List Int)
  | [] => some []
  | .int i :: r => (intsOf r).map (i :: ·)
  | _ :: _ => none
theorem intsOf_map (ns : List Int) : intsOf (ns.map .int) = some ns := by
  induction ns with
  | nil => rfl
  | cons n ns ih => simp only [List.map_cons, intsOf, ih, Option.map_some]
theorem intsOf_some : ∀ {l : List D} {ns : List Int}, intsOf l = some ns → l = ns.map .int
  | [], _, h => by cases h; rfl
  | .int i :: r, ns, h => by
    simp only [intsOf, Option.map_eq_some_iff] at h
    obtain ⟨ms, h1, rfl⟩ := h
    rw [List.map_cons, ← intsOf_some h1]
  | .none :: _, _, h => nomatch h
  | .bool _ :: _, _, h => nomatch h
  | .str _ :: _, _, h => nomatch h
  | .list _ :: _, _, h => nomatch h
  | .tuple _ :: _, _, h => nomatch h
  | .dict _ :: _, _, h => nomatch h
def int2W (l m : List D) (k : List Int → List Int → Prop) : Prop := match intsOf l, intsOf m with
  | some a, some b => k a b
  | _, _ => False
def ltW (d e : D) (k : Kt) : Prop := match d, e with
  | .int i, .int j => k (.bool (decide (i < j)))
  | .tuple x, .tuple y => int2W x y fun a b => k (.bool (HT.lexLt a b))
  | _, _ => False
def leW (d e : D) (k : Kt) : Prop := match d, e with | .int i, .int j => k (.bool (decide (i ≤ j))) | _, _ => False
def gtW (d e : D) (k : Kt) : Prop := match d, e with | .int i, .int j => k (.bool (decide (i > j))) | _, _ => False
def geW (d e : D) (k : Kt) : Prop := match d, e with | .int i, .int j => k (.bool (decide (i ≥ j))) | _, _ => False
def eqW (d e : D) (k : Kt) : Prop := min d.depth e.depth ≤ 64 ∧ k (.bool (PyData.eqv d e))
def neW (d e : D) (k : Kt) : Prop := min d.depth e.depth ≤ 64 ∧ k (.bool (!PyData.eqv d e))
def isNon : D → Bool
  | .none => true
  | _ => false
def isNW (d : D) (k : Kt) : Prop := k (.bool (isNon d))
def notNW (d : D) (k : Kt) : Prop := k (.bool (!isNon d))
def isBW (d : D) (b : Bool) (k : Kt) : Prop := match d with | .bool a => k (.bool (decide (a = b))) | _ => False
def notBW (d : D) (b : Bool) (k : Kt) : Prop := match d with | .bool a => k (.bool (!decide (a = b))) | _ => False
def inW (d c : D) (k : Kt) : Prop := match c with
  | .tuple l => min (PyData.depthAll l) d.depth ≤ 64 ∧ k (.bool (l.any fun y => PyData.eqv y d))
  | .list l => min (PyData.depthAll l) d.depth ≤ 64 ∧ k (.bool (l.any fun y => PyData.eqv y d))
  | _ => False
def ninW (d c : D) (k : Kt) : Prop := match c with
  | .tuple l => min (PyData.depthAll l) d.depth ≤ 64 ∧ k (.bool (!l.any fun y => PyData.eqv y d))
  | .list l => min (PyData.depthAll l) d.depth ≤ 64 ∧ k (.bool (!l.any fun y => PyData.eqv y d))
  | _ => False
def iopW (f : Int → Int → Int) (a b : D) (k : Kt) : Prop := match a, b with | .int i, .int j => k (.int (f i j)) | _, _ => False
def lenW (d : D) (k : Kt) : Prop := seqW d fun l => k (.int l.length)
/-- of an own list -/
def atW (l : List D) (i : Int) (k : Kt) : Prop := match atI l i with | some x => k x | none => False
def ixW (d e : D) (k : Kt) : Prop := iW e fun i => seqW d fun l => atW l i k
def cutD (xs : List D) (lo hi : Option Int) : List D := (xs.drop (HT.sIx xs.length 0 lo)).take (HT.sIx xs.length xs.length hi - HT.sIx xs.length 0 lo)
def cutW (d : D) (lo hi : Option Int) (k : Kt) : Prop := match d with
  | .list l => k (.list (cutD l lo hi))
  | .tuple l => k (.tuple (cutD l lo hi))
  | _ => False
def tyD : D → String
  | .none => "NoneType"
  | .bool _ => "bool"
  | .int _ => "int"
  | .str _ => "str"
  | .list _ => "list"
  | .tuple _ => "tuple"
  | .dict _ => "dict"
def isiW (d : D) (T : String) (k : Kt) : Prop := match kitB (tyD d) T with | some b => k (.bool b) | none => False
def negW (d : D) (k : Kt) : Prop := match d with | .int i => k (.int (-i)) | _ => False
def notW (d : D) (k : Kt) : Prop := match d with | .bool b => k (.bool (!b)) | _ => False
def intW (d : D) (k : Kt) : Prop := match d with | .int i => k (.int i) | .bool b => k (.int (if b then 1 else 0)) | _ => False
def absW (d : D) (k : Kt) : Prop := match d with | .int i => k (.int (if i < 0 then -i else i)) | _ => False
def max2W (d e : D) (k : Kt) : Prop := match d, e with | .int i, .int j => k (.int (if j > i then j else i)) | _, _ => False
def min2W (d e : D) (k : Kt) : Prop := match d, e with | .int i, .int j => k (.int (if j < i then j else i)) | _, _ => False
def tupW (d : D) (k : Kt) : Prop := seqW d fun l => k (.tuple l)
def boolsOf : List D → Option (List Bool)
  | [] => some []
  | .bool i :: r => (boolsOf r).map (i :: ·)
  | _ :: _ => none
theorem boolsOf_some : ∀ {l : List D} {ns : List Bool}, boolsOf l = some ns → l = ns.map .bool
  | [], _, h => by cases h; rfl
  | .bool i :: r, ns, h => by
    simp only [boolsOf, Option.map_eq_some_iff] at h
    obtain ⟨ms, h1, rfl⟩ := h
    rw [List.map_cons, ← boolsOf_some h1]
  | .none :: _, _, h => nomatch h
  | .int _ :: _, _, h => nomatch h
  | .str _ :: _, _, h => nomatch h
  | .list _ :: _, _, h => nomatch h
  | .tuple _ :: _, _, h => nomatch h
  | .dict _ :: _, _, h => nomatch h
theorem boolsOf_map (ns : List Bool) : boolsOf (ns.map .bool) = some ns := by
  induction ns with
  | nil => rfl
  | cons n ns ih => simp only [List.map_cons, boolsOf, ih, Option.map_some]
def allW (l : List D) (k : Kt) : Prop := match boolsOf l with | some bs => k (.bool (bs.all id)) | none => False
def anyW (l : List D) (k : Kt) : Prop := match boolsOf l with | some bs => k (.bool (bs.any id)) | none => False
/-- the least of a list -/
def minTW (d : D) (k : Kt) : Prop := match d with
  | .list (x :: xs) => PySem.W.AlikeAll (x :: xs) ∧ PyData.depthAll (x :: xs) ≤ 60 ∧ k (PySem.W.minD x xs)
  | _ => False
/-- range -/
def rngD (lo : Int) (n : Nat) : List D := (List.range n).map fun i => .int (lo + (i : Nat))
def rng1W (d : D) (k : List D → Prop) : Prop := iW d fun j => (-(2 ^ 62) ≤ j ∧ j < 2 ^ 62) ∧ k (rngD 0 j.toNat)
def rng2W (d e : D) (k : List D → Prop) : Prop := iW d fun i => iW e fun j => (-(2 ^ 62) ≤ i ∧ i < 2 ^ 62 ∧ -(2 ^ 62) ≤ j ∧ j < 2 ^ 62) ∧ k (rngD i (j - i).toNat)
/-! tests, ways -/
def letW {α : Type} (v : α) (k : α → Prop) : Prop := k v
def un2W (d : D) (k : D → D → Prop) : Prop := match d with | .tuple [a, b] => k a b | _ => False
def un3W (d : D) (k : D → D → D → Prop) : Prop := match d with | .tuple [a, b, c] => k a b c | _ => False
def un4W (d : D) (k : D → D → D → D → Prop) : Prop := match d with | .tuple [a, b, c, d] => k a b c d | _ => False
def andB (b : Bool) (u : (Bool → Prop) → Prop) (k : Bool → Prop) : Prop := if b = true then u k else k false
def orB (b : Bool) (u : (Bool → Prop) → Prop) (k : Bool → Prop) : Prop := if b = true then k true else u k
def andV (b : Bool) (u : Kt → Prop) (k : Kt) : Prop := if b = true then u k else k (.bool false)
def orV (b : Bool) (u : Kt → Prop) (k : Kt) : Prop := if b = true then k (.bool true) else u k
def iteV {α : Type} (b : Bool) (t u : (α → Prop) → Prop) (k : α → Prop) : Prop := if b = true then t k else u k
/-! loops -/
def forW {S : Type} (body : D → S → (S → Prop) → (S → Prop) → Prop) (k : S → Prop) : List D → S → Prop
  | [], s => k s
  | x :: xs, s => body x s (fun t => forW body k xs t) k
def whileN {S : Type} (c : S → (Bool → Prop) → Prop) (body : S → (S → Prop) → (S → Prop) → Prop) (k : S → Prop) : Nat → S → Prop
  | 0, _ => False
  | n + 1, s => c s fun b => if b = true then body s (fun t => whileN c body k n t) k else k s
def whileW {S : Type} (c : S → (Bool → Prop) → Prop) (body : S → (S → Prop) → (S → Prop) → Prop) (k : S → Prop) (s : S) : Prop := ∃ n, whileN c body k n s
/-- [e for x in .. if ..] -/
def lcW (body : D → Kt → Prop → Prop) (k : List D → Prop) : List D → List D → Prop
  | [], acc => k acc
  | x :: xs, acc => body x (fun y => acc.length < most ∧ lcW body k xs (acc ++ [y])) (lcW body k xs acc)
/-- any (sv), all (not sv) of a generator expression -/
def gxW (sv : Bool) (body : D → Kt → Prop → Prop) (k : Kt) : List D → Prop
  | [] => k (.bool (!sv))
  | x :: xs => body x (fun y => bW y fun c => if c = sv then k (.bool sv) else gxW sv body k xs) (gxW sv body k xs)
/-- list.append, list.extend, l[i] = x of an own list -/
def apW (l : List D) (x : D) (k : List D → Prop) : Prop := l.length < most ∧ k (l ++ [x])
def exW (l m : List D) (k : List D → Prop) : Prop := l.length + m.length ≤ most ∧ k (l ++ m)
def stW (l : List D) (i x : D) (k : List D → Prop) : Prop := iW i fun n => match ixN l.length n with | some j => k (l.set j x) | none => False
def mkW (l : List D) (k : List D → Prop) : Prop := l.length ≤ most ∧ k l
end MW

set_option maxHeartbeats 2000001
/-! the machine's rules for the words of MW -/
namespace MR
open PySem PySem.Spec PyProof.Rows L2 DW MG
open GxR (TabG Tabbed)

/-! ### rules of the machine that HandS lacks -/
theorem lst_addW (l b : Addr) (xs ys : Array Value) (n m : Nat) (sl tl : Array (Option Value)) (hz : xs.size + ys.size ≤ sizeLine) :
    Meets (Builtin.«list.__add__» ⟨[.ref l, .ref b], []⟩) (fun _ R s => s.heap.get? l = some { cls := .type "list", dict := none, data := .seq xs n, slots := sl } ∧ s.heap.get? b = some { cls := .type "list", dict := none, data := .seq ys m, slots := tl } ∧
      R (.ok (.ret (Value.ref s.heap.objs.size))) { s with heap := s.heap.push { cls := Value.type "list", data := Data.seq (xs ++ ys) }, toks := s.toks }) :=
  .of_wp fun prog w A R s h => by
    obtain ⟨hp, g, d, tk, os⟩ := s
    obtain ⟨h1, h2, h⟩ := h
    have f1 := AutoSeq1.idx_int
    have f2 := AutoSeq1.sub_tuple_tuple
    have f3 := AutoSeq1.sub_list_list
    have f4 := AutoSeq1.sub_tuple_list
    have f5 := AutoSeq1.sub_list_tuple
    wp_walk using wpAny_loadPart' h1, wpAny_loadPart' h2
    exact ⟨_, rfl, h⟩
section
variable {X : Cx}
def rCatL (K : PySem.W.Frag) : R2 := fun x y H Q => ∃ l b xs zs, x = .ref l ∧ y = .ref b ∧ SqL K H l xs ∧ SqL K H b zs ∧ xs.length + zs.length ≤ sizeLine ∧ ∀ p, H p = none → Q (.ref p) (upd H p (.lst (xs ++ zs)))
theorem op_catL : OpR X (binaryOp .Add) (rCatL X.K) := by
  intro pins s σ H x y v u Q I rx ry h
  obtain ⟨l, b, xs, zs, rfl, rfl, hH, hB, hz, q⟩ := h
  cases rx
  cases ry
  obtain ⟨its, r, ⟨⟨c1, d1, a1, s1⟩, n, e, z1, z2, z3⟩, hl⟩ := I.list hH
  obtain ⟨jts, r2, ⟨⟨c2, d2, a2, s2⟩, m, e2, y1, y2, y3⟩, hl2⟩ := I.list hB
  simp only at z1 z2 z3 y1 y2 y3
  subst z1 z2 z3 y1 y2 y3
  have e1 := r.length
  have e3 := r2.length
  refine PySem.concat_meets ⟨_, e, rfl⟩ ⟨_, e2, rfl⟩ noFill_list_add seq_list_add F.slot_list_add F.entry_list_add (F.args_list_add_2 _ _) (lst_addW l b its.toArray jts.toArray n m s1 s2 (by rw [List.size_toArray, List.size_toArray]; omega)) ⟨e, e2, ?_⟩
  have ea : its.toArray ++ jts.toArray = (its ++ jts).toArray := by simp
  rw [ea]
  exact ⟨.ref _, _, I.lnew (t' := s.toks) (r.append r2) (by rw [List.length_append]; omega), rfl, q _ I.fresh⟩
def rAddM (K : PySem.W.Frag) : R2 := fun x y H Q => rI0 (fun i j => .int (i + j)) x y H Q ∨ rCatA K x y H Q ∨ rCatL K x y H Q
theorem op_addM : OpR X (binaryOp .Add) (rAddM X.K) := op_add.or (op_catA.or op_catL)
mutual
theorem dp_plain {K : PySem.W.Frag} {H : Hp} : ∀ {d : PyData} {v : V}, Dp K H v d → d.plain = true
  | .none, _, .non => rfl
  | .bool _, _, .bl _ => rfl
  | .int _, _, .int _ => rfl
  | .str _, _, .str _ => rfl
  | .list _, _, .lst _ a => dp_plains a
  | .tuple _, _, .tup _ a => dp_plains a
theorem dp_plains {K : PySem.W.Frag} {H : Hp} : ∀ {ds : List PyData} {vs : List V}, DpAll K H vs ds → PyData.plainAll ds = true
  | [], _, .nil => rfl
  | _ :: _, _, .cons h t => by rw [PyData.plainAll, dp_plain h, dp_plains t]; rfl
end
mutual
theorem no_dict : ∀ {d : PyData}, d.plain = true → d.hasDict = false
  | .none, _ => rfl
  | .bool _, _ => rfl
  | .int _, _ => rfl
  | .str _, _ => rfl
  | .list _, h => no_dicts h
  | .tuple _, h => no_dicts h
theorem no_dicts : ∀ {ds : List PyData}, PyData.plainAll ds = true → PyData.hasDictAll ds = false
  | [], _ => rfl
  | x :: xs, h => by
    simp only [PyData.plainAll, Bool.and_eq_true] at h
    simp only [PyData.hasDictAll, no_dict h.1, no_dicts h.2, Bool.or_false]
end
def rEqP (K : PySem.W.Frag) : R2 := fun x y H Q => ∃ d e, Dp K H x d ∧ Dp K H y e ∧ min d.depth e.depth ≤ 64 ∧ Q (.bl (PyData.eqv d e)) H
def rNeP (K : PySem.W.Frag) : R2 := fun x y H Q => ∃ d e, Dp K H x d ∧ Dp K H y e ∧ min d.depth e.depth ≤ 64 ∧ Q (.bl (!PyData.eqv d e)) H
theorem op_eqP {k : Nat} (hr : Rm k X.A) : OpR X (compareOp .Eq) (rEqP X.K) := by
  intro pins s σ H x y v u Q I rx ry h
  obtain ⟨d, e, hd, he, hm, q⟩ := h
  obtain ⟨as, r1⟩ := Dp.reads I d x v hd rx
  obtain ⟨bs, r2⟩ := Dp.reads I e y u he ry
  have := hr.r.un
  exact SeqAt.eq_plain r1 r2 (dp_plain hd) (dp_plain he) (by omega) ⟨.bl _, H, I, rfl, q⟩
theorem op_neP {k : Nat} (hr : Rm k X.A) : OpR X (compareOp .NotEq) (rNeP X.K) := by
  intro pins s σ H x y v u Q I rx ry h
  obtain ⟨d, e, hd, he, hm, q⟩ := h
  obtain ⟨as, r1⟩ := Dp.reads I d x v hd rx
  obtain ⟨bs, r2⟩ := Dp.reads I e y u he ry
  have := hr.r.un
  exact SeqAt.ne_plain r1 r2 (dp_plain hd) (dp_plain he) (by omega) ⟨.bl _, H, I, rfl, q⟩
def rInP (K : PySem.W.Frag) : R2 := fun x y H Q => ∃ d c l, Dp K H x d ∧ Dp K H y c ∧ (c = .list l ∨ c = .tuple l) ∧ min (PyData.depthAll l) d.depth ≤ 64 ∧ Q (.bl (l.any fun z => PyData.eqv z d)) H
def rNinP (K : PySem.W.Frag) : R2 := fun x y H Q => ∃ d c l, Dp K H x d ∧ Dp K H y c ∧ (c = .list l ∨ c = .tuple l) ∧ min (PyData.depthAll l) d.depth ≤ 64 ∧ Q (.bl (!l.any fun z => PyData.eqv z d)) H
theorem op_inP {k : Nat} (hr : Rm k X.A) : OpR X (compareOp .In) (rInP X.K) := by
  intro pins s σ H x y v u Q I rx ry h
  obtain ⟨d, c, l, hd, hc, el, hm, q⟩ := h
  obtain ⟨as, r1⟩ := Dp.reads I d x v hd rx
  obtain ⟨bs, r2⟩ := Dp.reads I c y u hc ry
  have := hr.r.un
  have pc := dp_plain hc
  rcases el with rfl | rfl
  · exact SeqAt.in_list_data r2 r1 pc (dp_plain hd) (by omega) ⟨.bl _, H, I, rfl, q⟩
  · exact SeqAt.in_tuple_data r2 r1 pc (dp_plain hd) (by omega) ⟨.bl _, H, I, rfl, q⟩
theorem op_ninP {k : Nat} (hr : Rm k X.A) : OpR X (compareOp .NotIn) (rNinP X.K) := by
  intro pins s σ H x y v u Q I rx ry h
  obtain ⟨d, c, l, hd, hc, el, hm, q⟩ := h
  obtain ⟨as, r1⟩ := Dp.reads I d x v hd rx
  obtain ⟨bs, r2⟩ := Dp.reads I c y u hc ry
  have := hr.r.un
  have pc := dp_plain hc
  rcases el with rfl | rfl
  · exact SeqAt.notIn_list_data r2 r1 pc (dp_plain hd) (by omega) ⟨.bl _, H, I, rfl, q⟩
  · exact SeqAt.notIn_tuple_data r2 r1 pc (dp_plain hd) (by omega) ⟨.bl _, H, I, rfl, q⟩
def rLtM (K : PySem.W.Frag) : R2 := fun x y H Q => rI0 (fun i j => .bl (decide (i < j))) x y H Q ∨ rLtT K x y H Q
theorem op_ltM {k : Nat} (hr : Rm k X.A) : OpR X (compareOp .Lt) (rLtM X.K) := op_lt.or (op_ltT (by have := hr.r.un; omega))
def rRepr (K : PySem.W.Frag) : List V → Hp → VK → Prop := fun xs H Q => ∃ (a : Addr) (d : PyData), xs = [.ref a] ∧ Dp K H (.ref a) d ∧ d.showable = true ∧ d.depth ≤ 60 ∧ d.shown.length ≤ sizeLine ∧ Q (.str d.shown) H
theorem call_reprD {k : Nat} (hr : Rm k X.A) : CallR X (.builtin "repr") (rRepr X.K) := by
  intro pins s σ H xs us Q I r h
  obtain ⟨a, d, rfl, hd, h1, h2, h3, q⟩ := h
  rw [Vals.ref1 r]
  obtain ⟨as, rd⟩ := Dp.reads I d (.ref a) (.ref a) hd rfl
  have := hr.r.un
  exact repr_of_reads' rd h1 (by rw [no_dict (dp_plain hd)]; exact fun z => nomatch z) hr.g (by omega) (fun _ _ e => e) (fun h' u tk hk => ⟨.str _, H, I.kept hk, ⟨_, rfl⟩, q⟩) h3
end
end MR

set_option maxHeartbeats 2000001
/-! what is told of data, by the words of MW -/
namespace DW
open PySem PySem.Spec PyProof.Rows L2 MG MR
open GxR (TabG Tabbed)
open MW (Kt)
section
variable {Γ : Gam} {δ : Sl} {te ta tb : TE} {tt tu : TT} {k : PyData → Prop} {kb : Bool → Prop} {kl : List PyData → Prop}
theorem wR.mono {k' : PyData → Prop} (h : wR Γ te δ k) (hk : ∀ d, k d → k' d) : wR Γ te δ k' := fun ω σ H S Q q => h ω σ H S Q fun v H2 d kd => q v H2 d (hk d kd)
theorem wA.mono {ta : TA} {k k' : List PyData → Prop} (h : wA Γ ta δ k) (hk : ∀ d, k d → k' d) : wA Γ ta δ k' := fun ω σ H S Q q => h ω σ H S Q fun v H2 d kd => q v H2 d (hk d kd)
theorem iteM {b : Bool} {p q p' q' : Prop} (h : if b = true then p else q) (h1 : p → p') (h2 : q → q') : if b = true then p' else q' := by
  cases b with
  | true => exact h1 h
  | false => exact h2 h
theorem hid_dp {A : Addr → Prop} {K : PySem.W.Frag} {H : Hp} {v : V} {d : PyData} (h : Dp K (hid A H) v d) : Dp K H v d := (hid_le A H).dp h
/-! ### operators -/
theorem rd_catA {ds es : List PyData} (hz : ds.length + es.length ≤ MW.most) (hk : k (.tuple (ds ++ es))) : RD2 Γ (rCatA Γ.K) (.tuple ds) (.tuple es) k := fun A W H x y Q hw a b ht q => by
  cases a with
  | tup h1 a1 =>
    cases b with
    | tup h2 a2 =>
      have l1 := dpLen a1
      have l2 := dpLen a2
      refine ⟨_, _, _, _, rfl, rfl, (hid_le _ _).seqT h1, (hid_le _ _).seqT h2, sizeOk (by rw [l1, l2]; exact hz), fun e => ?_, fun _ e => ?_, fun _ _ p hp => ?_⟩
      · subst e
        cases a1
        exact q _ H _ hk .refl (.tup h2 a2)
      · subst e
        cases a2
        rw [List.append_nil] at hk
        exact q _ H _ hk .refl (.tup h1 a1)
      · have na : ¬ A p := fun z => ht p z hp
        exact q _ _ _ hk (.new hp) (.tup (.of (by rw [hid_no na, upd_same])) (((Ext.new (Γ := Γ) (W := W) hp).hid hw).dpAll (dpApp a1 a2)))
theorem rd_catL {ds es : List PyData} (hz : ds.length + es.length ≤ MW.most) (hk : k (.list (ds ++ es))) : RD2 Γ (rCatL Γ.K) (.list ds) (.list es) k := fun A W H x y Q hw a b ht q => by
  cases a with
  | lst h1 a1 =>
    cases b with
    | lst h2 a2 =>
      refine ⟨_, _, _, _, rfl, rfl, (hid_le _ _).seqL h1, (hid_le _ _).seqL h2, sizeOk (by rw [dpLen a1, dpLen a2]; exact hz), fun p hp => ?_⟩
      have na : ¬ A p := fun z => ht p z hp
      exact q _ _ _ hk (.new hp) (.lst (.of (by rw [hid_no na, upd_same])) (((Ext.new (Γ := Γ) (W := W) hp).hid hw).dpAll (dpApp a1 a2)))
theorem rd_addM {d e : PyData} (h : MW.addW d e k) : RD2 Γ (rAddM Γ.K) d e k := by
  cases d with
  | int i => cases e with
    | int j => exact rd_or1 (rd_i0 h)
    | _ => exact (show False from h).elim
  | tuple i => cases e with
    | tuple j => exact rd_or2 (rd_or1 (rd_catA h.1 h.2))
    | _ => exact (show False from h).elim
  | list i => cases e with
    | list j => exact rd_or2 (rd_or2 (rd_catL h.1 h.2))
    | _ => exact (show False from h).elim
  | _ => exact (show False from h).elim
theorem w_add (h : wE Γ ta δ fun d => wE Γ tb δ fun e => MW.addW d e k) : wE Γ (tOp (rAddM Γ.K) ta tb) δ k := w_op (h.mono fun d h => h.mono fun e h => rd_addM h)
theorem rd_i2 {C : Int → Int → Prop} {g : Int → Int → Int} {d e : PyData} (h : MW.i2W C (fun i j => .int (g i j)) d e k) : RD2 Γ (rI C fun i j => .int (g i j)) d e k := by
  cases d with
  | int i => cases e with
    | int j => exact rd_i h.1 h.2
    | _ => exact (show False from h).elim
  | _ => exact (show False from h).elim
theorem w_mul (h : wE Γ ta δ fun d => wE Γ tb δ fun e => MW.mulW d e k) : wE Γ (tOp (rI CMulW fun i j => .int (i * j)) ta tb) δ k := w_op (h.mono fun d h => h.mono fun e h => rd_i2 h)
theorem w_fdiv (h : wE Γ ta δ fun d => wE Γ tb δ fun e => MW.fdivW d e k) : wE Γ (tOp (rI CDivW fun i j => .int (i / j)) ta tb) δ k := w_op (h.mono fun d h => h.mono fun e h => rd_i2 h)
theorem w_mod (h : wE Γ ta δ fun d => wE Γ tb δ fun e => MW.modW d e k) : wE Γ (tOp (rI (fun _ j => 0 < j) fun i j => .int (i % j)) ta tb) δ k := w_op (h.mono fun d h => h.mono fun e h => rd_i2 h)
theorem w_pow (h : wE Γ ta δ fun d => wE Γ tb δ fun e => MW.powW d e k) : wE Γ (tOp (rI CPow fun i j => .int (i ^ j.toNat)) ta tb) δ k := w_op (h.mono fun d h => h.mono fun e h => rd_i2 h)
theorem w_shl (h : wE Γ ta δ fun d => wE Γ tb δ fun e => MW.shlW d e k) : wE Γ (tOp (rI CPow fun i j => .int (i * 2 ^ j.toNat)) ta tb) δ k := w_op (h.mono fun d h => h.mono fun e h => rd_i2 h)
theorem w_shr (h : wE Γ ta δ fun d => wE Γ tb δ fun e => MW.shrW d e k) : wE Γ (tOp (rI (fun _ j => 0 ≤ j) fun i j => .int (i / 2 ^ j.toNat)) ta tb) δ k := w_op (h.mono fun d h => h.mono fun e h => rd_i2 h)
theorem w_sub (h : wE Γ ta δ fun d => wE Γ tb δ fun e => MW.subW d e k) : wE Γ (tOp (rI0 fun i j => .int (i - j)) ta tb) δ k := w_op (h.mono fun d h => h.mono fun e h => by
  cases d with
  | int i => cases e with
    | int j => exact rd_i0 h
    | _ => exact (show False from h).elim
  | _ => exact (show False from h).elim)
theorem w_band (h : wE Γ ta δ fun d => wE Γ tb δ fun e => MW.bandW d e k) : wE Γ (tOp (rI0 fun i j => .int (Builtin.bitAnd i j)) ta tb) δ k := w_op (h.mono fun d h => h.mono fun e h => by
  cases d with
  | int i => cases e with
    | int j => exact rd_i0 h
    | _ => exact (show False from h).elim
  | _ => exact (show False from h).elim)
theorem w_bor (h : wE Γ ta δ fun d => wE Γ tb δ fun e => MW.borW d e k) : wE Γ (tOp (rI0 fun i j => .int (Builtin.bitOr i j)) ta tb) δ k := w_op (h.mono fun d h => h.mono fun e h => by
  cases d with
  | int i => cases e with
    | int j => exact rd_i0 h
    | _ => exact (show False from h).elim
  | _ => exact (show False from h).elim)
theorem rd_ltT {x y : List PyData} (h : MW.int2W x y fun a b => k (.bool (HT.lexLt a b))) : RD2 Γ (rLtT Γ.K) (.tuple x) (.tuple y) k := fun A W H u v Q hw a b ht q => by
  unfold MW.int2W at h
  split at h
  · rename_i ns ms h1 h2
    have e1 := MW.intsOf_some h1
    have e2 := MW.intsOf_some h2
    subst e1 e2
    cases a with
    | tup s1 a1 =>
      cases b with
      | tup s2 a2 =>
        rw [dpInts a1] at s1
        rw [dpInts a2] at s2
        exact ⟨_, _, ns, ms, rfl, rfl, (hid_le _ _).seqT s1, (hid_le _ _).seqT s2, q _ H _ h .refl (.bl _)⟩
  · exact h.elim
theorem w_lt (h : wE Γ ta δ fun d => wE Γ tb δ fun e => MW.ltW d e k) : wE Γ (tOp (rLtM Γ.K) ta tb) δ k := w_op (h.mono fun d h => h.mono fun e h => by
  cases d with
  | int i => cases e with
    | int j => exact rd_or1 (rd_b0 h)
    | _ => exact (show False from h).elim
  | tuple i => cases e with
    | tuple j => exact rd_or2 (rd_ltT h)
    | _ => exact (show False from h).elim
  | _ => exact (show False from h).elim)
theorem w_le (h : wE Γ ta δ fun d => wE Γ tb δ fun e => MW.leW d e k) : wE Γ (tOp (rI0 fun i j => .bl (decide (i ≤ j))) ta tb) δ k := w_op (h.mono fun d h => h.mono fun e h => by
  cases d with
  | int i => cases e with
    | int j => exact rd_b0 h
    | _ => exact (show False from h).elim
  | _ => exact (show False from h).elim)
theorem w_gt (h : wE Γ ta δ fun d => wE Γ tb δ fun e => MW.gtW d e k) : wE Γ (tOp (rI0 fun i j => .bl (decide (i > j))) ta tb) δ k := w_op (h.mono fun d h => h.mono fun e h => by
  cases d with
  | int i => cases e with
    | int j => exact rd_b0 h
    | _ => exact (show False from h).elim
  | _ => exact (show False from h).elim)
theorem w_ge (h : wE Γ ta δ fun d => wE Γ tb δ fun e => MW.geW d e k) : wE Γ (tOp (rI0 fun i j => .bl (decide (i ≥ j))) ta tb) δ k := w_op (h.mono fun d h => h.mono fun e h => by
  cases d with
  | int i => cases e with
    | int j => exact rd_b0 h
    | _ => exact (show False from h).elim
  | _ => exact (show False from h).elim)
theorem w_eq (h : wR Γ ta δ fun d => wR Γ tb δ fun e => MW.eqW d e k) : wE Γ (tOp (rEqP Γ.K) ta tb) δ k := w_opR (h.mono fun d h => h.mono fun e h H x y Q a b q => ⟨d, e, a, b, h.1, q _ h.2⟩)
theorem w_ne (h : wR Γ ta δ fun d => wR Γ tb δ fun e => MW.neW d e k) : wE Γ (tOp (rNeP Γ.K) ta tb) δ k := w_opR (h.mono fun d h => h.mono fun e h H x y Q a b q => ⟨d, e, a, b, h.1, q _ h.2⟩)
theorem w_in (h : wR Γ ta δ fun d => wR Γ tb δ fun e => MW.inW d e k) : wE Γ (tOp (rInP Γ.K) ta tb) δ k := w_opR (h.mono fun d h => h.mono fun e h H x y Q a b q => by
  cases e with
  | tuple l => exact ⟨d, _, l, a, b, .inr rfl, h.1, q _ h.2⟩
  | list l => exact ⟨d, _, l, a, b, .inl rfl, h.1, q _ h.2⟩
  | _ => exact (show False from h).elim)
theorem w_nin (h : wR Γ ta δ fun d => wR Γ tb δ fun e => MW.ninW d e k) : wE Γ (tOp (rNinP Γ.K) ta tb) δ k := w_opR (h.mono fun d h => h.mono fun e h H x y Q a b q => by
  cases e with
  | tuple l => exact ⟨d, _, l, a, b, .inr rfl, h.1, q _ h.2⟩
  | list l => exact ⟨d, _, l, a, b, .inl rfl, h.1, q _ h.2⟩
  | _ => exact (show False from h).elim)
theorem dp_nonM {K : PySem.W.Frag} {H : Hp} {v : V} {d : PyData} (h : Dp K H v d) : decide (v = .non) = MW.isNon d := by
  cases h <;> first | rfl | exact decide_eq_false (fun z => nomatch z)
theorem w_isNM (h : wR Γ ta δ fun d => MW.isNW d k) : wE Γ (tOp (fun x y H Q => y = .non ∧ Q (.bl (decide (x = .non))) H) ta (tC .non)) δ k := fun ω σ H S Q q => h ω σ H S _ fun v H2 d kd e a => by
  refine ⟨rfl, ?_⟩
  rw [dp_nonM (a H2 .refl)]
  exact q _ H2 _ kd e (.bl _)
theorem w_notNM (h : wR Γ ta δ fun d => MW.notNW d k) : wE Γ (tOp (fun x y H Q => y = .non ∧ Q (.bl (!decide (x = .non))) H) ta (tC .non)) δ k := fun ω σ H S Q q => h ω σ H S _ fun v H2 d kd e a => by
  refine ⟨rfl, ?_⟩
  rw [dp_nonM (a H2 .refl)]
  exact q _ H2 _ kd e (.bl _)
theorem w_isB {b : Bool} (h : wE Γ ta δ fun d => MW.isBW d b k) : wE Γ (tOp rIsB ta (tC (.bl b))) δ k := w_op (h.mono fun d h => w_bl (by
  cases d with
  | bool a => exact rd_isB h
  | _ => exact (show False from h).elim))
theorem w_notB {b : Bool} (h : wE Γ ta δ fun d => MW.notBW d b k) : wE Γ (tOp rNotB ta (tC (.bl b))) δ k := w_op (h.mono fun d h => w_bl (by
  cases d with
  | bool a => exact rd_notB h
  | _ => exact (show False from h).elim))
/-! ### places, parts -/
theorem rd_ixM {d e : PyData} (h : MW.ixW d e k) : RD2 Γ (rIx Γ.K) d e k := by
  cases e with
  | int i =>
    have h' : MW.seqW d fun l => MW.atW l i k := h
    cases d with
    | tuple l =>
      have h' : MW.atW l i k := h'
      unfold MW.atW at h'
      split at h'
      · rename_i x hx
        exact rd_ix (.inl rfl) hx h'
      · exact h'.elim
    | list l =>
      have h' : MW.atW l i k := h'
      unfold MW.atW at h'
      split at h'
      · rename_i x hx
        exact rd_ix (.inr rfl) hx h'
      · exact h'.elim
    | _ => exact (show False from h').elim
  | _ => exact (show False from h).elim
theorem w_ix (h : wE Γ ta δ fun d => wE Γ tb δ fun e => MW.ixW d e k) : wE Γ (tOp (rIx Γ.K) ta tb) δ k := w_op (h.mono fun d h => h.mono fun e h => rd_ixM h)
/-- s[i] of an own list -/
theorem w_ixO (h : wL Γ ta δ fun ds => wE Γ tb δ fun e => MW.iW e fun i => MW.atW ds i k) : wE Γ (tOp (rIx Γ.K) ta tb) δ k := w_ixL (h.mono fun ds h => h.mono fun e h => by
  cases e with
  | int i =>
    have h : MW.atW ds i k := h
    unfold MW.atW at h
    split at h
    · rename_i x hx
      exact ⟨i, x, rfl, hx, h⟩
    · exact h.elim
  | _ => exact (show False from h).elim)
def wO (Γ : Gam) (to : TO) (δ : Sl) (k : Option Int → Prop) : Prop := ∀ ω σ H, Si Γ ω σ H δ → ∀ Q : Option Int → Hp → Prop, (∀ v H2, k v → Ext Γ ω.W H H2 → Q v H2) → to σ H Q
theorem o_no {k : Option Int → Prop} (hk : k none) : wO Γ tNoPart δ k := fun ω σ H S Q q => q none H hk .refl
theorem o_some {k : Option Int → Prop} (h : wE Γ te δ fun d => MW.iW d fun i => k (some i)) : wO Γ (tPart te) δ k := fun ω σ H S Q q => h ω σ H S _ fun v H2 d hd e a => by
  cases a with
  | int i => exact ⟨i, rfl, q _ H2 hd e⟩
  | _ => exact (show False from hd).elim
theorem wO.mono {to : TO} {k k' : Option Int → Prop} (h : wO Γ to δ k) (hk : ∀ d, k d → k' d) : wO Γ to δ k' := fun ω σ H S Q q => h ω σ H S Q fun v H2 kd => q v H2 (hk v kd)
def rSlM (K : PySem.W.Frag) : V → Option Int → Option Int → Hp → VK → Prop := fun x lo hi H Q => rSlA K x lo hi H Q ∨ rSlL K x lo hi H Q
theorem sl_M {X : Cx} : SlR X (rSlM X.K) := sl_tupA.or sl_list
theorem dpCut {K : PySem.W.Frag} {G : Hp} {ds : List PyData} {vs : List V} (lo hi : Option Int) (h : DpAll K G vs ds) : DpAll K G (cutV vs lo hi) (MW.cutD ds lo hi) := by
  unfold cutV MW.cutD
  rw [dpLen h]
  exact dpTake _ (dpDrop _ h)
theorem cut_whole {vs : List V} {lo hi : Option Int} (h : HT.sIx vs.length 0 lo = 0 ∧ HT.sIx vs.length vs.length hi = vs.length) : cutV vs lo hi = vs := by
  unfold cutV
  rw [h.1, h.2, List.drop_zero, Nat.sub_zero, List.take_length]
theorem w_cut {tl th : TO} (h : wE Γ te δ fun d => wO Γ tl δ fun lo => wO Γ th δ fun hi => MW.cutW d lo hi k) : wE Γ (tSl (rSlM Γ.K) te tl th) δ k := fun ω σ H S Q q => by
  refine h ω σ H S _ fun x H1 d h1 e1 a1 => h1 ω σ H1 (S.ext e1) _ fun lo H2 h2 e2 => h2 ω σ H2 ((S.ext e1).ext e2) _ fun hi H3 h3 e3 => ?_
  have e23 := e2.trans e3
  have e13 := e1.trans e23
  have a3 := (e23.hid S.wa).dp a1
  have S3 := S.ext e13
  cases a3 with
  | tup hs ha =>
    have dc := dpCut lo hi ha
    refine .inl ⟨_, _, rfl, (hid_le _ _).seqT hs, fun hw => ?_, fun _ p hp => ?_⟩
    · rw [cut_whole hw] at dc
      exact q _ H3 _ h3 e13 (.tup hs dc)
    · have na := S3.fresh hp
      exact q _ _ _ h3 (e13.trans (.new hp)) (.tup (.of (by rw [hid_no na, upd_same])) (((Ext.new (Γ := Γ) (W := ω.W) hp).hid S.wa).dpAll dc))
  | lst hs ha =>
    have dc := dpCut lo hi ha
    refine .inr ⟨_, _, rfl, (hid_le _ _).seqL hs, fun p hp => ?_⟩
    have na := S3.fresh hp
    exact q _ _ _ h3 (e13.trans (.new hp)) (.lst (.of (by rw [hid_no na, upd_same])) (((Ext.new (Γ := Γ) (W := ω.W) hp).hid S.wa).dpAll dc))
  | _ => exact (show False from h3).elim
/-- a part of a list: a new list -/
theorem n_cut {tl th : TO} (h : wL Γ te δ fun ds => wO Γ tl δ fun lo => wO Γ th δ fun hi => kl (MW.cutD ds lo hi)) : wN Γ (tSl (rSlM Γ.K) te tl th) δ kl := fun ω σ H S Q q => by
  refine h ω σ H S _ fun x vs H1 d h1 e1 st a1 => h1 ω σ H1 (S.ext e1) _ fun lo H2 h2 e2 => h2 ω σ H2 ((S.ext e1).ext e2) _ fun hi H3 h3 e3 => ?_
  have e23 := e2.trans e3
  have e13 := e1.trans e23
  have dc := dpCut lo hi ((e23.hid S.wa).dpAll a1)
  refine .inr ⟨_, _, rfl, st H3 e23, fun p hp => ?_⟩
  exact q p _ _ _ h3 (e13.trans (.new hp)) (S.back e13 hp) upd_same ((le_add ((Ext.new (Γ := Γ) (W := ω.W) hp).hid S.wa) hp).dpAll dc)
theorem seq_of {d : PyData} {kk : List PyData → Prop} (h : MW.seqW d kk) : ∃ ds, (d = .tuple ds ∨ d = .list ds) ∧ kk ds := by
  cases d with
  | tuple l => exact ⟨l, .inl rfl, h⟩
  | list l => exact ⟨l, .inr rfl, h⟩
  | _ => exact (show False from h).elim
theorem w_lenM (h : wR Γ ta δ fun d => MW.lenW d k) : wE Γ (tCB (fun xs H Q => ∃ p ys, xs = [.ref p] ∧ (SqL Γ.K H p ys ∨ SqT Γ.K H p ys) ∧ Q (.int ys.length) H) (tCons ta tNil)) δ k := w_len (h.mono fun d h => seq_of h)
theorem w_tupM (h : wE Γ ta δ fun d => MW.tupW d k) : wE Γ (tCB (fun xs H Q => ∃ p ys, xs = [.ref p] ∧ ((SqL Γ.K H p ys ∧ ∀ l, H l = none → Q (.ref l) (upd H l (.tup ys))) ∨ (SqT Γ.K H p ys ∧ Q (.ref p) H))) (tCons ta tNil)) δ k := fun ω σ H S Q q => h ω σ H S _ fun v H2 d hd e a => by
  cases a with
  | tup hs ha => exact ⟨_, _, rfl, .inr ⟨(hid_le _ _).seqT hs, q _ H2 _ hd e (.tup hs ha)⟩⟩
  | lst hs ha =>
    refine ⟨_, _, rfl, .inl ⟨(hid_le _ _).seqL hs, fun p hp => ?_⟩⟩
    have na := S.fresh (S.back e hp)
    exact q _ _ _ hd (e.trans (.new hp)) (.tup (.of (by rw [hid_no na, upd_same])) (((Ext.new (Γ := Γ) (W := ω.W) hp).hid S.wa).dpAll ha))
  | _ => exact (show False from hd).elim
theorem n_listM (h : wE Γ ta δ fun d => MW.seqW d kl) : wN Γ (tCB (fun xs H Q => ∃ p ys, xs = [.ref p] ∧ (SqL Γ.K H p ys ∨ SqT Γ.K H p ys) ∧ ∀ l, H l = none → Q (.ref l) (upd H l (.lst ys))) (tCons ta tNil)) δ kl := fun ω σ H S Q q => h ω σ H S _ fun v H2 d hd e a => by
  cases a with
  | tup hs ha =>
    refine ⟨_, _, rfl, .inr ((hid_le _ _).seqT hs), fun p hp => ?_⟩
    exact q p _ _ _ hd (e.trans (.new hp)) (S.back e hp) upd_same ((le_add ((Ext.new (Γ := Γ) (W := ω.W) hp).hid S.wa) hp).dpAll ha)
  | lst hs ha =>
    refine ⟨_, _, rfl, .inl ((hid_le _ _).seqL hs), fun p hp => ?_⟩
    exact q p _ _ _ hd (e.trans (.new hp)) (S.back e hp) upd_same ((le_add ((Ext.new (Γ := Γ) (W := ω.W) hp).hid S.wa) hp).dpAll ha)
  | _ => exact (show False from hd).elim
theorem dpTy {K : PySem.W.Frag} {H : Hp} {v : V} {d : PyData} (h : Dp K H v d) : TyX K H v (.type (MW.tyD d)) := by
  have := tyX_of h
  cases d <;> exact this
theorem w_isiM {T : String} (h : wR Γ ta δ fun d => MW.isiW d T k) : wE Γ (tCB (rIsi Γ.K) (tCons ta (tCons (tC (.ty T)) tNil))) δ k := fun ω σ H S Q q => h ω σ H S _ fun v H2 d hd e a => by
  have hd : MW.isiW d T k := hd
  unfold MW.isiW at hd
  split at hd
  · rename_i b hb
    exact ⟨v, _, _, _, b, rfl, .ty T, dpTy (a H2 .refl), kit_ty hb, q _ H2 _ hd e (.bl b)⟩
  · exact hd.elim
theorem w_negM (h : wE Γ ta δ fun d => MW.negW d k) : wE Γ (tUn (rU fun i => .int (-i)) ta) δ k := w_neg (h.mono fun d h => by
  cases d with
  | int i => exact ⟨i, rfl, h⟩
  | _ => exact (show False from h).elim)
theorem w_notVM (h : wE Γ ta δ fun d => MW.notW d k) : wE Γ (tNotV ta) δ k := w_notV (h.mono fun d h => by
  cases d with
  | bool i => exact ⟨i, rfl, h⟩
  | _ => exact (show False from h).elim)
theorem w_c1 {r : List V → Hp → VK → Prop} (h : wE Γ ta δ fun d => CD Γ r [d] k) : wE Γ (tCB r (tCons ta tNil)) δ k := w_cb (w_cons (h.mono fun d h => w_nil h))
theorem w_c2 {r : List V → Hp → VK → Prop} (h : wE Γ ta δ fun d => wE Γ tb δ fun e => CD Γ r [d, e] k) : wE Γ (tCB r (tCons ta (tCons tb tNil))) δ k := w_cb (w_cons (h.mono fun d h => w_cons (h.mono fun e h => w_nil h)))
theorem w_intM (h : wE Γ ta δ fun d => MW.intW d k) : wE Γ (tCB (fun xs H Q => (∃ i, xs = [.int i] ∧ Q (.int i) H) ∨ ∃ k, xs = [.bl k] ∧ Q (.int (if k then 1 else 0)) H) (tCons ta tNil)) δ k := w_c1 (h.mono fun d h A W H xs Q hw a ht q => by
  cases a with
  | cons a t =>
    cases t
    cases a with
    | int i => exact .inl ⟨i, rfl, q _ H _ h .refl (.int _)⟩
    | bl b => exact .inr ⟨b, rfl, q _ H _ h .refl (.int _)⟩
    | _ => exact (show False from h).elim)
theorem w_absM (h : wE Γ ta δ fun d => MW.absW d k) : wE Γ (tCB (fun xs H Q => ∃ i, xs = [.int i] ∧ Q (.int (if i < 0 then -i else i)) H) (tCons ta tNil)) δ k := w_c1 (h.mono fun d h => by
  cases d with
  | int i => exact cd_i1 h
  | _ => exact (show False from h).elim)
theorem w_max2 (h : wE Γ ta δ fun d => wE Γ tb δ fun e => MW.max2W d e k) : wE Γ (tCB (fun xs H Q => ∃ i j, xs = [.int i, .int j] ∧ Q (.int (if j > i then j else i)) H) (tCons ta (tCons tb tNil))) δ k := w_c2 (h.mono fun d h => h.mono fun e h => by
  cases d with
  | int i => cases e with
    | int j => exact cd_i2 h
    | _ => exact (show False from h).elim
  | _ => exact (show False from h).elim)
theorem w_min2 (h : wE Γ ta δ fun d => wE Γ tb δ fun e => MW.min2W d e k) : wE Γ (tCB (fun xs H Q => ∃ i j, xs = [.int i, .int j] ∧ Q (.int (if j < i then j else i)) H) (tCons ta (tCons tb tNil))) δ k := w_c2 (h.mono fun d h => h.mono fun e h => by
  cases d with
  | int i => cases e with
    | int j => exact cd_i2 h
    | _ => exact (show False from h).elim
  | _ => exact (show False from h).elim)
theorem w_allM (h : wL Γ ta δ fun ds => MW.allW ds k) : wE Γ (tCB (rAll Γ.K) (tCons ta tNil)) δ k := w_allL (h.mono fun ds h => by
  unfold MW.allW at h
  split at h
  · rename_i bs hb
    exact ⟨bs, MW.boolsOf_some hb, h⟩
  · exact h.elim)
theorem w_anyM (h : wL Γ ta δ fun ds => MW.anyW ds k) : wE Γ (tCB (rAny Γ.K) (tCons ta tNil)) δ k := w_anyL (h.mono fun ds h => by
  unfold MW.anyW at h
  split at h
  · rename_i bs hb
    exact ⟨bs, MW.boolsOf_some hb, h⟩
  · exact h.elim)
def reprW (d : PyData) (k : Kt) : Prop := (match d with | .list _ => True | .tuple _ => True | _ => False) ∧ d.showable = true ∧ d.depth ≤ 60 ∧ d.shown.length ≤ MW.most ∧ k (.str d.shown)
theorem w_repr (h : wR Γ ta δ fun d => reprW d k) : wE Γ (tCB (rRepr Γ.K) (tCons ta tNil)) δ k := fun ω σ H S Q q => h ω σ H S _ fun v H2 d hd e a => by
  have a := a H2 .refl
  obtain ⟨h0, h1, h2, h3, h4⟩ := hd
  cases a with
  | lst hs ha => exact ⟨_, _, rfl, .lst hs ha, h1, h2, sizeOk h3, q _ H2 _ h4 e (.str _)⟩
  | tup hs ha => exact ⟨_, _, rfl, .tup hs ha, h1, h2, sizeOk h3, q _ H2 _ h4 e (.str _)⟩
  | _ => exact h0.elim
/-! ### tests -/
theorem w_bT (h : wE Γ te δ fun d => MW.bW d kb) : wT Γ (tTest te) δ kb := w_test (h.mono fun d h => by
  cases d with
  | bool b => exact ⟨b, rfl, h⟩
  | _ => exact (show False from h).elim)
theorem w_bB (h : wE Γ te δ fun d => MW.bW d kb) : wT Γ (tB te) δ kb := w_tb (h.mono fun d h => by
  cases d with
  | bool b => exact ⟨b, rfl, h⟩
  | _ => exact (show False from h).elim)
theorem w_yes (h : kb true) : wT Γ tYes δ kb := fun ω σ H S Q q => q true H h .refl
theorem w_andVM (h : wE Γ ta δ fun d => MW.bW d fun b => if b = true then wE Γ tb δ k else k (.bool false)) : wE Γ (tAndV ta tb) δ k := w_andV (h.mono fun d h => by
  cases d with
  | bool b => exact ⟨b, rfl, h⟩
  | _ => exact (show False from h).elim)
theorem w_orVM (h : wE Γ ta δ fun d => MW.bW d fun b => if b = true then k (.bool true) else wE Γ tb δ k) : wE Γ (tOrV ta tb) δ k := w_orV (h.mono fun d h => by
  cases d with
  | bool b => exact ⟨b, rfl, h⟩
  | _ => exact (show False from h).elim)
theorem bWM {d : PyData} {k k' : Bool → Prop} (h : MW.bW d k) (hk : ∀ b, k b → k' b) : MW.bW d k' := by
  cases d with
  | bool b => exact hk b h
  | _ => exact h
/-- a op b op' c -/
theorem w_chain {r r' : R2} {tc : TE} (h : wE Γ ta δ fun d => wE Γ tb δ fun e => RD2 Γ r d e fun z => MW.bW z fun b => if b = true then wE Γ tc δ fun f => RD2 Γ r' e f k else k (.bool false)) : wE Γ (tChain r r' ta tb tc) δ k := fun ω σ H S Q q =>
  h ω σ H S _ fun x H1 d hb e1 a1 => hb ω σ H1 (S.ext e1) _ fun y H2 e hr e2 a2 => by
    have S2 := (S.ext e1).ext e2
    refine hr ω.A ω.W H2 x y _ S.wa ((e2.hid S.wa).dp a1) a2 S2.trn fun v H3 z kz e3 a3 => ?_
    cases a3 with
    | bl b =>
      refine ⟨b, rfl, ?_⟩
      have S3 := S2.ext e3
      have e13 := (e1.trans e2).trans e3
      cases b with
      | true => exact (show wE Γ tc δ _ from kz) ω σ H3 S3 _ fun u H4 f hf e4 a4 => hf ω.A ω.W H4 y u Q S.wa (((e3.trans e4).hid S.wa).dp a2) a4 (S3.ext e4).trn fun v H5 d kd e5 a5 => q v H5 d kd ((e13.trans e4).trans e5) a5
      | false => exact q _ H3 _ kz e13 (.bl false)
    | _ => exact (show False from kz).elim
theorem rd_le {d e : PyData} (h : MW.leW d e k) : RD2 Γ (rI0 fun i j => .bl (decide (i ≤ j))) d e k := by
  cases d with
  | int i => cases e with
    | int j => exact rd_b0 h
    | _ => exact (show False from h).elim
  | _ => exact (show False from h).elim
theorem rd_lt {d e : PyData} (h : MW.ltW d e k) : RD2 Γ (rLtM Γ.K) d e k := by
  cases d with
  | int i => cases e with
    | int j => exact rd_or1 (rd_b0 h)
    | _ => exact (show False from h).elim
  | tuple i => cases e with
    | tuple j => exact rd_or2 (rd_ltT h)
    | _ => exact (show False from h).elim
  | _ => exact (show False from h).elim
/-! ### what is walked -/
theorem i_seq (h : wE Γ te δ fun d => MW.seqW d kl) : wI Γ (iSeq Γ.K te) δ kl := i_seqE (h.mono fun d h => seq_of h)
theorem is_seqM (h : wE Γ te δ fun d => MW.seqW d kl) : wIs Γ (iSeq Γ.K te) δ kl := is_seq (h.mono fun d h => seq_of h)
theorem rng1_of {d : PyData} {kk : List PyData → Prop} (h : MW.rng1W d kk) : ∃ j : Int, d = .int j ∧ -(2 ^ 62) ≤ j ∧ j < 2 ^ 62 ∧ kk (rangeD 0 j.toNat) := by
  cases d with
  | int j => exact ⟨j, rfl, h.1.1, h.1.2, h.2⟩
  | _ => exact (show False from h).elim
theorem rng2_of {d e : PyData} {kk : List PyData → Prop} (h : MW.rng2W d e kk) : ∃ i j : Int, d = .int i ∧ e = .int j ∧ (-(2 ^ 62) ≤ i ∧ i < 2 ^ 62 ∧ -(2 ^ 62) ≤ j ∧ j < 2 ^ 62) ∧ kk (rangeD i (j - i).toNat) := by
  cases d with
  | int i =>
    cases e with
    | int j => exact ⟨i, j, rfl, rfl, h.1, h.2⟩
    | _ => exact (show False from h).elim
  | _ => exact (show False from h).elim
theorem i_r1 (h : wE Γ te δ fun d => MW.rng1W d kl) : wI Γ (iRng1 (tCons te tNil)) δ kl := i_rng1 (w_cons (h.mono fun d h => w_nil (by
  obtain ⟨j, rfl, h1, h2, h3⟩ := rng1_of h
  exact ⟨j, rfl, h1, h2, h3⟩)))
theorem is_r1 (h : wE Γ te δ fun d => MW.rng1W d kl) : wIs Γ (iRng1 (tCons te tNil)) δ kl := is_rng1 (w_cons (h.mono fun d h => w_nil (by
  obtain ⟨j, rfl, h1, h2, h3⟩ := rng1_of h
  exact ⟨j, rfl, h1, h2, h3⟩)))
theorem i_r2 (h : wE Γ ta δ fun d => wE Γ tb δ fun e => MW.rng2W d e kl) : wI Γ (iRng2 (tCons ta (tCons tb tNil))) δ kl := i_rng2 (w_cons (h.mono fun d h => w_cons (h.mono fun e h => w_nil (by
  obtain ⟨i, j, rfl, rfl, h1, h2⟩ := rng2_of h
  exact ⟨i, j, rfl, h1, h2⟩))))
theorem is_r2 (h : wE Γ ta δ fun d => wE Γ tb δ fun e => MW.rng2W d e kl) : wIs Γ (iRng2 (tCons ta (tCons tb tNil))) δ kl := is_rng2 (w_cons (h.mono fun d h => w_cons (h.mono fun e h => w_nil (by
  obtain ⟨i, j, rfl, rfl, h1, h2⟩ := rng2_of h
  exact ⟨i, j, rfl, h1, h2⟩))))
theorem wI.mono {wi : TI} {k k' : List PyData → Prop} (h : wI Γ wi δ k) (hk : ∀ d, k d → k' d) : wI Γ wi δ k' := fun ω σ H S R q => h ω σ H S R fun J H2 ds P kd => q J H2 ds P (hk ds kd)
theorem wIs.mono {wi : TI} {k k' : List PyData → Prop} (h : wIs Γ wi δ k) (hk : ∀ d, k d → k' d) : wIs Γ wi δ k' := fun ω σ H S R q => h ω σ H S R fun J H2 ds P kd => q J H2 ds P (hk ds kd)
theorem drop_at {α : Type} {l : List α} {i : Nat} {x : α} (h : l[i]? = some x) : l.drop i = x :: l.drop (i + 1) := by
  obtain ⟨hi, e⟩ := List.getElem?_eq_some_iff.mp h
  rw [← e]
  exact List.drop_eq_getElem_cons hi
theorem wG.mono {g : TG} {d : PyData} {δ : Sl} {k k' : Sl → Prop} (h : wG Γ g d δ k) (hk : ∀ δ', k δ' → k' δ') : wG Γ g d δ k' := fun ω σ H v S a Q q => h ω σ H v S a Q fun σ' δ' kd => q σ' δ' (hk δ' kd)
/-- [e for .. in .. if ..] -/
theorem n_lcM {wi : TI} {g : TG} {tt : TT} {te : TE} {vs : List Nat} {body : PyData → Kt → Prop → Prop} (hg : GOwn g vs) (h : wI Γ wi δ fun ds => MW.lcW body kl ds [])
    (hb : ∀ d e s, body d e s → wG Γ g d (wipeD δ vs) fun δ2 => wT Γ tt δ2 fun b => if b = true then wE Γ te δ2 e else s) : wN Γ (tLc wi g tt te vs) δ kl :=
  n_lc hg (h.mono fun ds h => ⟨fun i acc => MW.lcW body kl (ds.drop i) acc, h, fun acc h => by
    have h : MW.lcW body kl (ds.drop ds.length) acc := h
    rw [List.drop_length] at h
    exact h, fun i d acc hd h => by
    have h : MW.lcW body kl (ds.drop i) acc := h
    rw [drop_at hd] at h
    exact hb d _ _ h⟩)
/-- any (sv true), all (sv false) -/
theorem w_gxM {P : Addr} {sv : Bool} {wi : TI} {g : TG} {tt : TT} {te : TE} {vs : List Nat} {body : PyData → Kt → Prop → Prop} (hP : P ∈ Γ.cs) (hg : GOwn g vs) (h : wI Γ wi δ fun ds => MW.gxW sv body k ds)
    (hb : ∀ d e s, body d e s → wG Γ g d (wipeD δ vs) fun δ2 => wT Γ tt δ2 fun b => if b = true then wE Γ te δ2 e else s) : wE Γ (GX.tGx sv P wi g tt te vs) δ k :=
  w_gx hP hg (h.mono fun ds h => ⟨fun i => MW.gxW sv body k (ds.drop i), h, fun h => by
    have h : MW.gxW sv body k (ds.drop ds.length) := h
    rw [List.drop_length] at h
    exact h, fun i d hd h => by
    have h : MW.gxW sv body k (ds.drop i) := h
    rw [drop_at hd] at h
    refine (hb d _ _ h).mono fun δ2 h => h.mono fun b h => iteM h (fun h => h.mono fun e h => ?_) id
    cases e with
    | bool c => exact ⟨c, rfl, h⟩
    | _ => exact (show False from h).elim⟩)
end
end DW

set_option maxHeartbeats 2000001
/-! statements by the words of MW: ways that meet, loops, several names at once, calls, a def -/
namespace DW
open PySem PySem.Spec PyProof.Rows L2 MG MR
open GxR (TabG Tabbed)
open MW (Kt)
/-- less is told of the slots -/
def Forg : Sl → Sl → Prop
  | [], [] => True
  | a :: as, b :: bs => (b = none ∨ b = a) ∧ Forg as bs
  | _, _ => False
theorem Forg.len : ∀ {a b : Sl}, Forg a b → a.length = b.length
  | [], [], _ => rfl
  | _ :: as, _ :: bs, h => congrArg (· + 1) (Forg.len h.2)
theorem Forg.at : ∀ {a b : Sl} {i : Nat} {c : SC}, Forg a b → b[i]? = some (some c) → a[i]? = some (some c)
  | [], [], _, _, _, h => by simp at h
  | _ :: _, _ :: _, 0, _, ⟨z, _⟩, h => by
    simp at h
    rcases z with z | z
    · rw [h] at z; cases z
    · simp [← z, h]
  | _ :: as, _ :: bs, i + 1, c, ⟨_, t⟩, h => by simpa using Forg.at t (by simpa using h)
section
variable {Γ : Gam} {δ δ' : Sl}
theorem Si.remap {ω : Ow} {σ σ' : L2.St} {H : Hp} (S : Si Γ ω σ H δ) (f : Nat → Nat) (hl : σ'.length = δ'.length) (h : ∀ j c, δ'[j]? = some (some c) → δ[f j]? = some (some c) ∧ σ'[j]? = σ[f j]?)
    (inj : ∀ i j, i ≠ j → (∃ ds, δ'[i]? = some (some (SC.l ds))) → (∃ ds, δ'[j]? = some (some (SC.l ds))) → f i ≠ f j) : Si Γ ω σ' H δ' where
  wm := S.wm
  ma := S.ma
  tr := S.tr
  tabs := S.tabs
  wells := S.wells
  len := hl
  slot := fun i x hx => by
    obtain ⟨h1, h2⟩ := h i _ hx
    rw [h2]
    exact S.slot _ x h1
  own := fun i ds hx => by
    obtain ⟨h1, h2⟩ := h i _ hx
    rw [h2]
    exact S.own _ ds h1
  well := fun i hx => by
    obtain ⟨h1, h2⟩ := h i _ hx
    rw [h2]
    exact S.well _ h1
  inj := fun i j l ds es n h1 h2 q => by
    obtain ⟨g1, g2⟩ := h i _ h1
    obtain ⟨g3, g4⟩ := h j _ h2
    rw [g2] at q
    rw [g4]
    exact S.inj _ _ l ds es (inj i j n ⟨_, h1⟩ ⟨_, h2⟩) g1 g3 q
theorem Si.forget {ω : Ow} {σ : L2.St} {H : Hp} (S : Si Γ ω σ H δ) (f : Forg δ δ') : Si Γ ω σ H δ' :=
  S.remap id (S.len.trans f.len) (fun j c h => ⟨f.at h, rfl⟩) fun _ _ n _ _ => n
/-- the state at a meeting -/
def At {S : Type} (Δ : S → Sl) (k : S → Prop) : Sl → Prop := fun δ' => ∃ s, Forg δ' (Δ s) ∧ k s
variable {te ta tb : TE} {t u : TS} {tt : TT} {E : DEnd} {S : Type}
theorem s_forget (f : Forg δ δ') (h : wS Γ t δ' E) : wS Γ t δ E := fun ω σ H S D hD => h ω σ H (S.forget f) D hD
theorem s_at {Δ : S → Sl} {k : S → Prop} {rt rn bk ct} (h : At Δ k δ) : wS Γ tNext δ ⟨At Δ k, rt, rn, bk, ct⟩ := s_next h
/-- two ways meet again -/
theorem s_ifJ (Δ : S → Sl) {T U : (S → Prop) → Prop} {kJ : S → Prop} (h : wT Γ tt δ fun b => MW.iteV b T U kJ) (hT : ∀ k, T k → wS Γ t δ { E with nx := At Δ k }) (hU : ∀ k, U k → wS Γ u δ { E with nx := At Δ k }) (hk : ∀ s, kJ s → E.nx (Δ s)) : wS Γ (tIfS tt t u) δ E := fun ω σ H S D hD =>
  s_if (E := { E with nx := At Δ kJ }) (h.mono fun b h => iteM (p := T kJ) (q := U kJ) h (hT kJ) (hU kJ)) ω σ H S D ⟨fun ω' σ' H' δ' ⟨s, f, g⟩ S' st => hD.nx ω' σ' H' _ (hk s g) (S'.forget f) st, hD.bk, hD.ct, hD.rt, hD.rn⟩
/-- the ways of an expression -/
theorem w_ifV {ta tb : TE} {T U : Kt → Prop} {k : Kt} (h : wT Γ tt δ fun b => MW.iteV b T U k) (hT : ∀ k, T k → wE Γ ta δ k) (hU : ∀ k, U k → wE Γ tb δ k) : wE Γ (tIf tt ta tb) δ k := w_ifE (h.mono fun b h => iteM (p := T k) (q := U k) h (hT k) (hU k))
theorem n_ifV {ta tb : TE} {T U : (List PyData → Prop) → Prop} {k : List PyData → Prop} (h : wT Γ tt δ fun b => MW.iteV b T U k) (hT : ∀ k, T k → wN Γ ta δ k) (hU : ∀ k, U k → wN Γ tb δ k) : wN Γ (tIf tt ta tb) δ k := w_ifN (h.mono fun b h => iteM (p := T k) (q := U k) h (hT k) (hU k))
theorem w_andT {tu : TT} {U : (Bool → Prop) → Prop} {k : Bool → Prop} (h : wT Γ tt δ fun b => MW.andB b U k) (hU : ∀ k, U k → wT Γ tu δ k) : wT Γ (tAnd tt tu) δ k := w_and (h.mono fun b h => iteM (p := U k) (q := k false) h (hU k) id)
theorem w_orT {tu : TT} {U : (Bool → Prop) → Prop} {k : Bool → Prop} (h : wT Γ tt δ fun b => MW.orB b U k) (hU : ∀ k, U k → wT Γ tu δ k) : wT Γ (tOr tt tu) δ k := w_or (h.mono fun b h => iteM (p := k true) (q := U k) h id (hU k))
theorem w_andE {ta tb : TE} {U : Kt → Prop} {k : Kt} (h : wE Γ ta δ fun d => MW.bW d fun b => MW.andV b U k) (hU : ∀ k, U k → wE Γ tb δ k) : wE Γ (tAndV ta tb) δ k := w_andVM (h.mono fun d h => bWM h fun b h => iteM (p := U k) (q := k (.bool false)) h (hU k) id)
theorem w_orE {ta tb : TE} {U : Kt → Prop} {k : Kt} (h : wE Γ ta δ fun d => MW.bW d fun b => MW.orV b U k) (hU : ∀ k, U k → wE Γ tb δ k) : wE Γ (tOrV ta tb) δ k := w_orVM (h.mono fun d h => bWM h fun b h => iteM (p := k (.bool true)) (q := U k) h id (hU k))
/-- the kit named, for a block's own frame -/
theorem op_addK {X : Cx} {K : PySem.W.Frag} (h : X.K = K) : OpR X (binaryOp .Add) (rAddM K) := h ▸ op_addM
theorem op_ltK {X : Cx} {K : PySem.W.Frag} {k : Nat} (hr : Rm k X.A) (h : X.K = K) : OpR X (compareOp .Lt) (rLtM K) := h ▸ op_ltM hr
theorem op_eqK {X : Cx} {K : PySem.W.Frag} {k : Nat} (hr : Rm k X.A) (h : X.K = K) : OpR X (compareOp .Eq) (rEqP K) := h ▸ op_eqP hr
theorem op_neK {X : Cx} {K : PySem.W.Frag} {k : Nat} (hr : Rm k X.A) (h : X.K = K) : OpR X (compareOp .NotEq) (rNeP K) := h ▸ op_neP hr
theorem op_inK {X : Cx} {K : PySem.W.Frag} {k : Nat} (hr : Rm k X.A) (h : X.K = K) : OpR X (compareOp .In) (rInP K) := h ▸ op_inP hr
theorem op_ninK {X : Cx} {K : PySem.W.Frag} {k : Nat} (hr : Rm k X.A) (h : X.K = K) : OpR X (compareOp .NotIn) (rNinP K) := h ▸ op_ninP hr
theorem ix_K {X : Cx} {K : PySem.W.Frag} (h : X.K = K) : IxR X (rIx K) := h ▸ ix_seq
theorem sl_K {X : Cx} {K : PySem.W.Frag} (h : X.K = K) : SlR X (rSlM K) := h ▸ sl_M
theorem cl_len {X : Cx} {K : PySem.W.Frag} (h : X.K = K) : CallR X (.builtin "len") (fun xs H Q => ∃ p ys, xs = [.ref p] ∧ (SqL K H p ys ∨ SqT K H p ys) ∧ Q (.int ys.length) H) := h ▸ call_len_seq
theorem cl_tup {X : Cx} {K : PySem.W.Frag} (h : X.K = K) : CallR X (.type "tuple") (fun xs H Q => ∃ p ys, xs = [.ref p] ∧ ((SqL K H p ys ∧ ∀ l, H l = none → Q (.ref l) (upd H l (.tup ys))) ∨ (SqT K H p ys ∧ Q (.ref p) H))) := h ▸ call_tuple_of
theorem cl_list {X : Cx} {K : PySem.W.Frag} (h : X.K = K) : CallR X (.type "list") (fun xs H Q => ∃ p ys, xs = [.ref p] ∧ (SqL K H p ys ∨ SqT K H p ys) ∧ ∀ l, H l = none → Q (.ref l) (upd H l (.lst ys))) := h ▸ call_list_of
theorem cl_isi {X : Cx} {K : PySem.W.Frag} (h : X.K = K) : CallR X (.builtin "isinstance") (rIsi K) := h ▸ call_isi
theorem cl_all {X : Cx} {K : PySem.W.Frag} (hc : X.calm = true) (h : X.K = K) : CallR X (.builtin "all") (rAll K) := h ▸ cr_all hc
theorem cl_any {X : Cx} {K : PySem.W.Frag} (hc : X.calm = true) (h : X.K = K) : CallR X (.builtin "any") (rAny K) := h ▸ cr_any hc
theorem cl_repr {X : Cx} {K : PySem.W.Frag} {k : Nat} (hr : Rm k X.A) (h : X.K = K) : CallR X (.builtin "repr") (rRepr K) := h ▸ call_reprD hr
theorem pi_seqK {X : Cx} {K : PySem.W.Frag} {tg l : Expr} {tl : TE} (h : X.K = K) (hl : PE X l tl) : PI X tg l (iSeq K tl) := h ▸ pi_seq hl
theorem EndOk.meet {ω : Ow} {H : Hp} {D : Ends} (Δ : S → Sl) {kJ : S → Prop} (hD : EndOk Γ ω H E D) (hk : ∀ s, kJ s → E.nx (Δ s)) : EndOk Γ ω H { E with nx := At Δ kJ } D :=
  ⟨fun ω' σ' H' δ' ⟨s, f, g⟩ S' st => hD.nx ω' σ' H' _ (hk s g) (S'.forget f) st, hD.bk, hD.ct, hD.rt, hD.rn⟩
theorem s_meet (Δ : S → Sl) {kJ : S → Prop} (h : wS Γ t δ { E with nx := At Δ kJ }) (hk : ∀ s, kJ s → E.nx (Δ s)) : wS Γ t δ E := fun ω σ H S D hD => h ω σ H S D (hD.meet Δ hk)
/-- for -/
theorem s_forM {wi : TI} {g : TG} (Δ : S → Sl) {body : PyData → S → (S → Prop) → (S → Prop) → Prop} {k : S → Prop} (s0 : S) (hf : Forg δ (Δ s0)) (h : wIs Γ wi δ fun ds => MW.forW body k ds s0)
    (hb : ∀ d s nx, body d s nx k → wG Γ g d (Δ s) fun δ2 => wS Γ t δ2 { E with nx := At Δ nx, ct := At Δ nx, bk := At Δ k }) (hk : ∀ s, k s → E.nx (Δ s)) : wS Γ (tFor wi g t) δ E :=
  s_meet Δ (s_for (h.mono fun ds h => ⟨fun i δ' => ∃ s, Forg δ' (Δ s) ∧ MW.forW body k (ds.drop i) s, ⟨s0, hf, h⟩, fun i d δ' hd ⟨s, f, h⟩ => by
    rw [drop_at hd] at h
    have := hb d s _ h
    exact fun ω σ H v S a Q q => this ω σ H v (S.forget f) a Q q, fun δ' ⟨s, f, h⟩ => by
    rw [List.drop_length] at h
    exact ⟨s, f, h⟩⟩)) hk
/-- while -/
theorem s_whileM (Δ : S → Sl) {c : S → (Bool → Prop) → Prop} {body : S → (S → Prop) → (S → Prop) → Prop} {k : S → Prop} (s0 : S) (hf : Forg δ (Δ s0)) (h : MW.whileW c body k s0)
    (hc : ∀ s kb, c s kb → wT Γ tt (Δ s) kb) (hb : ∀ s nx, body s nx k → wS Γ t (Δ s) { E with nx := At Δ nx, ct := At Δ nx, bk := At Δ k }) (hk : ∀ s, k s → E.nx (Δ s)) : wS Γ (tWhile tt t) δ E := by
  obtain ⟨n, h⟩ := h
  refine s_meet Δ (s_while (fun m δ' => ∃ s, Forg δ' (Δ s) ∧ MW.whileN c body k m s) (m := n) ⟨s0, hf, h⟩ fun m δ' ⟨s, f, h⟩ => ?_) hk
  cases m with
  | zero => exact h.elim
  | succ m =>
    have h1 := hc s _ h
    have h2 : wT Γ tt δ' _ := fun ω σ H S Q q => h1 ω σ H (S.forget f) Q q
    refine h2.mono fun b h => iteM h (fun h => s_forget f ?_) fun h => ⟨s, f, h⟩
    refine (hb s _ h).mono ?_ (fun _ z => z) (fun _ z => z) (fun _ z => z) ?_
    · rintro δ2 ⟨s2, f2, h2⟩
      exact ⟨m, Nat.lt_succ_self m, s2, f2, h2⟩
    · rintro δ2 ⟨s2, f2, h2⟩
      exact ⟨m, Nat.lt_succ_self m, s2, f2, h2⟩
/-! ### several at once -/
def wM (Γ : Gam) (ta : TA) (δ : Sl) (k : List SC → Prop) : Prop := ∀ ω σ H, Si Γ ω σ H δ → ∀ Q : List V → Hp → Prop,
  (∀ vs H2 ω' cs, k cs → Ext Γ ω.W H H2 → Stp Γ ω H ω' H2 → ω'.W = ω.W → (∀ b, ω.M b → ω'.M b) → Si Γ ω' (vs.map some ++ σ) H2 (cs.map some ++ δ) → vs.length = cs.length → (∀ (i : Nat) ds l, cs[i]? = some (SC.l ds) → vs[i]? = some (V.ref l) → H l = none) → Q vs H2) → ta σ H Q
theorem m_nil {k : List SC → Prop} (h : k []) : wM Γ tNil δ k := fun ω σ H S Q q => q [] H ω [] h .refl .refl rfl (fun _ h => h) S rfl fun _ _ _ h => by simp at h
theorem Si.front {ω : Ow} {σ : L2.St} {H : Hp} {v : V} {x : PyData} (S : Si Γ ω σ H δ) (a : Dp Γ.K (hid ω.A H) v x) : Si Γ ω (some v :: σ) H (some (.d x) :: δ) where
  wm := S.wm
  ma := S.ma
  tr := S.tr
  tabs := S.tabs
  wells := S.wells
  len := congrArg (· + 1) S.len
  slot := fun i y h => by
    cases i with
    | zero => simp at h; subst h; exact ⟨v, rfl, a⟩
    | succ i => simpa using S.slot i y (by simpa using h)
  own := fun i ds h => by
    cases i with
    | zero => simp at h
    | succ i => simpa using S.own i ds (by simpa using h)
  well := fun i h => by
    cases i with
    | zero => simp at h
    | succ i => simpa using S.well i (by simpa using h)
  inj := fun i j l ds es n h1 h2 q => by
    cases i with
    | zero => simp at h1
    | succ i =>
      cases j with
      | zero => simp at h2
      | succ j =>
        simp only [List.getElem?_cons_succ] at h1 h2 q ⊢
        exact S.inj i j l ds es (by omega) h1 h2 q
theorem Si.frontL {ω : Ow} {σ : L2.St} {H : Hp} {p : Addr} {us : List V} {x : List PyData} (S : Si Γ ω σ H δ) (hm : ω.M p) (hw : ¬ ω.W p) (hp : H p = some (.lst us)) (a : DpAll Γ.K (hid ω.A H) us x)
    (nw : ∀ (i : Nat) ds, δ[i]? = some (some (SC.l ds)) → σ[i]? ≠ some (some (V.ref p))) : Si Γ ω (some (.ref p) :: σ) H (some (.l x) :: δ) where
  wm := S.wm
  ma := S.ma
  tr := S.tr
  tabs := S.tabs
  wells := S.wells
  len := congrArg (· + 1) S.len
  slot := fun i y h => by
    cases i with
    | zero => simp at h
    | succ i => simpa using S.slot i y (by simpa using h)
  own := fun i ds h => by
    cases i with
    | zero => simp at h; subst h; exact ⟨p, us, rfl, hm, hw, hp, a⟩
    | succ i => simpa using S.own i ds (by simpa using h)
  well := fun i h => by
    cases i with
    | zero => simp at h
    | succ i => simpa using S.well i (by simpa using h)
  inj := fun i j l ds es n h1 h2 q => by
    cases i with
    | zero =>
      cases j with
      | zero => exact absurd rfl n
      | succ j =>
        simp at q
        subst q
        simp only [List.getElem?_cons_succ] at h2 ⊢
        exact nw j es h2
    | succ i =>
      cases j with
      | zero =>
        simp only [List.getElem?_cons_succ] at h1 q
        intro z
        simp at z
        subst z
        exact nw i ds h1 q
      | succ j =>
        simp only [List.getElem?_cons_succ] at h1 h2 q ⊢
        exact S.inj i j l ds es (by omega) h1 h2 q
theorem m_d {tr : TA} {k : List SC → Prop} (h : wE Γ ta δ fun d => wM Γ tr δ fun cs => k (.d d :: cs)) : wM Γ (tCons ta tr) δ k := fun ω σ H S Q q =>
  h ω σ H S _ fun v H1 d h1 e1 a1 => h1 ω σ H1 (S.ext e1) _ fun vs H2 ω' cs hk e2 s2 ew em S2 hl fr =>
    q (v :: vs) H2 ω' (.d d :: cs) hk (e1.trans e2) ((e1.stp S).trans S.tr S.ma s2) ew em (Si.front S2 ((s2.hid S.ma).dp a1)) (congrArg (· + 1) hl) fun i ds l g1 g2 => by
      cases i with
      | zero => simp at g1
      | succ i => exact S.back e1 (fr i ds l (by simpa using g1) (by simpa using g2))
theorem m_n {tr : TA} {k : List SC → Prop} (h : wN Γ ta δ fun d => wM Γ tr δ fun cs => k (.l d :: cs)) : wM Γ (tCons ta tr) δ k := fun ω σ H S Q q =>
  h ω σ H S _ fun p us H1 d h1 e1 hp g1 a1 => by
    have S1 : Si Γ (ω.add p) σ H1 δ := S.hide e1 hp g1 (fun _ z => nomatch z)
    have s1 : Stp Γ ω H (ω.add p) H1 := stp_add S e1 hp
    refine h1 (ω.add p) σ H1 S1 _ fun vs H2 ω' cs hk e2 s2 ew em S2 hl fr => ?_
    have pM : ω'.M p := em p (.inr rfl)
    have pW : ¬ ω'.W p := fun z => S.ntW hp (by rw [ew] at z; exact z)
    have g2 : H2 p = some (.lst us) := e2.keep p _ g1 (fun _ z => nomatch z) (S.ntW hp)
    refine q (.ref p :: vs) H2 ω' (.l d :: cs) hk (e1.trans e2) (s1.trans S.tr S.ma s2) ew (fun b hb => em b (.inl hb)) (Si.frontL S2 pM pW g2 ((s2.hid S1.ma).dpAll a1) fun i ds z1 z2 => ?_) (congrArg (· + 1) hl) fun i ds l z1 z2 => ?_
    · have z1 : (cs.map some ++ δ)[i]? = some (some (SC.l ds)) := z1
      have z2 : (vs.map some ++ σ)[i]? = some (some (V.ref p)) := z2
      rw [List.getElem?_append] at z1 z2
      have lc : (cs.map some).length = (vs.map some).length := by rw [List.length_map, List.length_map, hl]
      rw [lc] at z1
      split at z1
      · rename_i hi
        rw [if_pos hi] at z2
        simp only [List.getElem?_map, Option.map_eq_some_iff] at z1 z2
        obtain ⟨c, z1, zc⟩ := z1
        obtain ⟨v, z2, zv⟩ := z2
        cases zc
        cases zv
        have := fr i ds p z1 z2
        rw [g1] at this
        cases this
      · rename_i hi
        rw [if_neg hi] at z2
        obtain ⟨l, ws, y1, y2, y3, y4, _⟩ := S.own _ ds z1
        rw [z2] at y1
        cases y1
        rw [hp] at y4
        cases y4
    · cases i with
      | zero =>
        simp at z2
        subst z2
        exact hp
      | succ i => exact S.back e1 (fr i ds l (by simpa using z1) (by simpa using z2))
/-- the values set, one name after the other -/
theorem Si.moved {ω : Ow} {σ : L2.St} {H : Hp} {v : V} {c : SC} {vs : List V} {cs : List SC} {i : Nat} (S : Si Γ ω ((v :: vs).map some ++ σ) H ((c :: cs).map some ++ δ)) (hl : vs.length = cs.length) : Si Γ ω (vs.map some ++ σ.set i (some v)) H (cs.map some ++ δ.set i (some c)) := by
  have ln := S.len
  simp only [List.map_cons, List.cons_append, List.length_cons, List.length_append, List.length_map] at ln
  have key : ∀ (j : Nat) (c' : SC), (cs.map some ++ δ.set i (some c))[j]? = some (some c') → ((c :: cs).map some ++ δ)[if j = cs.length + i then 0 else j + 1]? = some (some c') ∧ (vs.map some ++ σ.set i (some v))[j]? = ((v :: vs).map some ++ σ)[if j = cs.length + i then 0 else j + 1]? := fun j c' h => by
    rw [List.getElem?_append] at h
    simp only [List.length_map] at h
    by_cases hj : j < cs.length
    · rw [if_pos hj] at h
      have ne : ¬ j = cs.length + i := by omega
      rw [if_neg ne]
      simp only [List.map_cons, List.cons_append, List.getElem?_cons_succ]
      rw [List.getElem?_append_left (by simpa using hj), List.getElem?_append_left (by simpa [hl] using hj), List.getElem?_append_left (by simpa [hl] using hj)]
      exact ⟨h, rfl⟩
    · rw [if_neg hj] at h
      rcases sGet h with ⟨e1, e2, e3⟩ | ⟨e1, e2⟩
      · have ee : j = cs.length + i := by omega
        rw [if_pos ee]
        cases e2
        refine ⟨rfl, ?_⟩
        rw [List.getElem?_append_right (by simp [hl]; omega)]
        have e4 : j - (vs.map some).length = i := by simp [hl]; omega
        rw [e4, List.getElem?_set_self (by omega)]
        rfl
      · have ne : ¬ j = cs.length + i := by omega
        rw [if_neg ne]
        simp only [List.map_cons, List.cons_append, List.getElem?_cons_succ]
        rw [List.getElem?_append_right (by simpa using Nat.le_of_not_lt hj), List.getElem?_append_right (by simpa [hl] using Nat.le_of_not_lt hj), List.getElem?_append_right (by simpa [hl] using Nat.le_of_not_lt hj)]
        simp only [List.length_map]
        have e4 : j - vs.length ≠ i := by omega
        rw [List.getElem?_set_ne (by omega)]
        exact ⟨e2, rfl⟩
  refine S.remap (fun j => if j = cs.length + i then 0 else j + 1) ?_ key fun a b n _ _ => ?_
  · simp only [List.length_append, List.length_map, List.length_set]; omega
  · show (if a = cs.length + i then 0 else a + 1) ≠ (if b = cs.length + i then 0 else b + 1)
    split <;> split <;> omega
def wGm (Γ : Gam) (gs : TGs) (cs : List SC) (δ : Sl) (k : Sl → Prop) : Prop := ∀ ω σ H vs, vs.length = cs.length → Si Γ ω (vs.map some ++ σ) H (cs.map some ++ δ) → ∀ Q : L2.St → Hp → Prop, (∀ σ' δ', k δ' → Si Γ ω σ' H δ' → Q σ' H) → gs vs σ H Q
theorem gm_nl {k : Sl → Prop} (h : k δ) : wGm Γ gNil [] δ k := fun ω σ H vs hl S Q q => by
  obtain rfl : vs = [] := List.eq_nil_of_length_eq_zero hl
  exact ⟨rfl, q _ _ h S⟩
theorem gm_cs {i : Nat} {gs : TGs} {c : SC} {cs : List SC} {k : Sl → Prop} (h : wGm Γ gs cs (δ.set i (some c)) k) : wGm Γ (gCons (gName i) gs) (c :: cs) δ k := fun ω σ H vs hl S Q q => by
  cases vs with
  | nil => simp at hl
  | cons v vs =>
    have hl : vs.length = cs.length := by simpa using hl
    exact ⟨v, vs, rfl, h ω _ H vs hl (S.moved hl) Q q⟩
/-- a, b, .. = e, f, .. by way of the tuple -/
theorem s_parM {tr : TA} {gs : TGs} {n : Nat} (h : wM Γ tr δ fun cs => cs.length = n ∧ n ≤ MW.most ∧ wGm Γ gs cs δ E.nx) : wS Γ (tAsg (tTup tr) (gTup Γ.K n gs)) δ E := fun ω σ H S D hD =>
  h ω σ H S _ fun vs H2 ω' cs ⟨hn, hz, hg⟩ e st ew em S2 hl fr => by
    refine ⟨sizeOk (by rw [hl, hn]; exact hz), fun p hp => ⟨p, vs, rfl, .of upd_same, hl.trans hn, ?_⟩⟩
    have e3 : Ext Γ ω'.W H2 (upd H2 p (.tup vs)) := .new hp
    exact hg ω' σ _ vs hl (S2.ext e3) _ fun σ' δ' h' S' => hD.nx ω' σ' _ δ' h' S' (st.trans S.tr S.ma (e3.stp S2))
theorem s_par2 {tr : TA} {i j : Nat} (h : wM Γ tr δ fun cs => ∃ c d, cs = [c, d] ∧ E.nx ((δ.set i (some c)).set j (some d))) : wS Γ (tPar i j tr) δ E := fun ω σ H S D hD =>
  h ω σ H S _ fun vs H2 ω' cs ⟨c, d, hc, hn⟩ e st ew em S2 hl fr => by
    subst hc
    match vs, hl with
    | [v, w], _ => exact ⟨v, w, rfl, hD.nx ω' _ H2 _ hn ((S2.moved (i := i) rfl).moved (i := j) rfl) st⟩
theorem s_par3 {tr : TA} {i j l : Nat} (h : wM Γ tr δ fun cs => ∃ c d e, cs = [c, d, e] ∧ E.nx (((δ.set i (some c)).set j (some d)).set l (some e))) : wS Γ (tPar3 i j l tr) δ E := fun ω σ H S D hD =>
  h ω σ H S _ fun vs H2 ω' cs ⟨c, d, f, hc, hn⟩ e st ew em S2 hl fr => by
    subst hc
    match vs, hl with
    | [u, v, w], _ => exact ⟨u, v, w, rfl, hD.nx ω' _ H2 _ hn (((S2.moved (i := i) rfl).moved (i := j) rfl).moved (i := l) rfl) st⟩
/-! ### own lists; what follows, apart -/
theorem apM {l : List PyData} {x : PyData} {k k' : List PyData → Prop} (h : MW.apW l x k) (hk : ∀ m, k m → k' m) : MW.apW l x k' := ⟨h.1, hk _ h.2⟩
theorem exM {l m : List PyData} {k k' : List PyData → Prop} (h : MW.exW l m k) (hk : ∀ m, k m → k' m) : MW.exW l m k' := ⟨h.1, hk _ h.2⟩
theorem s_asgM {i : Nat} {k : Kt} (h : wE Γ te δ fun d => MW.letW d k) (hk : ∀ d, k d → E.nx (δ.set i (some (.d d)))) : wS Γ (tAsg te (gName i)) δ E := s_asg (h.mono hk)
theorem s_asgN {i : Nat} {k : List PyData → Prop} (h : wN Γ te δ fun d => MW.letW d k) (hk : ∀ d, k d → E.nx (δ.set i (some (.l d)))) : wS Γ (tAsg te (gName i)) δ E := s_asgL (h.mono hk)
def wellW (WI : List Int → Prop) (l : List PyData) (p : Prop) : Prop := ∃ xs : List Int, l = xs.map .int ∧ WI xs ∧ p
theorem s_asgWM {i : Nat} {p : Prop} (h : wN Γ te δ fun l => wellW Γ.WI l p) (hk : p → E.nx (δ.set i (some .w))) : wS Γ (tAsg te (gName i)) δ E := s_asgW (h.mono fun l ⟨xs, e, w, q⟩ => ⟨xs, e, w, hk q⟩)
theorem s_dropM {k : Kt} (h : wE Γ te δ k) (hk : ∀ d, k d → E.nx δ) : wS Γ (tDrop te) δ E := s_drop (h.mono hk)
theorem s_apM {i : Nat} {ds : List PyData} {k : List PyData → Prop} (hi : δ[i]? = some (some (SC.l ds))) (h : wE Γ te δ fun d => MW.apW ds d k) (hk : ∀ es, k es → E.nx (δ.set i (some (.l es)))) : wS Γ (tDrop (tBM Γ.K "list" rAppend (tVar i) (tCons te tNil))) δ E := s_append hi (h.mono fun d h => apM h hk)
theorem s_exM {i : Nat} {ds : List PyData} {k : List PyData → Prop} (hi : δ[i]? = some (some (SC.l ds))) (h : wN Γ te δ fun es => MW.exW ds es k) (hk : ∀ es, k es → E.nx (δ.set i (some (.l es)))) : wS Γ (tDrop (tBM Γ.K "list" rExtend (tVar i) (tCons te tNil))) δ E := s_extend hi (h.mono fun d h => exM h hk)
theorem s_stM {i : Nat} {ds : List PyData} {ti : TE} {k : List PyData → Prop} (hi : δ[i]? = some (some (SC.l ds))) (h : wE Γ te δ fun d => wE Γ ti δ fun z => MW.stW ds z d k) (hk : ∀ es, k es → E.nx (δ.set i (some (.l es)))) : wS Γ (tAsg te (gSub (tVar i) ti rSetL)) δ E := s_setL hi (h.mono fun d h => h.mono fun z h => by
  cases z with
  | int n =>
    have h : (match ixN ds.length n with | some j => k (ds.set j d) | none => False) := h
    split at h
    · rename_i j hj
      exact ⟨n, j, rfl, hj, hk _ h⟩
    · exact h.elim
  | _ => exact (show False from h).elim)
/-- x += e of ints -/
theorem s_auM {i : Nat} {f : Int → Int → Int} {x : PyData} {k : Kt} (hi : δ[i]? = some (some (SC.d x))) (h : wE Γ te δ fun d => MW.iopW f x d k) (hk : ∀ d, k d → E.nx (δ.set i (some (.d d)))) : wS Γ (tAug i te (ipI f)) δ E := fun ω σ H S D hD => by
  obtain ⟨v, h1, h2⟩ := S.slot i _ hi
  refine ⟨_, h1, h ω σ H S _ fun w H2 d hd e a2 => ?_⟩
  cases h2 with
  | int m =>
    cases a2 with
    | int n => exact ⟨m, n, rfl, rfl, hD.nx ω _ H2 _ (hk _ hd) ((S.ext e).setD (.int _)) (e.stp S)⟩
    | _ => exact (show False from hd).elim
  | _ => exact (show False from hd).elim
theorem RD2.mono {r : R2} {d e : PyData} {k k' : Kt} (h : RD2 Γ r d e k) (hk : ∀ z, k z → k' z) : RD2 Γ r d e k' := fun A W H x y Q hw a b ht q => h A W H x y Q hw a b ht fun v H2 z kz => q v H2 z (hk z kz)
theorem rd_leM {d e : PyData} {k k' : Kt} (h : MW.leW d e k) (hk : ∀ z, k z → k' z) : RD2 Γ (rI0 fun i j => .bl (decide (i ≤ j))) d e k' := (rd_le h).mono hk
theorem rd_ltM {d e : PyData} {k k' : Kt} (h : MW.ltW d e k) (hk : ∀ z, k z → k' z) : RD2 Γ (rLtM Γ.K) d e k' := (rd_lt h).mono hk
theorem iWM {d : PyData} {k k' : Int → Prop} (h : MW.iW d k) (hk : ∀ i, k i → k' i) : MW.iW d k' := by
  cases d with
  | int i => exact hk i h
  | _ => exact h
theorem s_un2 {i j : Nat} {k : PyData → PyData → Prop} (h : wE Γ te δ fun d => MW.un2W d k) (hk : ∀ a b, k a b → E.nx ((δ.set i (some (.d a))).set j (some (.d b)))) : wS Γ (tAsg te (gTup Γ.K 2 (gCons (gName i) (gCons (gName j) gNil)))) δ E := s_asgG (h.mono fun d h => by
  match d, h with
  | .tuple [a, b], h => exact g_tup rfl (g_cons (g_name (g_cons (g_name (g_nil (hk a b h))))))
  | .tuple [], h => exact (show False from h).elim
  | .tuple [_], h => exact (show False from h).elim
  | .tuple (_ :: _ :: _ :: _), h => exact (show False from h).elim
  | .none, h => exact (show False from h).elim
  | .bool _, h => exact (show False from h).elim
  | .int _, h => exact (show False from h).elim
  | .str _, h => exact (show False from h).elim
  | .list _, h => exact (show False from h).elim
  | .dict _, h => exact (show False from h).elim)
theorem s_un3 {i j l : Nat} {k : PyData → PyData → PyData → Prop} (h : wE Γ te δ fun d => MW.un3W d k) (hk : ∀ a b c, k a b c → E.nx (((δ.set i (some (.d a))).set j (some (.d b))).set l (some (.d c)))) : wS Γ (tAsg te (gTup Γ.K 3 (gCons (gName i) (gCons (gName j) (gCons (gName l) gNil))))) δ E := s_asgG (h.mono fun d h => by
  match d, h with
  | .tuple [a, b, c], h => exact g_tup rfl (g_cons (g_name (g_cons (g_name (g_cons (g_name (g_nil (hk a b c h))))))))
  | .tuple [], h => exact (show False from h).elim
  | .tuple [_], h => exact (show False from h).elim
  | .tuple [_, _], h => exact (show False from h).elim
  | .tuple (_ :: _ :: _ :: _ :: _), h => exact (show False from h).elim
  | .none, h => exact (show False from h).elim
  | .bool _, h => exact (show False from h).elim
  | .int _, h => exact (show False from h).elim
  | .str _, h => exact (show False from h).elim
  | .list _, h => exact (show False from h).elim
  | .dict _, h => exact (show False from h).elim)
theorem wN.m {k k' : List PyData → Prop} (h : wN Γ te δ k) (hk : ∀ d, k d → k' d) : wN Γ te δ k' := h.mono hk
end
/-- .. of a list written out -/
theorem lenOk {α : Type} {l : List α} (h : Nat.ble l.length 16777216 = true := by rfl) : l.length ≤ 16777216 := Nat.le_of_ble_eq_true h
theorem yesIf {p q : Prop} (h : p) : if true = true then p else q := h
end DW

set_option maxHeartbeats 2000001
/-! a def by what it does to data: promise, call, entry; the law's end -/
namespace DW
open PySem PySem.Spec PyProof.Rows L2 MG MR
open GxR (TabG Tabbed)
open MW (Kt)
/-- arguments in, a datum out, by continuation -/
def cpsSp (Γ : Gam) (n : Nat) (m : List PyData → Kt → Prop) : Sp := fun vs H Q _ => vs.length = n ∧ ∃ (A : Addr → Prop) (ds : List PyData) (k : Kt), Trk A H ∧ (∀ P ∈ Γ.cs, TabG H P) ∧ DpAll Γ.K (hid A H) vs ds ∧ m ds k ∧
  ∀ v H' d, k d → Ext Γ (fun _ => False) H H' → Dp Γ.K (hid A H') v d → Q v H'
/-- a new list out -/
def nwSp (Γ : Gam) (n : Nat) (m : List PyData → (List PyData → Prop) → Prop) : Sp := fun vs H Q _ => vs.length = n ∧ ∃ (A : Addr → Prop) (ds : List PyData) (k : List PyData → Prop), Trk A H ∧ (∀ P ∈ Γ.cs, TabG H P) ∧ DpAll Γ.K (hid A H) vs ds ∧ m ds k ∧
  ∀ p us H' es, k es → Ext Γ (fun _ => False) H H' → H p = none → H' p = some (.lst us) → DpAll Γ.K (hid (fun b => A b ∨ b = p) H') us es → Q (.ref p) H'
/-- a well first -/
def wlSp (Γ : Gam) (n : Nat) (m : List PyData → Kt → Prop) : Sp := fun vs H Q _ => ∃ (a : Addr) (us : List V), vs = .ref a :: us ∧ us.length = n ∧ ∃ (A : Addr → Prop) (ds : List PyData) (k : Kt), A a ∧ WellAt Γ.WI H a ∧ Trk A H ∧ (∀ P ∈ Γ.cs, TabG H P) ∧ DpAll Γ.K (hid A H) us ds ∧ m ds k ∧
  ∀ v H' d, k d → Ext Γ (fun b => b = a) H H' → Dp Γ.K (hid A H') v d → Q v H'
section
variable {Γ : Gam} {δ : Sl} {E : XK} {n : Nat} {ta tk : TA} {k : Kt}
theorem w_cc {m : List PyData → Kt → Prop} (h : wA Γ ta δ fun ds => ds.length = n ∧ m ds k) : wE Γ (tCall (cpsSp Γ n m) [] E ta) δ k := fun ω σ H S Q q =>
  h ω σ H S _ fun xs H1 ds ⟨hn, hm⟩ e1 a1 => by
    rw [List.append_nil]
    exact ⟨(dpLen a1).trans hn, ω.A, ds, k, (S.ext e1).tr, (S.ext e1).tabs, a1, hm, fun v H2 d hd e2 a2 => q v H2 d hd (e1.trans e2.of0) a2⟩
theorem w_ccN {m : List PyData → (List PyData → Prop) → Prop} {k : List PyData → Prop} (h : wA Γ ta δ fun ds => ds.length = n ∧ m ds k) : wN Γ (tCall (nwSp Γ n m) [] E ta) δ k := fun ω σ H S Q q =>
  h ω σ H S _ fun xs H1 ds ⟨hn, hm⟩ e1 a1 => by
    rw [List.append_nil]
    exact ⟨(dpLen a1).trans hn, ω.A, ds, k, (S.ext e1).tr, (S.ext e1).tabs, a1, hm, fun p us H2 d hd e2 hf h2 a2 => q p us H2 d hd (e1.trans e2.of0) (S.back e1 hf) h2 a2⟩
theorem w_ccW {i : Nat} {m : List PyData → Kt → Prop} (hi : δ[i]? = some (some SC.w)) (h : wA Γ ta δ fun ds => ds.length = n ∧ m ds k) : wE Γ (tCall (wlSp Γ n m) [] E (tCons (tVar i) ta)) δ k := fun ω σ H S Q q => by
  obtain ⟨a, h1, h2⟩ := S.well i hi
  refine ⟨.ref a, h1, h ω σ H S _ fun xs H1 ds ⟨hn, hm⟩ e1 a1 => ?_⟩
  have S1 := S.ext e1
  show wlSp Γ n m ((V.ref a :: xs) ++ []) H1 Q E
  rw [List.append_nil]
  exact ⟨a, xs, rfl, (dpLen a1).trans hn, ω.A, ds, k, S.wa a h2, S1.wells a h2, S1.tr, S1.tabs, a1, hm, fun v H2 d hd e2 a2 => q v H2 d hd (e1.trans (Ext.one S1 h2 e2)) a2⟩
/-- the parameters' order: the places ix of p written arguments and q keywords' -/
def pick {α : Type} (p q : Nat) (ix : List Nat) (us ws : List α) : List α := if us.length = p ∧ ws.length = q then ix.filterMap fun i => (us ++ ws)[i]? else []
theorem dpPick {K : PySem.W.Frag} {G : Hp} {vs us : List V} {ds es : List PyData} (p q : Nat) (ix : List Nat) (a : DpAll K G vs ds) (b : DpAll K G us es) : DpAll K G (pick p q ix vs us) (pick p q ix ds es) := by
  have ab := dpApp a b
  unfold pick
  rw [dpLen a, dpLen b]
  split
  · induction ix with
    | nil => exact .nil
    | cons i ix ih =>
      rw [List.filterMap_cons, List.filterMap_cons]
      cases h : (ds ++ es)[i]? with
      | some d =>
        obtain ⟨v, h1, h2⟩ := dpGet ab h
        rw [h1]
        exact .cons h2 ih
      | none =>
        have : (vs ++ us)[i]? = none := by
          rw [List.getElem?_eq_none_iff] at h ⊢
          rw [dpLen ab]
          exact h
        rw [this]
        exact ih
  · exact .nil
theorem valsPick {vs : List V} {us : List Value} {zs : List V} {ws : List Value} (p q : Nat) (ix : List Nat) (a : Vals vs us) (b : Vals zs ws) : Vals (pick p q ix vs zs) (pick p q ix us ws) := by
  have ab := a.append b
  unfold pick
  rw [a.length, b.length]
  split
  · induction ix with
    | nil => exact .nil
    | cons i ix ih =>
      rw [List.filterMap_cons, List.filterMap_cons]
      cases h : (vs ++ zs)[i]? with
      | some d =>
        obtain ⟨v, h1, h2⟩ := ab.get h
        rw [h1]
        exact .cons h2 ih
      | none =>
        have : (us ++ ws)[i]? = none := by
          rw [List.getElem?_eq_none_iff] at h ⊢
          rw [← ab.length]
          exact h
        rw [this]
        exact ih
  · exact .nil
theorem w_ccK {m : List PyData → Kt → Prop} {a b : Nat} {ix : List Nat} (h : wA Γ ta δ fun ds => wA Γ tk δ fun es => (pick a b ix ds es).length = n ∧ m (pick a b ix ds es) k) : wE Γ (tCallK (cpsSp Γ n m) (pick a b ix) E ta tk) δ k := fun ω σ H S Q q =>
  h ω σ H S _ fun xs H1 ds hh e1 a1 => hh ω σ H1 (S.ext e1) _ fun us H2 es ⟨hn, hm⟩ e2 a2 => by
    have S2 := (S.ext e1).ext e2
    have a3 := dpPick a b ix ((e2.hid S.wa).dpAll a1) a2
    exact ⟨(dpLen a3).trans hn, ω.A, _, k, S2.tr, S2.tabs, a3, hm, fun v H3 d hd e3 a4 => q v H3 d hd ((e1.trans e2).trans e3.of0) a4⟩
/-! ### a def is entered -/
def dStart (N : Nat) (ds : List PyData) : Sl := ds.map (fun d => some (.d d)) ++ List.replicate (N - ds.length) none
theorem dStart_at {N : Nat} {ds : List PyData} {i : Nat} {c : SC} (h : (dStart N ds)[i]? = some (some c)) : ∃ d, c = .d d ∧ ds[i]? = some d := by
  unfold dStart at h
  rw [List.getElem?_append] at h
  split at h
  · rw [List.getElem?_map] at h
    cases e : ds[i]? with
    | none => rw [e] at h; cases h
    | some d => rw [e] at h; cases h; exact ⟨d, rfl, rfl⟩
  · have := List.mem_of_getElem? h
    rw [List.mem_replicate] at this
    exact nomatch this.2
theorem start_at {N : List Str} {vs : List V} {i : Nat} {v : V} (h : vs[i]? = some v) : (L2.start N vs)[i]? = some (some v) := by
  unfold L2.start
  have := (List.getElem?_eq_some_iff.mp h).1
  rw [List.getElem?_append_left (by simpa using this), List.getElem?_map, h]
  rfl
theorem Si.go0 {A : Addr → Prop} {H : Hp} {vs : List V} {ds : List PyData} {N : List Str} (tr : Trk A H) (tb : ∀ P ∈ Γ.cs, TabG H P) (a : DpAll Γ.K (hid A H) vs ds) : Si Γ ⟨A, fun _ => False, fun _ => False⟩ (L2.start N vs) H (dStart N.length ds) where
  wm := fun _ z => z.elim
  ma := fun _ z => z.elim
  tr := tr
  tabs := tb
  wells := fun _ z => z.elim
  len := by unfold L2.start dStart; simp [dpLen a]
  slot := fun i x h => by
    obtain ⟨d, e1, e2⟩ := dStart_at h
    cases e1
    obtain ⟨v, h1, h2⟩ := dpGet a e2
    exact ⟨v, start_at h1, h2⟩
  own := fun i ds h => by
    obtain ⟨d, e1, e2⟩ := dStart_at h
    cases e1
  well := fun i h => by
    obtain ⟨d, e1, e2⟩ := dStart_at h
    cases e1
  inj := fun i j l ds es n h1 h2 => by
    obtain ⟨d, e1, e2⟩ := dStart_at h1
    cases e1
theorem Si.goW {A : Addr → Prop} {H : Hp} {vs : List V} {ds : List PyData} {N : List Str} {b : Addr} (hA : A b) (hw : WellAt Γ.WI H b) (tr : Trk A H) (tb : ∀ P ∈ Γ.cs, TabG H P) (a : DpAll Γ.K (hid A H) vs ds) (hl : vs.length + 1 ≤ N.length) :
    Si Γ ⟨A, fun c => c = b, fun c => c = b⟩ (L2.start N (.ref b :: vs)) H (some .w :: dStart (N.length - 1) ds) where
  wm := fun _ z => z
  ma := fun _ z => by rw [z]; exact hA
  tr := tr
  tabs := tb
  wells := fun c z => by rw [z]; exact hw
  len := by
    have := dpLen a
    unfold L2.start dStart
    simp only [List.length_append, List.length_map, List.length_replicate, List.length_cons]
    omega
  slot := fun i x h => by
    cases i with
    | zero => simp at h
    | succ i =>
      obtain ⟨d, e1, e2⟩ := dStart_at (by simpa using h)
      cases e1
      obtain ⟨v, h1, h2⟩ := dpGet a e2
      exact ⟨v, start_at (by simpa using h1), h2⟩
  own := fun i ds h => by
    cases i with
    | zero => simp at h
    | succ i =>
      obtain ⟨d, e1, e2⟩ := dStart_at (by simpa using h)
      cases e1
  well := fun i h => by
    cases i with
    | zero => exact ⟨b, start_at rfl, rfl⟩
    | succ i =>
      obtain ⟨d, e1, e2⟩ := dStart_at (by simpa using h)
      cases e1
  inj := fun i j l ds es n h1 h2 => by
    cases i with
    | zero => simp at h1
    | succ i =>
      obtain ⟨d, e1, e2⟩ := dStart_at (by simpa using h1)
      cases e1
/-- what a body that was entered so ends with -/
theorem end_c {A : Addr → Prop} {H : Hp} {Q : VK} {k : Kt} (tr : Trk A H) (q : ∀ v H' d, k d → Ext Γ (fun _ => False) H H' → Dp Γ.K (hid A H') v d → Q v H') :
    EndOk Γ ⟨A, fun _ => False, fun _ => False⟩ H ⟨fun _ => k .none, k, fun ds => k (.list ds), fun _ => False, fun _ => False⟩ { nx := fun _ H' => Q .non H', rt := Q } := by
  have ex : ∀ {ω' : Ow} {H' : Hp}, Stp Γ ⟨A, fun _ => False, fun _ => False⟩ H ω' H' → Ext Γ (fun _ => False) H H' := fun s => ⟨fun b o h n _ => s.keep b o h n fun z => z, s.tab, fun _ z => z.elim⟩
  have le : ∀ {ω' : Ow} {H' : Hp}, Stp Γ ⟨A, fun _ => False, fun _ => False⟩ H ω' H' → Le (hid ω'.A H') (hid A H') := fun s => hid_less fun b hb => s.avoid b hb (.inl fun z => z)
  refine ⟨fun ω' σ' H' δ' h S s => q _ H' _ h (ex s) .non, fun _ _ _ _ z => z.elim, fun _ _ _ _ z => z.elim, fun ω' v H' d h s a => q v H' d h (ex s) ((le s).dp a), fun ω' p us H' ds h s hp g a => ?_⟩
  have np : ¬ A p := fun z => by
    obtain ⟨o, h1, _⟩ := tr p z
    rcases hp with hp | hp
    · exact hp.1
    · rw [hp] at h1; cases h1
  exact q _ H' _ h (ex s) (.lst (.of (by rw [hid_no np]; exact g)) ((le s).dpAll (hid_1.dpAll a)))
theorem end_n {A : Addr → Prop} {H : Hp} {Q : VK} {k : List PyData → Prop} (tr : Trk A H) (q : ∀ p us H' es, k es → Ext Γ (fun _ => False) H H' → H p = none → H' p = some (.lst us) → DpAll Γ.K (hid (fun b => A b ∨ b = p) H') us es → Q (.ref p) H') :
    EndOk Γ ⟨A, fun _ => False, fun _ => False⟩ H ⟨fun _ => False, fun _ => False, k, fun _ => False, fun _ => False⟩ { nx := fun _ H' => Q .non H', rt := Q } := by
  refine ⟨fun _ _ _ _ z => z.elim, fun _ _ _ _ z => z.elim, fun _ _ _ _ z => z.elim, fun _ _ _ _ z => z.elim, fun ω' p us H' ds h s hp g a => ?_⟩
  have fp : H p = none := hp.elim (fun z => z.1.elim) id
  refine q p us H' ds h ⟨fun b o h n _ => s.keep b o h n fun z => z, s.tab, fun _ z => z.elim⟩ fp g ((hid_less (fun b hb => ?_) : Le (hid (fun b => ω'.A b ∨ b = p) H') (hid (fun b => A b ∨ b = p) H')).dpAll a)
  exact hb.imp (fun hb => s.avoid b hb (.inl fun z => z)) id
theorem end_w {A : Addr → Prop} {H : Hp} {Q : VK} {k : Kt} {c : Addr} (hA : A c) (tr : Trk A H) (q : ∀ v H' d, k d → Ext Γ (fun b => b = c) H H' → Dp Γ.K (hid A H') v d → Q v H') :
    EndOk Γ ⟨A, fun b => b = c, fun b => b = c⟩ H ⟨fun _ => k .none, k, fun ds => k (.list ds), fun _ => False, fun _ => False⟩ { nx := fun _ H' => Q .non H', rt := Q } := by
  have ex : ∀ {ω' : Ow} {H' : Hp}, Stp Γ ⟨A, fun b => b = c, fun b => b = c⟩ H ω' H' → Ext Γ (fun b => b = c) H H' := fun s => ⟨fun b o h n nb => s.keep b o h n nb, s.tab, fun b z hb => s.wellp b z hb⟩
  have le : ∀ {ω' : Ow} {H' : Hp}, Stp Γ ⟨A, fun b => b = c, fun b => b = c⟩ H ω' H' → Le (hid ω'.A H') (hid A H') := fun s => hid_less fun b hb => s.avoid b hb (by
    by_cases z : b = c
    · exact .inr z
    · exact .inl z)
  refine ⟨fun ω' σ' H' δ' h S s => q _ H' _ h (ex s) .non, fun _ _ _ _ z => z.elim, fun _ _ _ _ z => z.elim, fun ω' v H' d h s a => q v H' d h (ex s) ((le s).dp a), fun ω' p us H' ds h s hp g a => ?_⟩
  have np : ¬ A p := fun z => by
    obtain ⟨o, h1, _⟩ := tr p z
    rcases hp with hp | hp
    · exact hp.2 hp.1
    · rw [hp] at h1; cases h1
  exact q _ H' _ h (ex s) (.lst (.of (by rw [hid_no np]; exact g)) ((le s).dpAll (hid_1.dpAll a)))
end
section
variable {P : Program} {w : World} {K : PySem.W.Frag} {mg : Str → Option Value} {base : Heap} {Γ : Gam} {x qual : Str} {st : Stmt} {f : Addr} {fd : FuncData} {N ps : List Str} {k : Nat}
/-- the context of a body -/
abbrev bCx (P : Program) (w : World) (K : PySem.W.Frag) (mg : Str → Option Value) (base : Heap) (N : List Str) (qual : Str) (st : Stmt) (f : Addr) (cd : Value) (A : Around) (out : List Env) (s : Shared) (H : Hp) (E : XK) : Cx := (cxOf CX0 P w K mg base N qual (defScope st) f cd A out s H E).nox
theorem def_c {m : List PyData → Kt → Prop} (F : Fun K x qual st f fd) (S : FnScope N ps (defScope st))
    (hb : ∀ (cd : Value) (A : Around) (out : List Env) (s : Shared) (H : Hp) (E : XK), fd.code = cd → Rm k (A.deeper (envOfC qual (defScope st) s.heap.objs.size f cd)) →
      ∃ t, PSs (bCx P w K mg base N qual st f cd A out s H E) (defBody st) t ∧ ∀ ds r, ds.length = ps.length → m ds r → wS Γ t (dStart N.length ds) ⟨fun _ => r .none, r, fun ds => r (.list ds), fun _ => False, fun _ => False⟩) :
    FnG P w K mg base CX0 (k + 1) f fd ps (cpsSp Γ ps.length m) := by
  refine fun_okg F S (fun vs H Q E h => h.1) fun cd A out s H vs Q E hc hr ⟨hl, B, ds, r, tr, tb, a, hm, q⟩ => ?_
  obtain ⟨t, ht, h⟩ := hb cd A out s H E hc hr
  exact ⟨t, ht, h ds r ((dpLen a).symm.trans hl) hm _ _ H (Si.go0 tr tb a) _ (end_c tr q)⟩
theorem def_n {m : List PyData → (List PyData → Prop) → Prop} (F : Fun K x qual st f fd) (S : FnScope N ps (defScope st))
    (hb : ∀ (cd : Value) (A : Around) (out : List Env) (s : Shared) (H : Hp) (E : XK), fd.code = cd → Rm k (A.deeper (envOfC qual (defScope st) s.heap.objs.size f cd)) →
      ∃ t, PSs (bCx P w K mg base N qual st f cd A out s H E) (defBody st) t ∧ ∀ ds r, ds.length = ps.length → m ds r → wS Γ t (dStart N.length ds) ⟨fun _ => False, fun _ => False, r, fun _ => False, fun _ => False⟩) :
    FnG P w K mg base CX0 (k + 1) f fd ps (nwSp Γ ps.length m) := by
  refine fun_okg F S (fun vs H Q E h => h.1) fun cd A out s H vs Q E hc hr ⟨hl, B, ds, r, tr, tb, a, hm, q⟩ => ?_
  obtain ⟨t, ht, h⟩ := hb cd A out s H E hc hr
  exact ⟨t, ht, h ds r ((dpLen a).symm.trans hl) hm _ _ H (Si.go0 tr tb a) _ (end_n tr q)⟩
theorem def_w {y : Str} {m : List PyData → Kt → Prop} (F : Fun K x qual st f fd) (S : FnScope N (y :: ps) (defScope st)) (hN : ps.length + 1 ≤ N.length)
    (hb : ∀ (cd : Value) (A : Around) (out : List Env) (s : Shared) (H : Hp) (E : XK), fd.code = cd → Rm k (A.deeper (envOfC qual (defScope st) s.heap.objs.size f cd)) →
      ∃ t, PSs (bCx P w K mg base N qual st f cd A out s H E) (defBody st) t ∧ ∀ ds r, ds.length = ps.length → m ds r → wS Γ t (some .w :: dStart (N.length - 1) ds) ⟨fun _ => r .none, r, fun ds => r (.list ds), fun _ => False, fun _ => False⟩) :
    FnG P w K mg base CX0 (k + 1) f fd (y :: ps) (wlSp Γ ps.length m) := by
  refine fun_okg F S (fun vs H Q E h => ?_) fun cd A out s H vs Q E hc hr h => ?_
  · obtain ⟨a, us, rfl, hl, _⟩ := h
    exact congrArg (· + 1) hl
  obtain ⟨a, us, rfl, hl, B, ds, r, hA, hw, tr, tb, dp, hm, q⟩ := h
  obtain ⟨t, ht, h⟩ := hb cd A out s H E hc hr
  exact ⟨t, ht, h ds r ((dpLen dp).symm.trans hl) hm _ _ H (Si.goW hA hw tr tb dp (by omega)) _ (end_w hA tr q)⟩
/-- by keywords -/
theorem kb_of {ks : List Str} (a b : Nat) (ix : List Nat) (F : Fun K x qual st f fd) (h0 : ps ≠ []) (h : ∀ (kV doc pm : Value) (an : Option Addr) (cd ct : Value) (us ws : List Value), us.length = a → ws.length = b → bindArgs (PySem.W.fnOf x qual (defArgs st) (defBody st) (defScope st) .none kV doc pm an cd ct) ⟨us, ks.zip ws⟩ = pure (ps.zip (pick a b ix us ws))) :
    KBinds K fd ps ks (pick a b ix) (pick a b ix) := by
  obtain ⟨oc, od, kV, doc, pm, an, cd, ct, osl, rfl, lk, hcd⟩ := F.ex
  refine ⟨fun s us ws _ hl => ?_, fun r z => valsPick a b ix r z⟩
  by_cases e : us.length = a ∧ ws.length = b
  · exact .of_eq (h kV doc pm an cd ct us ws e.1 e.2)
  · unfold pick at hl
    rw [if_neg e] at hl
    exact absurd (List.eq_nil_of_length_eq_zero hl.symm) h0
end
def n0 (m : Kt → Prop) : List PyData → Kt → Prop
  | [], k => m k
  | _, _ => False
def n1 (m : PyData → Kt → Prop) : List PyData → Kt → Prop
  | [a], k => m a k
  | _, _ => False
def n2 (m : PyData → PyData → Kt → Prop) : List PyData → Kt → Prop
  | [a, b], k => m a b k
  | _, _ => False
def n3 (m : PyData → PyData → PyData → Kt → Prop) : List PyData → Kt → Prop
  | [a, b, c], k => m a b c k
  | _, _ => False
def n4 (m : PyData → PyData → PyData → PyData → Kt → Prop) : List PyData → Kt → Prop
  | [a, b, c, d], k => m a b c d k
  | _, _ => False
def n5 (m : PyData → PyData → PyData → PyData → PyData → Kt → Prop) : List PyData → Kt → Prop
  | [a, b, c, d, e], k => m a b c d e k
  | _, _ => False
def l1 (m : PyData → (List PyData → Prop) → Prop) : List PyData → (List PyData → Prop) → Prop
  | [a], k => m a k
  | _, _ => False
def l2 (m : PyData → PyData → (List PyData → Prop) → Prop) : List PyData → (List PyData → Prop) → Prop
  | [a, b], k => m a b k
  | _, _ => False
def l3 (m : PyData → PyData → PyData → (List PyData → Prop) → Prop) : List PyData → (List PyData → Prop) → Prop
  | [a, b, c], k => m a b c k
  | _, _ => False
end DW
namespace MG
open PySem L2 PySem.Spec PyProof.Rows
section
variable {X : Cx} {CX : CXT} {k : Nat} {f : Addr} {fd : FuncData} {ps ks : List Str} {sp : Sp} {E : XK} {x : Str} {p pos : Pos} {kws : List Keyword} {tk : TA} {g : List Value → List Value → List Value} {gV : List V → List V → List V}
/-- f(k = v, ..) -/
theorem pe_cgk0 (F : FnG X.prog X.w X.K X.mg X.base CX k f fd ps sp) (hr : Rm k X.A) (hg : Gl X x) (hm : X.mg x = some (.ref f)) (hk : PySem.W.keepIn X.K (.ref f) = true) (hb : KBinds X.K fd ps ks g gV) (hx : Passes CX X E) (hkw : PK X kws tk)
    (hall : (backToKw pos (keywordEach kws X.env)).all (·.1.isSome) = true := by rfl) (hks : (backToKw pos (keywordEach kws X.env)).filterMap (·.1) = ks := by rfl) (hdb : (x == ("__debug__" : Str)) = false := by decide)
    (hpl : ((backTo pos (starEach [] X.env)).any (·.1) || (backToKw pos (keywordEach kws X.env)).any (·.1.isNone)) = false := by rfl) :
    PE X (.Call (.Name x p) [] kws pos) (tCallK sp gV E tNil tk) := by
  refine ⟨fun pins s σ H Q I h => wpAny_Call_Name_kw (ld_glob I hg hm ?_ hdb)⟩
  refine PySem.W.callWith_KW0 (h₀ := X.base) I.ok.mod.kin hk hall (thn (hkw.run pos pins s σ H _ I h) fun ws s2 ⟨zs, H2, I2, rz, q2⟩ => ⟨I2.kIn, ?_⟩) hpl
  rw [hks]
  have r2 := hb.rel .nil rz
  refine wpAny_call (codeAny_mono (ran_ok hx I2 (F.go X.A X.stack s2 H2 ⟨[], ks.zip ws⟩ (g [] ws) (gV [] zs) Q E hr I2.env0 (hb.to s2 [] ws I2.kIn (by rw [← r2.length]; exact F.len _ _ _ _ q2)) r2 q2)) fun r s3 h3 => ?_)
  cases r with
  | error e => exact h3
  | ok fl =>
    cases fl with
    | ret u => exact h3
    | next => exact h3
    | brk => exact h3
    | cont => exact h3
end
end MG

set_option maxHeartbeats 2000001
/-! the law's end, where no repr is under way -/
namespace MG
open PySem PySem.Spec PyProof.Rows L2 DW LamX
open GxR (TabG Tabbed)
theorem hidT_old {h : Heap} {H : Hp} {b : Addr} {o : Obj} (e : h.get? b = some o) (n : H b = none) : (hidT h H).get? b = some o := hidT_get e n
/-- the heap that the law is told of: the script, if the kit does not hold it, and the tables -/
noncomputable def lawH (K : PySem.W.Frag) (a : Addr) (cs : List (Addr × Addr)) (o : Obj) (xs : List V) : Hp := fun b => open Classical in
  if b = a ∧ K.lookup a = none then some (.frz o (.lst xs)) else if b ∈ cs.map (·.2) then some (.tbl #[]) else none
theorem law_g {P : Program} {w : World} {K : PySem.W.Frag} {mg mb : Str → Option Value} {k : Nat} {fa a : Addr} {cs : List (Addr × Addr)} {fd : FuncData} {x : Str} {sp : Sp} {s₁ : Shared} {vs : List Value} {ns : List Int}
    (KX : K.In s₁.heap) (gN : s₁.heap.Ns mainGlobals mg) (bN : s₁.heap.Ns builtinsNs mb) (bB : ∀ x : Str, x ≠ "__name__" → mb x = bootBuiltins x) (nl : s₁.heap.NoLimit) (g0 : s₁.gens = #[])
    (tT : ∀ p ∈ cs, s₁.heap.get? p.2 = some { cls := .none, data := .fields #[] }) (tK : ∀ p ∈ cs, K.lookup p.2 = none) (tC : ∀ p ∈ cs, PySem.W.CodeHd s₁.heap p.1 p.2)
    (bm : ∃ (bm : Addr) (ob : Obj), mg "__builtins__" = some (.ref bm) ∧ bm ≠ builtinsNs ∧ s₁.heap.get? bm = some ob ∧ ob.cls = .type "module" ∧ ob.dict = some builtinsNs ∧ ob.data = .plain)
    (ha : s₁.heap.get? a = some { cls := .type "list", data := .seq vs.toArray }) (hi : IntsAre vs ns) (hl : ns.length ≤ sizeLine) (hr : Rm k callerA)
    (F : ∀ base : Heap, K.In base → base.Ns mainGlobals mg → (∀ p ∈ cs, TabB base mg p.1 p.2) → FnG P w K mg base CX0 k fa fd [x] sp) (hb : ∀ (s : Shared) (u : Value), BindsTo s fd ⟨[u], []⟩ [(x, u)])
    (hs : ∀ H : Hp, (∀ p ∈ cs, H p.2 = some (.tbl #[])) → SqL K H a (ns.map V.int) → sp [.ref a] H (fun v _ => v = .bl true) fun _ _ _ => False) :
    codeAny (model P w) callerA (.call (.ref fa) ⟨[.ref a], []⟩) (fun r s' => r = .ok (.ret (.bool true)) ∧ OldK s₁.heap s'.heap ∧ s'.os = s₁.os ∧ AllBare s'.gens) s₁ := by
  generalize hH : lawH K a cs { cls := .type "list", data := .seq vs.toArray } (ns.map V.int) = H
  have rv := vals_ints hi
  have lV := hi.length
  have tAt : ∀ {b : Addr}, b ∈ cs.map (·.2) → s₁.heap.get? b = some { cls := .none, data := .fields #[] } := fun {b} z => by
    obtain ⟨p, hp, rfl⟩ := List.mem_map.mp z
    exact tT p hp
  have aNo : a ∉ cs.map (·.2) := fun z => by
    have := ha.symm.trans (tAt z)
    cases this
  have see : ∀ b u, H b = some u → (b = a ∧ K.lookup a = none ∧ u = .frz { cls := .type "list", data := .seq vs.toArray } (.lst (ns.map V.int))) ∨ (b ∈ cs.map (·.2) ∧ u = .tbl #[]) := fun b u z => by
    rw [← hH] at z
    unfold lawH at z
    split at z
    · rename_i h; cases z; exact .inl ⟨h.1, h.2, rfl⟩
    · split at z
      · rename_i h; cases z; exact .inr ⟨h, rfl⟩
      · cases z
  have tabH : ∀ p ∈ cs, H p.2 = some (.tbl #[]) := fun p hp => by
    have m : p.2 ∈ cs.map (·.2) := List.mem_map.mpr ⟨p, hp, rfl⟩
    rw [← hH]
    unfold lawH
    rw [if_neg (show ¬ (p.2 = a ∧ K.lookup a = none) from fun z => aNo (z.1 ▸ m)), if_pos m]
  have hok : HOk P w H s₁.heap := fun b u z => by
    rcases see b u z with ⟨rfl, _, rfl⟩ | ⟨m, rfl⟩
    · exact ⟨ha, by rw [List.length_map]; exact hl, vs, _, rv, ha⟩
    · exact tAt m
  have sq : SqL K H a (ns.map V.int) := by
    cases e : K.lookup a with
    | some o =>
      have q := (KX a o e).symm.trans ha
      cases q
      exact .inr ⟨_, vs.toArray, _, e, rfl, rfl, rfl, by rw [List.size_toArray, lV]; exact hl, by simpa using rv⟩
    | none =>
      refine .inl (.inr ⟨{ cls := .type "list", data := .seq vs.toArray }, ?_⟩)
      rw [← hH]
      unfold lawH
      rw [if_pos ⟨rfl, e⟩]
  -- what is no list and no table is not told of
  have none_of : ∀ {b : Addr} {o : Obj}, s₁.heap.get? b = some o → (∀ us n, o.data ≠ .seq us n) → o.data ≠ .fields #[] → H b = none := fun {b o} e n1 n2 => by
    cases z : H b with
    | none => rfl
    | some u =>
      rcases see b u z with ⟨rfl, _, _⟩ | ⟨m, _⟩
      · rw [ha] at e; cases e; exact absurd rfl (n1 _ _)
      · rw [tAt m] at e; cases e; exact absurd rfl n2
  have nsOld : ∀ {b : Addr} {m : Str → Option Value}, s₁.heap.Ns b m → (hidT s₁.heap H).Ns b m := fun {b m} ⟨o, es, ep, e, d, r⟩ => ⟨o, es, ep, hidT_old e (none_of e (fun _ _ z => nomatch d.symm.trans z) fun z => nomatch d.symm.trans z), d, r⟩
  have kB : K.In (hidT s₁.heap H) := fun b o e => hidT_old (KX b o e) (by
    cases z : H b with
    | none => rfl
    | some u =>
      rcases see b u z with ⟨rfl, h1, _⟩ | ⟨m, _⟩
      · rw [h1] at e; cases e
      · obtain ⟨p, hp, rfl⟩ := List.mem_map.mp m
        rw [tK p hp] at e; cases e)
  have hM : L2.Mod K mg (hidT s₁.heap H) := ⟨kB, nsOld gN, ⟨mb, nsOld bN, bB⟩, nl.elim fun mc h => ⟨mc, nsOld h.1, h.2⟩⟩
  have TB : ∀ p ∈ cs, TabB (hidT s₁.heap H) mg p.1 p.2 := fun p hp => by
    obtain ⟨og, es, ep, e, hd, _⟩ := id gN
    refine ⟨?_, ?_, fun z => ?_⟩
    · obtain ⟨o, us, f1, f2, f3, f4, f5, f6, f7, e1, r1, r2, r3, rr⟩ := tC p hp
      refine ⟨o, us, f1, f2, f3, f4, f5, f6, f7, hidT_old e1 (none_of e1 (fun _ _ z => nomatch r2.symm.trans z) fun z => ?_), r1, r2, r3, rr⟩
      have := r2.symm.trans z
      cases this
      simp at r3
    · obtain ⟨bm, ob, b1, b2, b3, b4, b5, b6⟩ := bm
      refine ⟨bm, ob, b1, b2, fun q => ?_, fun q => ?_, hidT_old b3 (none_of b3 (fun _ _ z => nomatch b6.symm.trans z) fun z => nomatch b6.symm.trans z), b4, b5, b6⟩
      · rw [q, e] at b3
        cases b3
        exact nomatch hd.symm.trans b6
      · rw [q, tT p hp] at b3
        cases b3
        cases b6
    · rw [z, tT p hp] at e
      cases e
      cases hd
  have e0 : Env0 P w K mg (hidT s₁.heap H) callerA [] s₁ H := by
    refine ⟨rfl, hM, fun b o e => of_hidT e, Nat.le_of_eq (hidT_size _ _), trivial, fun b hb => ?_, hok, .of_eq g0⟩
    exact absurd (show b ∈ ([] : List Addr) from hb) List.not_mem_nil
  refine codeAny_mono ((F _ kB (nsOld gN) TB).go callerA [] s₁ H ⟨[.ref a], []⟩ [.ref a] [.ref a] _ _ hr e0 (hb s₁ (.ref a)) (.cons rfl .nil) (hs H tabH sq)) fun r s' h => ?_
  cases r with
  | error e => exact False.elim h
  | ok fl =>
    cases fl with
    | next => exact False.elim h
    | brk => exact False.elim h
    | cont => exact False.elim h
    | ret u =>
      obtain ⟨v, H', os, bare, un, hok', r', q⟩ := h
      cases (show v = .bl true from q)
      cases (show u = Value.bool true from r')
      have same : ∀ b o, b ∉ cs.map (·.2) → s₁.heap.get? b = some o → s'.heap.get? b = some o := fun b o nb e => by
        cases z : H b with
        | none => exact un.keep b o e z (fun hm => absurd (show b ∈ ([] : List Addr) from hm) List.not_mem_nil) List.not_mem_nil
        | some u =>
          rcases see b u z with ⟨_, _, rfl⟩ | ⟨m, _⟩
          · have e1 := (hok b _ z).1
            have e2 := (hok' b _ (un.frzs b _ _ z)).1
            rw [e] at e1
            cases e1
            exact e2
          · exact absurd m nb
      have more : ∀ p ∈ cs, ∃ us : Array Value, s'.heap.get? p.2 = some { cls := .none, data := .fields (#[] ++ us) } := fun p hp => (un.tbls p.2 #[] (tabH p hp)).elim fun us z => ⟨us, hok' p.2 _ z⟩
      refine ⟨rfl, ⟨fun b o e => ?_, fun b o e => ?_⟩, os, bare⟩
      · by_cases m : b ∈ cs.map (·.2)
        · obtain ⟨p, hp, rfl⟩ := List.mem_map.mp m
          obtain ⟨us, hm⟩ := more p hp
          rw [tT p hp] at e
          cases e
          exact .inr (.inl ⟨((tC p hp).tab (tT p hp)).isCodeTable, rfl, #[], us, rfl, hm⟩)
        · exact .inl (same b o m e)
      · by_cases m : b ∈ cs.map (·.2)
        · obtain ⟨p, hp, rfl⟩ := List.mem_map.mp m
          obtain ⟨us, hm⟩ := more p hp
          exact ⟨_, hm⟩
        · exact ⟨o, same b o m e⟩
/-- what the law asks of its head: K the kit, cs the code objects with tables -/
def LawC (l : PySem.W.OpenLaw) (w : World) (K : PySem.W.Frag) (k n : Nat) (x : Str) (mg : Str → Option Value) (fa : Addr) (h : Heap) : Prop :=
  ∃ (fd : FuncData) (cs : List (Addr × Addr)) (WI : List Int → Prop) (m : List PyData → MW.Kt → Prop), (∀ p ∈ cs, PySem.W.CodeHd h p.1 p.2 ∧ h.get? p.2 = some (PySem.W.tabObj #[])) ∧ (∀ p ∈ cs, K.lookup p.2 = none) ∧ (∀ (s : Shared) (u : Value), BindsTo s fd ⟨[u], []⟩ [(x, u)]) ∧
    (∀ ns : List Int, ns.length ≤ n → m [.list (ns.map .int)] fun d => d = .bool true) ∧
    ∀ base : Heap, K.In base → base.Ns mainGlobals mg → (∀ p ∈ cs, TabB base mg p.1 p.2) → FnG l.prog w K mg base CX0 k fa fd [x] (cpsSp ⟨K, cs.map (·.2), WI⟩ 1 m)
theorem walk_c {l : PySem.W.OpenLaw} {n k : Nat} {q : Program} {loose : List Str} {XP : (Str → Option Value) → Heap → Prop} {YP : World → Heap → Prop} {d : DefRec} {K : Params → PySem.W.Frag} {x : Str}
    (hn : l.most = some n) (hn2 : n ≤ sizeLine) (hdf : d.params.defaults = []) (hr : Rm k callerA) (hY : ∀ (w : World) (h : Heap), YP w h → (K w.params).In h)
    (F : ∀ (w : World) (mg : Str → Option Value) (fa : Addr) (h : Heap), YP w h → (K w.params).In h → h.Ns mainGlobals mg → mg d.name = some (.ref fa) →
      (∀ (y : Str) (c P : Addr), ((recsOf q).find? fun e => e.name == y).isSome = true → PySem.W.tabIn (K w.params) y = some (c, P) → PySem.W.CodeHd h c P ∧ h.get? P = some (PySem.W.tabObj #[])) → LawC l w (K w.params) k n x mg fa h) :
    PySem.W.WalkO q loose XP YP l.row.toRowW d [] (fun f vs => PySem.call f vs) := by
  refine Att.attach_callB hn hdf fun w s₀ s₁ mg mb fa o pm cd doc a vs ns G Y ho hd hcd hmg hobj hints hlen hbits hg => ?_
  have KX := hY w _ Y
  obtain ⟨fd, cs, WI, m, c1, c2, c3, c4, c5⟩ := F w mg fa _ Y KX G.T.g hmg fun y c P h1 h2 => by
    obtain ⟨dr, hd⟩ := Option.isSome_iff_exists.mp h1
    exact PySem.W.tab_of G.T KX hd h2
  refine law_g KX G.T.g G.T.b G.T.builtins G.T.nolimit hg (fun p hp => (c1 p hp).2) c2 (fun p hp => (c1 p hp).1) G.T.bmain hobj hints (Nat.le_trans hlen hn2) hr c5 c3 fun H hT hS => ?_
  refine ⟨rfl, fun b => ∃ p ∈ ([] : List (Addr × Addr)), p.2 = b, [.list (ns.map .int)], _, fun b ⟨p, hp, _⟩ => (nomatch hp), fun P hP => ?_, .cons (.lst ?_ (dpOfints ns)) .nil, c4 ns hlen, fun v H' d hd _ dp => ?_⟩
  · obtain ⟨p, hp, rfl⟩ := List.mem_map.mp hP
    exact ⟨#[], hT p hp, by first | trivial | exact .nil | (intro _ h; cases h)⟩
  · have e : hid (fun b => ∃ p ∈ ([] : List (Addr × Addr)), p.2 = b) H = H := funext fun b => hid_no fun ⟨p, hp, _⟩ => nomatch hp
    rw [e]
    exact hS
  · subst hd
    cases dp
    rfl
end MG

set_option maxHeartbeats 2000001
/-! more words -/
namespace MR
open PySem PySem.Spec PyProof.Rows L2 DW MG
section
variable {X : Cx}
def rMinD (K : PySem.W.Frag) : List V → Hp → VK → Prop := fun xs H Q => ∃ (a : Addr) (us : List V) (x : PyData) (ds : List PyData), xs = [.ref a] ∧ SqL K H a us ∧ DpAll K H us (x :: ds) ∧ PySem.W.AlikeAll (x :: ds) ∧ PyData.depthAll (x :: ds) ≤ 60 ∧
  ∀ (i : Nat) u, us[i]? = some u → (x :: ds)[i]? = some (PySem.W.minD x ds) → Q u H
theorem reads_keep {h h' : Heap} {v : Value} {d : PyData} {as : List Addr} (r : Reads h v d as) (k : ∀ b o, h.get? b = some o → h'.get? b = some o) : Reads h' v d as := PyProof.Rows.Reads.keeps k r
theorem cr_minT {k : Nat} (hr : Rm k X.A) : CallR X (.builtin "min") (rMinD X.K) := by
  intro pins s σ H vs us Q I r h
  obtain ⟨a, xs, x, ds, rfl, hs, dp, al, dep, q⟩ := h
  obtain ⟨its, rv, hl, _⟩ := I.list hs
  rw [Vals.ref1 r]
  obtain ⟨as, ra⟩ := Dp.readsAll I (x :: ds) xs its dp rv
  have := hr.r.un
  refine PySem.W.min_list_data (vs := its.toArray) hr.r.hd hl.isList (by simpa using ra) al (by omega) fun i v h' tk bs hi hv hk => ?_
  have hi : its[i]? = some v := by simpa using hi
  obtain ⟨u, hu, ru⟩ : ∃ u, xs[i]? = some u ∧ RelV u v := by
    have hlt := (List.getElem?_eq_some_iff.mp hi).1
    have hx : i < xs.length := by rw [rv.length]; exact hlt
    obtain ⟨w, hw, rw'⟩ := rv.get (List.getElem?_eq_getElem hx)
    rw [hi] at hw
    cases hw
    exact ⟨_, List.getElem?_eq_getElem hx, rw'⟩
  obtain ⟨d, hd⟩ : ∃ d, (x :: ds)[i]? = some d := by
    have := (List.getElem?_eq_some_iff.mp hu).1
    rw [dpLen dp] at this
    exact ⟨_, List.getElem?_eq_getElem this⟩
  obtain ⟨u', hu', du⟩ := dpGet dp hd
  rw [hu] at hu'
  cases hu'
  obtain ⟨cs, r1⟩ := Dp.reads I d u v du ru
  have e := SeqAt.plain_unique d (PySem.W.minD x ds) v cs bs (dp_plain du) (reads_keep r1 hk) hv
  subst e
  exact ⟨u, H, I.kept hk, ru, q i u hu hd⟩
end
end MR
namespace DW
open PySem PySem.Spec PyProof.Rows L2 MG MR
theorem cl_min {X : Cx} {K : PySem.W.Frag} {k : Nat} (hr : Rm k X.A) (h : X.K = K) : CallR X (.builtin "min") (rMinD K) := h ▸ cr_minT hr
variable {Γ : Gam} {δ : Sl} {ta : TE} {k : MW.Kt}
theorem dpAt {K : PySem.W.Frag} {G : Hp} {vs : List V} {ds : List PyData} {i : Nat} {u : V} {d : PyData} (a : DpAll K G vs ds) (h1 : vs[i]? = some u) (h2 : ds[i]? = some d) : Dp K G u d := by
  obtain ⟨v, h3, h4⟩ := dpGet a h2
  rw [h1] at h3
  cases h3
  exact h4
theorem w_minT (h : wE Γ ta δ fun d => MW.minTW d k) : wE Γ (tCB (rMinD Γ.K) (tCons ta tNil)) δ k := w_c1 (h.mono fun d h A W H xs Q hw a ht q => by
  cases a with
  | cons a t =>
    cases t
    cases a with
    | lst hs ha =>
      rename_i ds
      cases ds with
      | nil => exact (show False from h).elim
      | cons x ds =>
        obtain ⟨h1, h2, h3⟩ := h
        exact ⟨_, _, x, ds, rfl, (hid_le _ _).seqL hs, (hid_le _ _).dpAll ha, h1, h2, fun i u hu hd => q u H _ h3 .refl (dpAt ha hu hd)⟩
    | _ => exact (show False from h).elim)
end DW

set_option maxHeartbeats 2000001
/-! the well of two ints -/
namespace DW
open PySem PySem.Spec PyProof.Rows L2 MG MR MW
open GxR (TabG Tabbed)
def big : Int := 10 ^ 28 + 331
def WI (xs : List Int) : Prop := ∃ x y : Int, xs = [x, y] ∧ 0 ≤ x ∧ 0 ≤ y ∧ y < 10 ^ 28 + 331
def m__law_take (many : D) (r : Kt) : Prop := ∃ m : Int, many = .int m ∧ (0 < m ∧ m < 1073741824) ∧ ∀ i : Int, 0 ≤ i → i < m → r (.int i)
abbrev tWell (K : PySem.W.Frag) (i : Int) : TE := tOp (rIx K) (tVar 0) (tC (.int i))
abbrev tInt (t : TE) : TE := tCB (fun xs H Q => (∃ i, xs = [.int i] ∧ Q (.int i) H) ∨ ∃ k, xs = [.bl k] ∧ Q (.int (if k then 1 else 0)) H) (tCons t tNil)
abbrev tBig (K : PySem.W.Frag) : TE := tOp (rAddM K) (tOp (rI CPow fun i j => .int (i ^ j.toNat)) (tC (.int 10)) (tC (.int 28))) (tC (.int 331))
abbrev tMod (a b : TE) : TE := tOp (rI (fun _ j => 0 < j) fun i j => .int (i % j)) a b
abbrev tFdv (a b : TE) : TE := tOp (rI CDivW fun i j => .int (i / j)) a b
abbrev tMul (a b : TE) : TE := tOp (rI CMulW fun i j => .int (i * j)) a b
abbrev tAddM (K : PySem.W.Frag) (a b : TE) : TE := tOp (rAddM K) a b
/-- _law_take's reading -/
abbrev tTake (K : PySem.W.Frag) : TS :=
  tSeq (tIfS (tTest (tOp (rI0 fun i j => .bl (decide (i > j))) (tWell K 0) (tC (.int 0))))
    (tSeq (tAsg (tMod (tInt (tWell K 0)) (tVar 1)) (gName 2)) (tSeq (tAsg (tFdv (tWell K 0) (tVar 1)) (gSub (tVar 0) (tC (.int 0)) rSetL)) (tRet (tVar 2)))) tNext)
  (tSeq (tAsg (tMod (tInt (tAddM K (tMul (tWell K 1) (tC (.int 6364136223846793005))) (tC (.int 1442695040888963407)))) (tBig K)) (gSub (tVar 0) (tC (.int 1)) rSetL))
  (tSeq (tAsg (tMod (tInt (tAddM K (tFdv (tMul (tWell K 1) (tWell K 1)) (tC (.int 1000003))) (tWell K 1))) (tC (.int 9007199254740881))) (gName 3))
    (tRet (tMod (tInt (tFdv (tVar 3) (tC (.int 13)))) (tVar 1)))))
theorem ext_well {Γ : Gam} {H : Hp} {a : Addr} {xs ys : List Int} (h : H a = some (.lst (xs.map V.int))) (hy : Γ.WI ys) : Ext Γ (fun b => b = a) H (upd H a (.lst (ys.map V.int))) :=
  ⟨fun b o h1 n nb => by rw [upd_ne nb]; exact h1, fun b ps h1 => ⟨ps, by rw [upd_ne (ne_of h1 h fun z => nomatch z)]; exact h1, id⟩, fun b z _ => ⟨ys, by rw [z, upd_same], hy⟩⟩
theorem small_mul {a b : Int} {m n : Nat} (ha : 0 ≤ a) (hb : 0 ≤ b) (h1 : a < 2 ^ m) (h2 : b < 2 ^ n) (h0 : 0 < m) (h3 : 0 < n) (h : m + n ≤ 1000000) : CMulW a b := by
  refine wide_mul (a := m) (b := n) ?_ ?_ h0 h3 h
  · have : ((2 ^ m : Nat) : Int) = 2 ^ m := by rw [Int.natCast_pow]; rfl
    omega
  · have : ((2 ^ n : Nat) : Int) = 2 ^ n := by rw [Int.natCast_pow]; rfl
    omega
theorem take_reads {Γ : Gam} {a : Addr} {us : List V} {B : Addr → Prop} {ds : List PyData} {r : Kt} {H : Hp} {Q : VK} (hW : Γ.WI = WI) (hl : us.length = 1) (hA : B a) (hw : WellAt Γ.WI H a) (tr : Trk B H) (dp : DpAll Γ.K (hid B H) us ds) (hm : n1 m__law_take ds r)
    (q : ∀ v H' d, r d → Ext Γ (fun b => b = a) H H' → Dp Γ.K (hid B H') v d → Q v H') : tTake Γ.K { nx := fun _ H' => Q .non H', rt := Q } (L2.start ["well", "many", "found", "mixed"] (.ref a :: us)) H := by
  match us, hl with
  | [u], _ =>
  match ds, dp with
  | [d], .cons du .nil =>
  obtain ⟨m, rfl, ⟨m0, m1⟩, hr⟩ := hm
  cases du
  rw [hW] at hw
  obtain ⟨xs, hH, x, y, rfl, x0, y0, y1⟩ := hw
  have hH : H a = some (.lst [.int x, .int y]) := hH
  have at0 : ∀ {x y : Int}, atI [V.int x, V.int y] 0 = some (.int x) := fun {x y} => rfl
  have at1 : ∀ {x y : Int}, atI [V.int x, V.int y] 1 = some (.int y) := fun {x y} => rfl
  have ix : ∀ {G : Hp} {x y i z : Int} {Q : VK}, G a = some (.lst [.int x, .int y]) → atI [V.int x, V.int y] i = some (.int z) → Q (.int z) G → rIx Γ.K (.ref a) (.int i) G Q := fun h1 h2 h3 => .inl ⟨a, _, _, _, rfl, rfl, .of h1, h2, h3⟩
  have cd : CDivW x m := ⟨m0, by
    have : m.natAbs < 2 ^ 30 := by omega
    have := (Nat.log2_lt (by omega)).mpr this
    omega⟩
  refine ⟨_, rfl, ix hH at0 ⟨x, 0, rfl, rfl, _, rfl, ?_⟩⟩
  by_cases hx : x > 0
  · rw [decide_eq_true hx]
    refine yesIf ?_
    refine ⟨_, rfl, ix hH at0 (.inl ⟨x, rfl, _, rfl, x, m, rfl, rfl, m0, ?_⟩)⟩
    refine ⟨_, rfl, ix hH at0 ⟨_, rfl, x, m, rfl, rfl, cd, ?_⟩⟩
    refine ⟨_, rfl, a, _, 0, 0, rfl, rfl, hH, rfl, ?_⟩
    refine ⟨_, rfl, q _ _ _ (hr (x % m) (Int.emod_nonneg _ (by omega)) (Int.emod_lt_of_pos _ m0)) (ext_well (xs := [x, y]) (ys := [x / m, y]) hH ?_) (.int _)⟩
    rw [hW]
    exact ⟨x / m, y, rfl, Int.ediv_nonneg x0 (by omega), y0, y1⟩
  · rw [decide_eq_false hx]
    refine iteF ?_
    have hb : (0 : Int) < 10 ^ 28 + 331 := by decide
    have y2 : y < 2 ^ 94 := Int.lt_trans y1 (by decide)
    generalize hz : (y * 6364136223846793005 + 1442695040888963407) % (10 ^ 28 + 331) = z
    have z0 : 0 ≤ z := by rw [← hz]; exact Int.emod_nonneg _ (by decide)
    have z1 : z < 10 ^ 28 + 331 := by rw [← hz]; exact Int.emod_lt_of_pos _ hb
    have z2 : z < 2 ^ 94 := Int.lt_trans z1 (by decide)
    refine ⟨_, rfl, ix hH at1 ⟨y, _, rfl, rfl, small_mul y0 (by decide) y2 (show (6364136223846793005 : Int) < 2 ^ 64 by decide) (by decide) (by decide) (by decide), .inl ⟨_, _, rfl, rfl, ?_⟩⟩⟩
    refine .inl ⟨_, rfl, 10, 28, rfl, rfl, ⟨by decide, by decide, by decide⟩, .inl ⟨_, _, rfl, rfl, _, _, rfl, rfl, ?_, ?_⟩⟩
    · show (0 : Int) < 10 ^ (28 : Int).toNat + 331
      decide
    refine ⟨_, rfl, a, _, 1, 1, rfl, rfl, hH, rfl, ?_⟩
    have hz' : (y * 6364136223846793005 + 1442695040888963407) % (10 ^ (28 : Int).toNat + 331) = z := hz
    have hz2 : (fun i j : Int => V.int (i % j)) (y * 6364136223846793005 + 1442695040888963407) (10 ^ (28 : Int).toNat + 331) = V.int z := congrArg V.int hz'
    rw [hz2]
    generalize hG : upd H a (.lst ([V.int x, V.int y].set 1 (.int z))) = G
    have gG : G a = some (.lst [.int x, .int z]) := by rw [← hG, upd_same]; rfl
    refine ⟨_, rfl, ix gG at1 ⟨_, rfl, ix gG at1 ⟨z, z, rfl, rfl, small_mul z0 z0 z2 z2 (by decide) (by decide) (by decide), ?_⟩⟩⟩
    refine ⟨_, _, rfl, rfl, ⟨by decide, by decide⟩, ⟨_, rfl, ix gG at1 (.inl ⟨_, _, rfl, rfl, ?_⟩)⟩⟩
    refine .inl ⟨_, rfl, _, _, rfl, rfl, (by show (0 : Int) < 9007199254740881; decide), ?_⟩
    generalize hu : (z * z / 1000003 + z) % 9007199254740881 = u
    refine ⟨_, rfl, _, _, rfl, rfl, ⟨by decide, by decide⟩, .inl ⟨_, rfl, _, rfl, _, _, rfl, rfl, m0, ?_⟩⟩
    rw [hu]
    refine q _ _ _ (hr (u / 13 % m) (Int.emod_nonneg _ (by omega)) (Int.emod_lt_of_pos _ m0)) ?_ (.int _)
    rw [← hG]
    refine ext_well (xs := [x, y]) (ys := [x, z]) hH ?_
    rw [hW]
    exact ⟨x, z, rfl, x0, z0, z1⟩
end DW

set_option maxHeartbeats 2000001
/-! plain laws of the words of MW -/
namespace MW
open PySem L2
section
variable {k : Kt} {i j : Int} {x y : List D} {b c : Bool} {d e : D} {s t : Str}
@[simp] theorem bW_bool {k : Bool → Prop} : bW (.bool b) k = k b := rfl
@[simp] theorem iW_int {k : Int → Prop} : iW (.int i) k = k i := rfl
@[simp] theorem seqW_list {k : List D → Prop} : seqW (.list x) k = k x := rfl
@[simp] theorem seqW_tuple {k : List D → Prop} : seqW (.tuple x) k = k x := rfl
@[simp] theorem addW_int : addW (.int i) (.int j) k = k (.int (i + j)) := rfl
@[simp] theorem addW_tuple : addW (.tuple x) (.tuple y) k = (x.length + y.length ≤ most ∧ k (.tuple (x ++ y))) := rfl
@[simp] theorem addW_list : addW (.list x) (.list y) k = (x.length + y.length ≤ most ∧ k (.list (x ++ y))) := rfl
@[simp] theorem subW_int : subW (.int i) (.int j) k = k (.int (i - j)) := rfl
@[simp] theorem mulW_int : mulW (.int i) (.int j) k = (CMulW i j ∧ k (.int (i * j))) := rfl
@[simp] theorem fdivW_int : fdivW (.int i) (.int j) k = (CDivW i j ∧ k (.int (i / j))) := rfl
@[simp] theorem modW_int : modW (.int i) (.int j) k = (0 < j ∧ k (.int (i % j))) := rfl
@[simp] theorem powW_int : powW (.int i) (.int j) k = (CPow i j ∧ k (.int (i ^ j.toNat))) := rfl
@[simp] theorem shlW_int : shlW (.int i) (.int j) k = (CPow i j ∧ k (.int (i * 2 ^ j.toNat))) := rfl
@[simp] theorem shrW_int : shrW (.int i) (.int j) k = (0 ≤ j ∧ k (.int (i / 2 ^ j.toNat))) := rfl
@[simp] theorem ltW_int : ltW (.int i) (.int j) k = k (.bool (decide (i < j))) := rfl
@[simp] theorem leW_int : leW (.int i) (.int j) k = k (.bool (decide (i ≤ j))) := rfl
@[simp] theorem gtW_int : gtW (.int i) (.int j) k = k (.bool (decide (i > j))) := rfl
@[simp] theorem geW_int : geW (.int i) (.int j) k = k (.bool (decide (i ≥ j))) := rfl
@[simp] theorem isNW_none : isNW .none k = k (.bool true) := rfl
@[simp] theorem isNW_bool : isNW (.bool b) k = k (.bool false) := rfl
@[simp] theorem isNW_int : isNW (.int i) k = k (.bool false) := rfl
@[simp] theorem isNW_str : isNW (.str s) k = k (.bool false) := rfl
@[simp] theorem isNW_list : isNW (.list x) k = k (.bool false) := rfl
@[simp] theorem isNW_tuple : isNW (.tuple x) k = k (.bool false) := rfl
@[simp] theorem notNW_none : notNW .none k = k (.bool false) := rfl
@[simp] theorem notNW_bool : notNW (.bool b) k = k (.bool true) := rfl
@[simp] theorem notNW_int : notNW (.int i) k = k (.bool true) := rfl
@[simp] theorem notNW_str : notNW (.str s) k = k (.bool true) := rfl
@[simp] theorem notNW_list : notNW (.list x) k = k (.bool true) := rfl
@[simp] theorem notNW_tuple : notNW (.tuple x) k = k (.bool true) := rfl
@[simp] theorem isBW_bool : isBW (.bool b) c k = k (.bool (decide (b = c))) := rfl
@[simp] theorem notBW_bool : notBW (.bool b) c k = k (.bool (!decide (b = c))) := rfl
@[simp] theorem lenW_list : lenW (.list x) k = k (.int x.length) := rfl
@[simp] theorem lenW_tuple : lenW (.tuple x) k = k (.int x.length) := rfl
@[simp] theorem ixW_list : ixW (.list x) (.int i) k = atW x i k := rfl
@[simp] theorem ixW_tuple : ixW (.tuple x) (.int i) k = atW x i k := rfl
@[simp] theorem cutW_list {lo hi : Option Int} : cutW (.list x) lo hi k = k (.list (cutD x lo hi)) := rfl
@[simp] theorem cutW_tuple {lo hi : Option Int} : cutW (.tuple x) lo hi k = k (.tuple (cutD x lo hi)) := rfl
@[simp] theorem negW_int : negW (.int i) k = k (.int (-i)) := rfl
@[simp] theorem notW_bool : notW (.bool b) k = k (.bool (!b)) := rfl
@[simp] theorem intW_int : intW (.int i) k = k (.int i) := rfl
@[simp] theorem intW_bool : intW (.bool b) k = k (.int (if b then 1 else 0)) := rfl
@[simp] theorem absW_int : absW (.int i) k = k (.int (if i < 0 then -i else i)) := rfl
@[simp] theorem max2W_int : max2W (.int i) (.int j) k = k (.int (if j > i then j else i)) := rfl
@[simp] theorem min2W_int : min2W (.int i) (.int j) k = k (.int (if j < i then j else i)) := rfl
@[simp] theorem tupW_list : tupW (.list x) k = k (.tuple x) := rfl
@[simp] theorem tupW_tuple : tupW (.tuple x) k = k (.tuple x) := rfl
@[simp] theorem iopW_int {f : Int → Int → Int} : iopW f (.int i) (.int j) k = k (.int (f i j)) := rfl
@[simp] theorem rng1W_int {k : List D → Prop} : rng1W (.int j) k = ((-(2 ^ 62) ≤ j ∧ j < 2 ^ 62) ∧ k (rngD 0 j.toNat)) := rfl
@[simp] theorem rng2W_int {k : List D → Prop} : rng2W (.int i) (.int j) k = ((-(2 ^ 62) ≤ i ∧ i < 2 ^ 62 ∧ -(2 ^ 62) ≤ j ∧ j < 2 ^ 62) ∧ k (rngD i (j - i).toNat)) := rfl
@[simp] theorem letW_eq {α : Type} {v : α} {k : α → Prop} : letW v k = k v := rfl
@[simp] theorem un2W_tuple {k : D → D → Prop} : un2W (.tuple [d, e]) k = k d e := rfl
@[simp] theorem andB_true {u : (Bool → Prop) → Prop} {k : Bool → Prop} : andB true u k = u k := rfl
@[simp] theorem andB_false {u : (Bool → Prop) → Prop} {k : Bool → Prop} : andB false u k = k false := rfl
@[simp] theorem orB_true {u : (Bool → Prop) → Prop} {k : Bool → Prop} : orB true u k = k true := rfl
@[simp] theorem orB_false {u : (Bool → Prop) → Prop} {k : Bool → Prop} : orB false u k = u k := rfl
@[simp] theorem andV_true {u : Kt → Prop} : andV true u k = u k := rfl
@[simp] theorem andV_false {u : Kt → Prop} : andV false u k = k (.bool false) := rfl
@[simp] theorem orV_true {u : Kt → Prop} : orV true u k = k (.bool true) := rfl
@[simp] theorem orV_false {u : Kt → Prop} : orV false u k = u k := rfl
@[simp] theorem iteV_true {α : Type} {t u : (α → Prop) → Prop} {k : α → Prop} : iteV true t u k = t k := rfl
@[simp] theorem iteV_false {α : Type} {t u : (α → Prop) → Prop} {k : α → Prop} : iteV false t u k = u k := rfl
@[simp] theorem apW_eq {k : List D → Prop} : apW x d k = (x.length < most ∧ k (x ++ [d])) := rfl
@[simp] theorem exW_eq {k : List D → Prop} : exW x y k = (x.length + y.length ≤ most ∧ k (x ++ y)) := rfl
theorem kit_none_int : kitB "NoneType" "int" = some false := by decide +kernel
@[simp] theorem isi_none_int {k : Kt} : isiW .none "int" k = k (.bool false) := by
  unfold isiW tyD
  simp only [kit_none_int]
theorem kit_none_bool : kitB "NoneType" "bool" = some false := by decide +kernel
@[simp] theorem isi_none_bool {k : Kt} : isiW .none "bool" k = k (.bool false) := by
  unfold isiW tyD
  simp only [kit_none_bool]
theorem kit_none_str : kitB "NoneType" "str" = some false := by decide +kernel
@[simp] theorem isi_none_str {k : Kt} : isiW .none "str" k = k (.bool false) := by
  unfold isiW tyD
  simp only [kit_none_str]
theorem kit_none_tuple : kitB "NoneType" "tuple" = some false := by decide +kernel
@[simp] theorem isi_none_tuple {k : Kt} : isiW .none "tuple" k = k (.bool false) := by
  unfold isiW tyD
  simp only [kit_none_tuple]
theorem kit_none_list : kitB "NoneType" "list" = some false := by decide +kernel
@[simp] theorem isi_none_list {k : Kt} : isiW .none "list" k = k (.bool false) := by
  unfold isiW tyD
  simp only [kit_none_list]
theorem kit_bool_int : kitB "bool" "int" = some true := by decide +kernel
@[simp] theorem isi_bool_int {x : Bool} {k : Kt} : isiW (.bool x) "int" k = k (.bool true) := by
  unfold isiW tyD
  simp only [kit_bool_int]
theorem kit_bool_bool : kitB "bool" "bool" = some true := by decide +kernel
@[simp] theorem isi_bool_bool {x : Bool} {k : Kt} : isiW (.bool x) "bool" k = k (.bool true) := by
  unfold isiW tyD
  simp only [kit_bool_bool]
theorem kit_bool_str : kitB "bool" "str" = some false := by decide +kernel
@[simp] theorem isi_bool_str {x : Bool} {k : Kt} : isiW (.bool x) "str" k = k (.bool false) := by
  unfold isiW tyD
  simp only [kit_bool_str]
theorem kit_bool_tuple : kitB "bool" "tuple" = some false := by decide +kernel
@[simp] theorem isi_bool_tuple {x : Bool} {k : Kt} : isiW (.bool x) "tuple" k = k (.bool false) := by
  unfold isiW tyD
  simp only [kit_bool_tuple]
theorem kit_bool_list : kitB "bool" "list" = some false := by decide +kernel
@[simp] theorem isi_bool_list {x : Bool} {k : Kt} : isiW (.bool x) "list" k = k (.bool false) := by
  unfold isiW tyD
  simp only [kit_bool_list]
theorem kit_int_int : kitB "int" "int" = some true := by decide +kernel
@[simp] theorem isi_int_int {x : Int} {k : Kt} : isiW (.int x) "int" k = k (.bool true) := by
  unfold isiW tyD
  simp only [kit_int_int]
theorem kit_int_bool : kitB "int" "bool" = some false := by decide +kernel
@[simp] theorem isi_int_bool {x : Int} {k : Kt} : isiW (.int x) "bool" k = k (.bool false) := by
  unfold isiW tyD
  simp only [kit_int_bool]
theorem kit_int_str : kitB "int" "str" = some false := by decide +kernel
@[simp] theorem isi_int_str {x : Int} {k : Kt} : isiW (.int x) "str" k = k (.bool false) := by
  unfold isiW tyD
  simp only [kit_int_str]
theorem kit_int_tuple : kitB "int" "tuple" = some false := by decide +kernel
@[simp] theorem isi_int_tuple {x : Int} {k : Kt} : isiW (.int x) "tuple" k = k (.bool false) := by
  unfold isiW tyD
  simp only [kit_int_tuple]
theorem kit_int_list : kitB "int" "list" = some false := by decide +kernel
@[simp] theorem isi_int_list {x : Int} {k : Kt} : isiW (.int x) "list" k = k (.bool false) := by
  unfold isiW tyD
  simp only [kit_int_list]
theorem kit_str_int : kitB "str" "int" = some false := by decide +kernel
@[simp] theorem isi_str_int {x : Str} {k : Kt} : isiW (.str x) "int" k = k (.bool false) := by
  unfold isiW tyD
  simp only [kit_str_int]
theorem kit_str_bool : kitB "str" "bool" = some false := by decide +kernel
@[simp] theorem isi_str_bool {x : Str} {k : Kt} : isiW (.str x) "bool" k = k (.bool false) := by
  unfold isiW tyD
  simp only [kit_str_bool]
theorem kit_str_str : kitB "str" "str" = some true := by decide +kernel
@[simp] theorem isi_str_str {x : Str} {k : Kt} : isiW (.str x) "str" k = k (.bool true) := by
  unfold isiW tyD
  simp only [kit_str_str]
theorem kit_str_tuple : kitB "str" "tuple" = some false := by decide +kernel
@[simp] theorem isi_str_tuple {x : Str} {k : Kt} : isiW (.str x) "tuple" k = k (.bool false) := by
  unfold isiW tyD
  simp only [kit_str_tuple]
theorem kit_str_list : kitB "str" "list" = some false := by decide +kernel
@[simp] theorem isi_str_list {x : Str} {k : Kt} : isiW (.str x) "list" k = k (.bool false) := by
  unfold isiW tyD
  simp only [kit_str_list]
theorem kit_list_int : kitB "list" "int" = some false := by decide +kernel
@[simp] theorem isi_list_int {x : List PyData} {k : Kt} : isiW (.list x) "int" k = k (.bool false) := by
  unfold isiW tyD
  simp only [kit_list_int]
theorem kit_list_bool : kitB "list" "bool" = some false := by decide +kernel
@[simp] theorem isi_list_bool {x : List PyData} {k : Kt} : isiW (.list x) "bool" k = k (.bool false) := by
  unfold isiW tyD
  simp only [kit_list_bool]
theorem kit_list_str : kitB "list" "str" = some false := by decide +kernel
@[simp] theorem isi_list_str {x : List PyData} {k : Kt} : isiW (.list x) "str" k = k (.bool false) := by
  unfold isiW tyD
  simp only [kit_list_str]
theorem kit_list_tuple : kitB "list" "tuple" = some false := by decide +kernel
@[simp] theorem isi_list_tuple {x : List PyData} {k : Kt} : isiW (.list x) "tuple" k = k (.bool false) := by
  unfold isiW tyD
  simp only [kit_list_tuple]
theorem kit_list_list : kitB "list" "list" = some true := by decide +kernel
@[simp] theorem isi_list_list {x : List PyData} {k : Kt} : isiW (.list x) "list" k = k (.bool true) := by
  unfold isiW tyD
  simp only [kit_list_list]
theorem kit_tuple_int : kitB "tuple" "int" = some false := by decide +kernel
@[simp] theorem isi_tuple_int {x : List PyData} {k : Kt} : isiW (.tuple x) "int" k = k (.bool false) := by
  unfold isiW tyD
  simp only [kit_tuple_int]
theorem kit_tuple_bool : kitB "tuple" "bool" = some false := by decide +kernel
@[simp] theorem isi_tuple_bool {x : List PyData} {k : Kt} : isiW (.tuple x) "bool" k = k (.bool false) := by
  unfold isiW tyD
  simp only [kit_tuple_bool]
theorem kit_tuple_str : kitB "tuple" "str" = some false := by decide +kernel
@[simp] theorem isi_tuple_str {x : List PyData} {k : Kt} : isiW (.tuple x) "str" k = k (.bool false) := by
  unfold isiW tyD
  simp only [kit_tuple_str]
theorem kit_tuple_tuple : kitB "tuple" "tuple" = some true := by decide +kernel
@[simp] theorem isi_tuple_tuple {x : List PyData} {k : Kt} : isiW (.tuple x) "tuple" k = k (.bool true) := by
  unfold isiW tyD
  simp only [kit_tuple_tuple]
theorem kit_tuple_list : kitB "tuple" "list" = some false := by decide +kernel
@[simp] theorem isi_tuple_list {x : List PyData} {k : Kt} : isiW (.tuple x) "list" k = k (.bool false) := by
  unfold isiW tyD
  simp only [kit_tuple_list]
theorem andB_of {u : (Bool → Prop) → Prop} {k : Bool → Prop} (h1 : b = true → u k) (h2 : b = false → k false) : andB b u k := by
  cases b
  · exact h2 rfl
  · exact h1 rfl
theorem ite_of {p q : Prop} (h1 : b = true → p) (h2 : b = false → q) : if b = true then p else q := by
  cases b
  · exact h2 rfl
  · exact h1 rfl
@[simp] theorem andV_b : andV b (fun k5 => k5 (.bool c)) k = k (.bool (b && c)) := by cases b <;> rfl
@[simp] theorem orV_b : orV b (fun k5 => k5 (.bool c)) k = k (.bool (b || c)) := by cases b <;> rfl
@[simp] theorem andB_b {k : Bool → Prop} : andB b (fun k5 => k5 c) k = k (b && c) := by cases b <;> rfl
@[simp] theorem orB_b {k : Bool → Prop} : orB b (fun k5 => k5 c) k = k (b || c) := by cases b <;> rfl
/-! equal data -/
@[simp] theorem eqv_int : PyData.eqv (.int i) (.int j) = decide (i = j) := by simp only [PyData.eqv]; rw [Bool.eq_iff_iff, beq_iff_eq, decide_eq_true_eq]
@[simp] theorem eqv_str : PyData.eqv (.str s) (.str t) = decide (s = t) := by simp only [PyData.eqv]; rw [Bool.eq_iff_iff, beq_iff_eq, decide_eq_true_eq]
@[simp] theorem eqv_bool : PyData.eqv (.bool b) (.bool c) = decide (b = c) := by simp only [PyData.eqv]; rw [Bool.eq_iff_iff, beq_iff_eq, decide_eq_true_eq]
theorem eqvAll_ints : ∀ (a b : List Int), PyData.eqvAll (a.map .int) (b.map .int) = decide (a = b)
  | [], [] => rfl
  | [], _ :: _ => rfl
  | _ :: _, [] => rfl
  | x :: a, y :: b => by
    simp only [List.map_cons, PyData.eqvAll, eqv_int, eqvAll_ints a b, List.cons.injEq]
    by_cases h1 : x = y <;> by_cases h2 : a = b <;> simp [h1, h2]
/-- a tuple of ints -/
abbrev tu (a : List Int) : D := .tuple (a.map .int)
theorem eqv_tu (a b : List Int) : PyData.eqv (tu a) (tu b) = decide (a = b) := by
  unfold tu
  simp only [PyData.eqv]
  exact eqvAll_ints a b
@[simp] theorem depth_int : (PyData.int i).depth = 0 := by simp only [PyData.depth]
@[simp] theorem depth_bool : (PyData.bool b).depth = 0 := by simp only [PyData.depth]
@[simp] theorem depth_str : (PyData.str s).depth = 0 := by simp only [PyData.depth]
@[simp] theorem depth_none : PyData.none.depth = 0 := by simp only [PyData.depth]
theorem depthAll_ints : ∀ (a : List Int), PyData.depthAll (a.map .int) = 0
  | [] => by simp only [List.map_nil, PyData.depthAll]
  | x :: a => by simp only [List.map_cons, PyData.depthAll, depth_int, depthAll_ints a]; rfl
@[simp] theorem depth_tu (a : List Int) : (tu a).depth = 1 := by
  unfold tu
  simp only [PyData.depth, depthAll_ints]
@[simp] theorem depth_tuple : (PyData.tuple x).depth = PyData.depthAll x + 1 := by simp only [PyData.depth]
@[simp] theorem depth_list : (PyData.list x).depth = PyData.depthAll x + 1 := by simp only [PyData.depth]
@[simp] theorem depthAll_nil : PyData.depthAll [] = 0 := by simp only [PyData.depthAll]
@[simp] theorem depthAll_cons : PyData.depthAll (d :: x) = max d.depth (PyData.depthAll x) := by simp only [PyData.depthAll]
@[simp] theorem eqW_int : eqW (.int i) (.int j) k = k (.bool (decide (i = j))) := by simp [eqW]
@[simp] theorem neW_int : neW (.int i) (.int j) k = k (.bool (!decide (i = j))) := by simp [neW]
@[simp] theorem eqW_bool : eqW (.bool b) (.bool c) k = k (.bool (decide (b = c))) := by simp [eqW]
@[simp] theorem neW_bool : neW (.bool b) (.bool c) k = k (.bool (!decide (b = c))) := by simp [neW]
@[simp] theorem eqW_str : eqW (.str s) (.str t) k = k (.bool (decide (s = t))) := by simp [eqW]
@[simp] theorem neW_str : neW (.str s) (.str t) k = k (.bool (!decide (s = t))) := by simp [neW]
theorem eqW_tu {a b : List Int} : eqW (tu a) (tu b) k = k (.bool (decide (a = b))) := by
  unfold eqW
  rw [eqv_tu, depth_tu, depth_tu]
  simp
theorem neW_tu {a b : List Int} : neW (tu a) (tu b) k = k (.bool (!decide (a = b))) := by
  unfold neW
  rw [eqv_tu, depth_tu, depth_tu]
  simp
theorem eqvAll_nil : PyData.eqvAll x [] = decide (x = []) := by cases x <;> simp [PyData.eqvAll]
@[simp] theorem neW_tuple_nil : neW (.tuple x) (.tuple []) k = k (.bool (!decide (x = []))) := by
  unfold neW
  simp [PyData.eqv, eqvAll_nil]
@[simp] theorem neW_list_nil : neW (.list x) (.list []) k = k (.bool (!decide (x = []))) := by
  unfold neW
  simp [PyData.eqv, eqvAll_nil]
@[simp] theorem eqW_tuple_nil : eqW (.tuple x) (.tuple []) k = k (.bool (decide (x = []))) := by
  unfold eqW
  simp [PyData.eqv, eqvAll_nil]
@[simp] theorem eqW_list_nil : eqW (.list x) (.list []) k = k (.bool (decide (x = []))) := by
  unfold eqW
  simp [PyData.eqv, eqvAll_nil]
/-! places -/
theorem atI_nat {α : Type} {l : List α} {n : Nat} : atI l (n : Int) = l[n]? := by
  unfold atI ixN
  by_cases h : n < l.length
  · have h1 : ¬ ((n : Int) < 0) := by omega
    have h2 : (n : Int) < l.length := by omega
    simp [h1, h2]
  · have h1 : ¬ ((n : Int) < 0) := by omega
    have h2 : ¬ ((n : Int) < l.length) := by omega
    simp [h1, h2]
    omega
theorem atW_nat {n : Nat} (h : x[n]? = some d) (hk : k d) : atW x (n : Int) k := by
  unfold atW
  rw [atI_nat, h]
  exact hk
theorem atW_int {n : Int} (h0 : 0 ≤ n) (h : x[n.toNat]? = some d) (hk : k d) : atW x n k := by
  obtain ⟨m, rfl⟩ := Int.eq_ofNat_of_zero_le h0
  exact atW_nat h hk
theorem atW_zero (h : x[0]? = some d) (hk : k d) : atW x 0 k := atW_nat (n := 0) h hk
theorem atW_last {y : List D} (hk : k d) : atW (y ++ [d]) (-1) k := by
  have e : atI (y ++ [d]) (-1) = some d := by
    unfold atI ixN
    have hn : (y ++ [d]).length = y.length + 1 := by simp
    rw [hn, if_neg (by decide), if_pos (by omega), Option.bind_some]
    have h1 : (-1 + ((y.length + 1 : Nat) : Int)).toNat = y.length := by omega
    rw [h1]
    simp
  unfold atW
  rw [e]
  exact hk
/-! loops -/
theorem for_inv {S : Type} {body : D → S → (S → Prop) → (S → Prop) → Prop} {k : S → Prop} (I : Nat → S → Prop) : ∀ {xs : List D} {s : S}, I 0 s → (∀ i x s nx, xs[i]? = some x → I i s → (∀ t, I (i + 1) t → nx t) → body x s nx k) → (∀ s, I xs.length s → k s) → forW body k xs s := by
  intro xs
  induction xs generalizing I with
  | nil => exact fun h0 _ hk => hk _ h0
  | cons x xs ih =>
    intro s h0 hs hk
    exact hs 0 x s _ rfl h0 fun t ht => ih (fun i => I (i + 1)) ht (fun i y s nx hy hI hn => hs (i + 1) y s nx (by simpa using hy) hI hn) fun s h => hk s h
theorem while_inv {S : Type} {c : S → (Bool → Prop) → Prop} {body : S → (S → Prop) → (S → Prop) → Prop} {k : S → Prop} (I : Nat → S → Prop) {m : Nat} {s : S} (h0 : I m s) (hs : ∀ m s (nx : S → Prop), I m s → (∀ t m', m' < m → I m' t → nx t) → c s fun b => if b = true then body s nx k else k s) : whileW c body k s := by
  have key : ∀ n m s, m < n → I m s → whileN c body k n s := by
    intro n
    induction n with
    | zero => exact fun m s h => absurd h (Nat.not_lt_zero _)
    | succ n ih =>
      intro m s hm hI
      exact hs m s _ hI fun t m' h1 h2 => ih m' t (by omega) h2
  exact ⟨m + 1, key _ m s (Nat.lt_succ_self m) h0⟩
theorem lc_map {body : D → Kt → Prop → Prop} {k : List D → Prop} (f : D → D) : ∀ {xs acc : List D}, (∀ x ∈ xs, ∀ e s, e (f x) → body x e s) → acc.length + xs.length ≤ most → k (acc ++ xs.map f) → lcW body k xs acc
  | [], acc, _, _, hk => by simpa [lcW] using hk
  | x :: xs, acc, hb, hl, hk => by
    simp only [List.length_cons] at hl
    refine hb x List.mem_cons_self _ _ ⟨by omega, lc_map f (fun y hy => hb y (List.mem_cons_of_mem _ hy)) (by simp; omega) (by simpa using hk)⟩
theorem lc_filter {body : D → Kt → Prop → Prop} {k : List D → Prop} (p : D → Bool) (f : D → D) : ∀ {xs acc : List D}, (∀ x ∈ xs, ∀ (e : Kt) (s : Prop), (if p x = true then e (f x) else s) → body x e s) → acc.length + xs.length ≤ most → k (acc ++ (xs.filter p).map f) → lcW body k xs acc
  | [], acc, _, _, hk => by simpa [lcW] using hk
  | x :: xs, acc, hb, hl, hk => by
    simp only [List.length_cons] at hl
    refine hb x List.mem_cons_self _ _ ?_
    cases hp : p x with
    | true =>
      rw [if_pos rfl]
      exact ⟨by omega, lc_filter p f (fun y hy => hb y (List.mem_cons_of_mem _ hy)) (by simp; omega) (by simpa [hp] using hk)⟩
    | false =>
      rw [if_neg Bool.false_ne_true]
      exact lc_filter p f (fun y hy => hb y (List.mem_cons_of_mem _ hy)) (by omega) (by simpa [hp] using hk)
theorem lc_any {body : D → Kt → Prop → Prop} {k : List D → Prop} (P : D → Prop) : ∀ {xs acc : List D}, (∀ x ∈ xs, ∀ (e : Kt) (s : Prop), (∀ y, P y → e y) → body x e s) → acc.length + xs.length ≤ most → (∀ ys : List D, ys.length = xs.length → (∀ y ∈ ys, P y) → k (acc ++ ys)) → lcW body k xs acc
  | [], acc, _, _, hk => by simpa [lcW] using hk [] rfl (fun _ h => nomatch h)
  | x :: xs, acc, hb, hl, hk => by
    simp only [List.length_cons] at hl
    refine hb x List.mem_cons_self _ _ fun y hy => ⟨by omega, lc_any P (fun z hz => hb z (List.mem_cons_of_mem _ hz)) (by simp; omega) fun ys h1 h2 => ?_⟩
    rw [List.append_assoc]
    exact hk (y :: ys) (by simp [h1]) fun z hz => by
      rcases List.mem_cons.mp hz with rfl | hz
      · exact hy
      · exact h2 z hz
theorem gx_all {body : D → Kt → Prop → Prop} {k : Kt} (p : D → Bool) : ∀ {xs : List D}, (∀ x ∈ xs, ∀ (e : Kt) (s : Prop), e (.bool (p x)) → body x e s) → k (.bool (xs.all p)) → gxW false body k xs
  | [], _, hk => hk
  | x :: xs, hb, hk => by
    refine hb x List.mem_cons_self _ _ ?_
    show if p x = false then k (.bool false) else gxW false body k xs
    cases hp : p x with
    | true =>
      rw [if_neg (by simp)]
      exact gx_all p (fun y hy => hb y (List.mem_cons_of_mem _ hy)) (by simpa [hp] using hk)
    | false =>
      rw [if_pos rfl]
      simpa [hp] using hk
theorem gx_any {body : D → Kt → Prop → Prop} {k : Kt} (p : D → Bool) : ∀ {xs : List D}, (∀ x ∈ xs, ∀ (e : Kt) (s : Prop), e (.bool (p x)) → body x e s) → k (.bool (xs.any p)) → gxW true body k xs
  | [], _, hk => hk
  | x :: xs, hb, hk => by
    refine hb x List.mem_cons_self _ _ ?_
    show if p x = true then k (.bool true) else gxW true body k xs
    cases hp : p x with
    | true =>
      rw [if_pos rfl]
      simpa [hp] using hk
    | false =>
      rw [if_neg (by simp)]
      exact gx_any p (fun y hy => hb y (List.mem_cons_of_mem _ hy)) (by simpa [hp] using hk)
/-! range -/
theorem rngD_map {lo : Int} {n : Nat} : rngD lo n = ((List.range n).map fun i => lo + (i : Nat)).map .int := by
  unfold rngD
  rw [List.map_map]
  rfl
@[simp] theorem rngD_length {lo : Int} {n : Nat} : (rngD lo n).length = n := by simp [rngD]
theorem rngD_mem {lo : Int} {n : Nat} (h : d ∈ rngD lo n) : ∃ m : Nat, m < n ∧ d = .int (lo + m) := by
  unfold rngD at h
  simp only [List.mem_map, List.mem_range] at h
  obtain ⟨m, h1, rfl⟩ := h
  exact ⟨m, h1, rfl⟩
theorem rngD_at {lo : Int} {n m : Nat} (h : (rngD lo n)[m]? = some d) : m < n ∧ d = .int (lo + m) := by
  unfold rngD at h
  rw [List.getElem?_map] at h
  by_cases hm : m < n
  · rw [List.getElem?_range hm] at h
    cases h
    exact ⟨hm, rfl⟩
  · rw [List.getElem?_eq_none (by simpa using hm)] at h
    cases h
theorem ints_at {ns : List Int} {m : Nat} (h : (ns.map PyData.int)[m]? = some d) : ∃ n, ns[m]? = some n ∧ d = .int n := by
  rw [List.getElem?_map] at h
  cases e : ns[m]? with
  | none => rw [e] at h; cases h
  | some n => rw [e] at h; cases h; exact ⟨n, rfl, rfl⟩
/-! data that are the same -/
def Sm : Nat → D → Prop
  | 0, _ => False
  | _ + 1, .dict _ => False
  | n + 1, .list l => l.length ≤ most ∧ ∀ x ∈ l, Sm n x
  | n + 1, .tuple l => l.length ≤ most ∧ ∀ x ∈ l, Sm n x
  | _ + 1, _ => True
end
end MW
namespace MW
open PySem L2 PySem.W PyProof.Rows
/-! more -/
theorem boolsOf_pred {α : Type} {p : α → Bool} (xs : List α) : boolsOf (xs.map fun x => .bool (p x)) = some (xs.map p) := by
  rw [show (xs.map fun x => PyData.bool (p x)) = (xs.map p).map .bool by rw [List.map_map]; rfl]
  exact boolsOf_map _
theorem allW_map {α : Type} {k : Kt} {xs : List α} {p : α → Bool} : allW (xs.map fun x => .bool (p x)) k = k (.bool (xs.all p)) := by
  unfold allW
  rw [boolsOf_pred]
  simp
theorem anyW_map {α : Type} {k : Kt} {xs : List α} {p : α → Bool} : anyW (xs.map fun x => .bool (p x)) k = k (.bool (xs.any p)) := by
  unfold anyW
  rw [boolsOf_pred]
  simp
theorem minD_eq {g : D} : ∀ {xs : List D} {x : D}, g ∈ x :: xs → (∀ y ∈ x :: xs, y ≠ g → dataLt g y = true) → (∀ y ∈ x :: xs, dataLt y g = false) → minD x xs = g
  | [], x, hm, _, _ => by simpa [minD] using (by simpa using hm : g = x).symm
  | y :: xs, x, hm, h1, h2 => by
    have e : minD x (y :: xs) = minD (if dataLt y x then y else x) xs := rfl
    rw [e]
    have sub : ∀ {z}, z ∈ (if dataLt y x = true then y else x) :: xs → z ∈ x :: y :: xs := fun {z} hz => by
      rcases List.mem_cons.mp hz with rfl | hz
      · split
        · exact List.mem_cons_of_mem _ List.mem_cons_self
        · exact List.mem_cons_self
      · exact List.mem_cons_of_mem _ (List.mem_cons_of_mem _ hz)
    refine minD_eq ?_ (fun z hz => h1 z (sub hz)) (fun z hz => h2 z (sub hz))
    by_cases hx : x = g
    · subst hx
      rw [h2 y (List.mem_cons_of_mem _ List.mem_cons_self)]
      exact List.mem_cons_self
    · by_cases hy : y = g
      · subst hy
        rw [h1 x List.mem_cons_self hx]
        exact List.mem_cons_self
      · have : g ∈ xs := by
          rcases List.mem_cons.mp hm with z | z
          · exact absurd z.symm hx
          · rcases List.mem_cons.mp z with z | z
            · exact absurd z.symm hy
            · exact z
        exact List.mem_cons_of_mem _ this
theorem dataLt_self' (d : D) : dataLt d d = false := lex_irrefl _
theorem dataLt_asymm {d e : D} (h : dataLt d e = true) : dataLt e d = false := by
  cases h2 : dataLt e d with
  | false => rfl
  | true =>
    have := lex_trans _ _ _ h h2
    rw [lex_irrefl] at this
    cases this
/-- rows of ints of one length -/
theorem dataLt_ints : ∀ {a b : List Int}, a.length = b.length → a ≠ b → (∀ (i : Nat) x y, a[i]? = some x → b[i]? = some y → x ≤ y) → dataLt (tu a) (tu b) = true := by
  intro a b hl hn hp
  unfold tu
  rw [dataLt_tuple]
  induction a generalizing b with
  | nil => cases b with
    | nil => exact absurd rfl hn
    | cons _ _ => simp at hl
  | cons x a ih => cases b with
    | nil => simp at hl
    | cons y b =>
      have hxy := hp 0 x y rfl rfl
      have al : alike (.int x) (.int y) = true := by simp only [alike]
      rw [List.map_cons, List.map_cons]
      by_cases e : x = y
      · subst e
        rw [dataLt_all_yes al (by simp)]
        exact ih (by simpa using hl) (fun z => hn (by rw [z])) fun i u v h1 h2 => hp (i + 1) u v (by simpa using h1) (by simpa using h2)
      · rw [dataLt_all_no al (by simp [e]), dataLt_int]
        exact decide_eq_true (by omega)
theorem alikeAll_ints : ∀ (a b : List Int), alikeAll (a.map .int) (b.map .int) = true
  | [], _ => by cases ‹List Int› <;> simp [alikeAll]
  | _ :: _, [] => by simp [alikeAll]
  | x :: a, y :: b => by simp only [List.map_cons, alikeAll, alike, alikeAll_ints a b, Bool.and_self]
theorem alike_tus {l : List (List Int)} : AlikeAll (l.map tu) := by
  refine ⟨fun x hx y hy => ?_, fun x hx => ?_⟩
  · obtain ⟨a, _, rfl⟩ := List.mem_map.mp hx
    obtain ⟨b, _, rfl⟩ := List.mem_map.mp hy
    unfold tu
    simp only [alike]
    exact alikeAll_ints a b
  · obtain ⟨a, _, rfl⟩ := List.mem_map.mp hx
    exact fun z => nomatch z
theorem depth_tus : ∀ (l : List (List Int)), PyData.depthAll (l.map tu) ≤ 1
  | [] => by simp
  | a :: l => by
    rw [List.map_cons, depthAll_cons, depth_tu]
    have := depth_tus l
    omega
theorem cutD_to {l : List D} {n : Nat} : cutD l none (some (n : Int)) = l.take n := by
  unfold cutD
  rw [HT.sIx_none, HT.sIx_nat, List.drop_zero, Nat.sub_zero]
  by_cases h : n ≤ l.length
  · rw [Nat.min_eq_left h]
  · rw [Nat.min_eq_right (by omega), List.take_length, List.take_of_length_le (by omega)]
theorem cutD_from {l : List D} {n : Nat} : cutD l (some (n : Int)) none = l.drop n := by
  unfold cutD
  rw [HT.sIx_none, HT.sIx_nat]
  by_cases h : n ≤ l.length
  · rw [Nat.min_eq_left h]
    exact List.take_of_length_le (by simp)
  · rw [Nat.min_eq_right (by omega), List.drop_length, List.drop_eq_nil_of_le (by omega)]
    simp
theorem pow_28 {k : Kt} (h : k (.int (10 ^ 28))) : powW (.int 10) (.int 28) k := ⟨⟨by decide, by decide, by decide⟩, h⟩
theorem pow_24 {k : Kt} (h : k (.int (10 ^ 24))) : powW (.int 10) (.int 24) k := ⟨⟨by decide, by decide, by decide⟩, h⟩
theorem pow_18 {k : Kt} (h : k (.int (10 ^ 18))) : powW (.int 10) (.int 18) k := ⟨⟨by decide, by decide, by decide⟩, h⟩
theorem mul_small {k : Kt} {i j : Int} {m n : Nat} (hi : 0 ≤ i) (hj : 0 ≤ j) (h1 : i < 2 ^ m) (h2 : j < 2 ^ n) (h0 : 0 < m) (h3 : 0 < n) (h : m + n ≤ 1000000) (hk : k (.int (i * j))) : mulW (.int i) (.int j) k := ⟨DW.small_mul hi hj h1 h2 h0 h3 h, hk⟩
theorem mod_pos {k : Kt} {i j : Int} (h : 0 < j) (hk : ∀ r : Int, 0 ≤ r → r < j → r = i % j → k (.int r)) : modW (.int i) (.int j) k := ⟨h, hk _ (Int.emod_nonneg _ (by omega)) (Int.emod_lt_of_pos _ h) rfl⟩
theorem iteV_inv {α : Type} {b : Bool} {T U : (α → Prop) → Prop} {k : α → Prop} (P : α → Prop) (hT : b = true → ∀ kk, (∀ s, P s → kk s) → T kk) (hU : b = false → ∀ kk, (∀ s, P s → kk s) → U kk) (hk : ∀ s, P s → k s) : iteV b T U k := by
  cases b with
  | true => exact hT rfl k hk
  | false => exact hU rfl k hk
/-! texts of data -/
mutual
def small : D → Bool
  | .none | .bool _ => true
  | .int i => decide (-100000000000 ≤ i) && decide (i ≤ 100000000000)
  | .str _ => false
  | .list xs | .tuple xs => smallAll xs
  | .dict _ => false
def smallAll : List D → Bool
  | [] => true
  | x :: xs => small x && smallAll xs
end
mutual
theorem small_ok : ∀ d : D, small d = true → d.showable = true ∧ d.leavesShort 13 = true
  | .none, _ => ⟨by simp only [PyData.showable], by simp only [PyData.leavesShort]⟩
  | .bool _, _ => ⟨by simp only [PyData.showable], by simp only [PyData.leavesShort]⟩
  | .int i, h => by
    simp only [small, Bool.and_eq_true, decide_eq_true_eq] at h
    refine ⟨?_, ?_⟩
    · simp only [PyData.showable, decide_eq_true_eq]
      by_cases z : i.natAbs = 0
      · rw [z]; decide
      · have : i.natAbs < 2 ^ 1920 := Nat.lt_of_lt_of_le (show i.natAbs < 2 ^ 40 by omega) (Nat.pow_le_pow_right (by decide) (by decide))
        exact (Nat.log2_lt z).mpr this
    · simp only [PyData.leavesShort, decide_eq_true_eq]
      exact PyData.shown_int_le2 (by omega) (by omega)
  | .list xs, h => by
    have := smalls_ok xs (by simpa only [small] using h)
    exact ⟨by simpa only [PyData.showable] using this.1, by simpa only [PyData.leavesShort] using this.2⟩
  | .tuple xs, h => by
    have := smalls_ok xs (by simpa only [small] using h)
    exact ⟨by simpa only [PyData.showable] using this.1, by simpa only [PyData.leavesShort] using this.2⟩
theorem smalls_ok : ∀ xs : List D, smallAll xs = true → PyData.showableAll xs = true ∧ PyData.leavesShortAll 13 xs = true
  | [], _ => ⟨by simp only [PyData.showableAll], by simp only [PyData.leavesShortAll]⟩
  | x :: xs, h => by
    simp only [smallAll, Bool.and_eq_true] at h
    have h1 := small_ok x h.1
    have h2 := smalls_ok xs h.2
    exact ⟨by simp only [PyData.showableAll, h1.1, h2.1, Bool.and_self], by simp only [PyData.leavesShortAll, h1.2, h2.2, Bool.and_self]⟩
end
theorem repr_ok {d : D} {k : Kt} (h0 : match d with | .list _ => True | .tuple _ => True | _ => False) (h1 : small d = true) (h2 : d.depth ≤ 60) (h3 : d.bulk ≤ 2 ^ 20) (hk : k (.str d.shown)) : DW.reprW d k := by
  obtain ⟨q1, q2⟩ := small_ok d h1
  have := PyData.shown_fits_bulk (by decide) (by decide) q2 h3
  rw [sizeLine_eq] at this
  exact ⟨h0, q1, h2, this, hk⟩
theorem smalls_ints : ∀ {ns : List Int}, (∀ x ∈ ns, -100000000000 ≤ x ∧ x ≤ 100000000000) → smallAll (ns.map .int) = true
  | [], _ => by simp [smallAll]
  | x :: ns, h => by
    obtain ⟨h1, h2⟩ := h x List.mem_cons_self
    simp only [List.map_cons, smallAll, small, smalls_ints fun y hy => h y (List.mem_cons_of_mem _ hy), h1, h2, decide_true, Bool.and_self]
theorem bulkAll_ints : ∀ ns : List Int, PyData.bulkAll (ns.map .int) = ns.length
  | [] => by simp [PyData.bulkAll]
  | x :: ns => by simp only [List.map_cons, PyData.bulkAll, PyData.bulk, bulkAll_ints ns, List.length_cons]; omega
@[simp] theorem small_tuple {l : List D} : small (.tuple l) = smallAll l := by simp only [small]
@[simp] theorem small_list {l : List D} : small (.list l) = smallAll l := by simp only [small]
@[simp] theorem smallAll_cons {d : D} {l : List D} : smallAll (d :: l) = (small d && smallAll l) := by simp only [smallAll]
@[simp] theorem smallAll_nil : smallAll [] = true := by simp only [smallAll]
@[simp] theorem bulk_tuple {l : List D} : (PyData.tuple l).bulk = PyData.bulkAll l := by simp only [PyData.bulk]
@[simp] theorem bulk_list {l : List D} : (PyData.list l).bulk = PyData.bulkAll l := by simp only [PyData.bulk]
@[simp] theorem bulkAll_cons {d : D} {l : List D} : PyData.bulkAll (d :: l) = d.bulk + 1 + PyData.bulkAll l := by simp only [PyData.bulkAll]
@[simp] theorem bulkAll_nil : PyData.bulkAll [] = 0 := by simp only [PyData.bulkAll]
end MW

set_option maxHeartbeats 4000001
namespace K01
open PySem PySem.Spec PyProof.Rows L2 DW MG MR MW GX
def m_is_integer (value : D) (r : Kt) : Prop := isiW value "int" (fun x1 => bW x1 fun b4 => andV b4 (fun k5 => isiW value "bool" (fun x2 => notW x2 (fun x3 => k5 x3))) fun x6 => r x6)
def m_is_natural (value : D) (r : Kt) : Prop := m_is_integer value (fun x1 => bW x1 fun b3 => andV b3 (fun k4 => geW value (.int 0) (fun x2 => k4 x2)) fun x5 => r x5)
def m_is_below (value many : D) (r : Kt) : Prop := m_is_natural value (fun x1 => bW x1 fun b3 => andV b3 (fun k4 => ltW value many (fun x2 => k4 x2)) fun x5 => r x5)
def m_is_letters (k_ value : D) (r : Kt) : Prop := isiW value "tuple" (fun x1 => bW x1 fun b8 => andV b8 (fun k9 => seqW value fun it2 => gxW false (fun y3 e4 z5 => m_is_below y3 k_ (fun x6 => e4 x6)) (fun x7 => k9 x7) it2) fun x10 => r x10)
def m_is_word_of (k_ told : D) (r : Kt) : Prop := m_is_letters k_ told (fun x1 => r x1)
def m_check_word (k_ word : D) (r : Kt) : Prop := m_is_word_of k_ word (fun x1 => bW x1 fun b2 => if (!b2) = true then False else r .none)
def m_found_in (one other : D) (r : Kt) : Prop := seqW one fun it7 => forW (S := List D × D) (fun letter6 s3 nx4 bk5 => whileW (S := D) (fun s8 k25 => lenW other (fun x17 => ltW s8 x17 (fun x18 => bW x18 fun b19 => andB b19 (fun k23 => ixW other s8 (fun x20 => neW x20 letter6 (fun x21 => bW x21 fun b22 => k23 b22))) fun b24 => k25 b24))) (fun s8 nx9 bk10 => iopW (fun i j => i + j) s8 (.int 1) fun at_26 => nx9 at_26) (fun s8 => lenW other (fun x12 => eqW s8 x12 (fun x13 => bW x13 fun b14 => if b14 = true then r .none else apW s3.1 s8 fun found15 => iopW (fun i j => i + j) s8 (.int 1) fun at_16 => nx4 (found15, at_16)))) s3.2) (fun s3 => r (.tuple s3.1)) it7 ([], (.int 0))
def m_strewn_in (one other : D) (r : Kt) : Prop := m_found_in one other (fun x1 => notNW x1 (fun x2 => r x2))
def m_is_strewn (one other : D) (r : Kt) : Prop := m_check_word (.int 3) one (fun x1 => m_check_word (.int 3) other (fun x2 => m_strewn_in one other (fun x3 => r x3)))
def m_places_in (one other : D) (r : Kt) : Prop := m_check_word (.int 3) one (fun x1 => m_check_word (.int 3) other (fun x2 => m_found_in one other (fun x3 => r x3)))
def m__law_well (script at_ : D) (r : List D → Prop) : Prop := cutW script none (some 63) (fun x2 => lenW x2 (fun x3 => addW (.int 7) x3 (fun x4 => letW x4 fun mixed5 => cutW script none (some 63) (fun x34 => seqW x34 fun it32 => forW (S := D) (fun cell9 s6 nx7 bk8 => mulW s6 (.int 1103515245) (fun x35 => intW cell9 (fun x36 => powW (.int 10) (.int 24) (fun x37 => addW x37 (.int 7) (fun x38 => modW x36 x38 (fun x39 => addW x35 x39 (fun x40 => addW x40 (.int 5) (fun x41 => intW x41 (fun x42 => powW (.int 10) (.int 28) (fun x43 => addW x43 (.int 331) (fun x44 => modW x42 x44 (fun x45 => letW x45 fun mixed46 => nx7 mixed46)))))))))))) (fun s6 => mulW s6 (.int 131) (fun x10 => mulW at_ (.int 104729) (fun x11 => addW x10 x11 (fun x12 => addW x12 (.int 29) (fun x13 => intW x13 (fun x14 => powW (.int 10) (.int 28) (fun x15 => addW x15 (.int 331) (fun x16 => modW x14 x16 (fun x17 => letW x17 fun mixed18 => letW (.int 0) fun digits19 => lenW script (fun x20 => ltW at_ x20 (fun x21 => bW x21 fun b22 => iteV (α := D) b22 (fun k23 => ixW script at_ (fun x25 => intW x25 (fun x26 => absW x26 (fun x27 => powW (.int 10) (.int 18) (fun x28 => subW x27 x28 (fun x29 => max2W (.int 0) x29 (fun x30 => letW x30 fun digits31 => k23 digits31))))))) (fun k23 => k23 digits19) fun s24 => r [s24, mixed18]))))))))))) it32 mixed5))))
def m__law_same : Nat → D → D → (Kt) → Prop
  | 0, _, _, _ => False
  | n + 1, told, due, r => isNW due (fun x1 => bW x1 fun b2 => if b2 = true then isNW told (fun x3 => r x3) else isiW due "bool" (fun x4 => bW x4 fun b5 => if b5 = true then bW due fun b6 => iteV b6 (fun k10 => isBW told true (fun x7 => k10 x7)) (fun k10 => isBW told false (fun x8 => k10 x8)) fun x11 => r x11 else isiW due "int" (fun x12 => bW x12 fun b13 => if b13 = true then isiW told "int" (fun x14 => bW x14 fun b21 => andV b21 (fun k22 => isiW told "bool" (fun x15 => notW x15 (fun x16 => bW x16 fun b18 => andV b18 (fun k19 => eqW told due (fun x17 => k19 x17)) fun x20 => k22 x20))) fun x23 => r x23) else isiW due "str" (fun x24 => bW x24 fun b25 => if b25 = true then isiW told "str" (fun x26 => bW x26 fun b28 => andV b28 (fun k29 => eqW told due (fun x27 => k29 x27)) fun x30 => r x30) else isiW due "tuple" (fun x31 => isiW told "tuple" (fun x32 => neW x31 x32 (fun x33 => bW x33 fun b34 => orB b34 (fun k39 => isiW due "list" (fun x35 => isiW told "list" (fun x36 => neW x35 x36 (fun x37 => bW x37 fun b38 => k39 b38)))) fun b40 => if b40 = true then r (.bool false) else lenW told (fun x41 => lenW due (fun x42 => eqW x41 x42 (fun x43 => bW x43 fun b54 => andV b54 (fun k55 => lenW due (fun x45 => rng1W x45 fun it44 => lcW (fun y46 e47 z48 => ixW told y46 (fun x50 => ixW due y46 (fun x51 => m__law_same n x50 x51 (fun x49 => e47 x49)))) (fun l52 => allW l52 (fun x53 => k55 x53)) it44 [])) fun x56 => r x56))))))))))
def m__law_word (k_ most : D) (r : Kt) : Prop := addW most (.int 1) (fun x3 => m__law_take x3 (fun x2 => rng1W x2 fun it1 => lcW (fun y4 e5 z6 => m__law_take k_ (fun x7 => e5 x7)) (fun l8 => r (.tuple l8)) it1 []))
def m__law_left (word : D) (r : Kt) : Prop := letW [] fun found1 => seqW word fun it18 => forW (S := List D) (fun letter5 s2 nx3 bk4 => m__law_take (.int 3) (fun x19 => gtW x19 (.int 0) (fun x20 => bW x20 fun b21 => iteV (α := List D) b21 (fun k22 => apW s2 letter5 fun found24 => k22 found24) (fun k22 => k22 s2) fun s23 => nx3 s23))) (fun s2 => neW (.list s2) (.list []) (fun x6 => bW x6 fun b7 => andB b7 (fun k11 => m__law_take (.int 4) (fun x8 => eqW x8 (.int 0) (fun x9 => bW x9 fun b10 => k11 b10))) fun b12 => iteV (α := List D) b12 (fun k13 => lenW (.list s2) (fun x16 => m__law_take x16 (fun x15 => stW s2 x15 (.int 0) fun found17 => k13 found17))) (fun k13 => k13 s2) fun s14 => r (.tuple s14))) it18 found1
def m__law_first (one other : D) (r : Kt) : Prop := letW (.list [(.tuple [])]) fun rows1 => seqW one fun it12 => forW (S := D) (fun letter5 s2 nx3 bk4 => letW [] fun longer13 => seqW s2 fun it19 => forW (S := List D) (fun row17 s14 nx15 bk16 => neW row17 (.tuple []) (fun x20 => bW x20 fun b21 => iteV b21 (fun k26 => negW (.int 1) (fun x22 => ixW row17 x22 (fun x23 => addW x23 (.int 1) (fun x24 => k26 x24)))) (fun k26 => k26 (.int 0)) fun x27 => letW x27 fun begin28 => lenW other (fun x31 => rng2W begin28 x31 fun it30 => lcW (fun y32 e33 z34 => ixW other y32 (fun x35 => eqW x35 letter5 (fun x36 => bW x36 fun b37 => if b37 = true then addW row17 (.tuple [y32]) (fun x39 => e33 x39) else z34))) (fun l41 => exW s14 l41 fun longer29 => nx15 longer29) it30 []))) (fun s14 => letW (.list s14) fun rows18 => nx3 rows18) it19 longer13) (fun s2 => neW s2 (.list []) (fun x6 => bW x6 fun b7 => iteV b7 (fun k10 => minTW s2 (fun x8 => k10 x8)) (fun k10 => k10 .none) fun x11 => r x11)) it12 rows1
def m__law_right (one other : D) (r : Kt) : Prop := m__law_first one other (fun x1 => letW x1 fun due2 => m_is_strewn one other (fun x3 => m_is_strewn one other (fun x4 => m_places_in one other (fun x5 => m_places_in one other (fun x6 => letW (.list [x3, x4, x5, x6]) fun told7 => notNW due2 (fun x9 => notNW due2 (fun x10 => m__law_same 9 told7 (.list [x9, x10, due2, due2]) (fun x8 => bW x8 fun b11 => if (!b11) = true then r (.bool false) else eqW one other (fun x12 => bW x12 fun b19 => orV b19 (fun k20 => isNW due2 (fun x13 => bW x13 fun b16 => orV b16 (fun k17 => m_is_strewn other one (fun x14 => isBW x14 false (fun x15 => k17 x15))) fun x18 => k20 x18)) fun x21 => r x21)))))))))
def m__law_is_long_right (r : Kt) : Prop := m__law_take (.int 3) (fun x1 => addW (.int 1) x1 (fun x2 => m__law_take (.int 3) (fun x7 => letW x7 fun sort8 => m__law_take (.int 30) (fun x91 => addW (.int 10) x91 (fun x92 => rng1W x92 fun it90 => forW (S := List D) (fun step_12 s9 nx10 bk11 => gtW sort8 (.int 0) (fun x94 => bW x94 fun b95 => orB b95 (fun k99 => m__law_take (.int 6) (fun x96 => eqW x96 (.int 0) (fun x97 => bW x97 fun b98 => k99 b98))) fun b100 => iteV b100 (fun k103 => m__law_take x2 (fun x101 => k103 x101)) (fun k103 => k103 (.int 0)) fun x104 => apW s9 x104 fun other93 => nx10 other93)) (fun s9 => seqW (.list s9) fun it83 => forW (S := List D) (fun letter16 s13 nx14 bk15 => m__law_take (.int 2) (fun x84 => eqW x84 (.int 0) (fun x85 => bW x85 fun b86 => iteV (α := List D) b86 (fun k87 => apW s13 letter16 fun one89 => k87 one89) (fun k87 => k87 s13) fun s88 => nx14 s88))) (fun s13 => eqW sort8 (.int 2) (fun x17 => bW x17 fun b18 => andB b18 (fun k21 => neW (.list s13) (.list []) (fun x19 => bW x19 fun b20 => k21 b20)) fun b22 => iteV (α := List D) b22 (fun k23 => m__law_take x2 (fun x79 => lenW (.list s13) (fun x80 => subW x80 (.int 1) (fun x81 => stW s13 x81 x79 fun one82 => k23 one82)))) (fun k23 => k23 s13) fun s24 => tupW (.list s9) (fun x26 => m_places_in (.tuple s24) x26 (fun x25 => seqW (.list s24) fun it51 => forW (S := D × D) (fun letter32 s29 nx30 bk31 => notNW s29.1 (fun x52 => bW x52 fun b53 => iteV (α := D × D) b53 (fun k54 => lenW (.list s9) (fun x57 => rng2W s29.1 x57 fun it56 => lcW (fun y58 e59 z60 => ixW (.list s9) y58 (fun x61 => eqW x61 letter32 (fun x62 => bW x62 fun b63 => if b63 = true then e59 y58 else z60))) (fun l65 => letW (.list l65) fun ahead66 => cutW ahead66 none (some 1) (fun x68 => addW s29.2 x68 (fun x69 => neW ahead66 (.list []) (fun x71 => bW x71 fun b72 => iteV b72 (fun k76 => ixW ahead66 (.int 0) (fun x73 => addW x73 (.int 1) (fun x74 => k76 x74))) (fun k76 => k76 .none) fun x77 => k54 (x77, x69))))) it56 [])) (fun k54 => k54 (s29.1, s29.2)) fun s55 => nx30 (s55.1, s55.2))) (fun s29 => isNW s29.1 (fun x34 => bW x34 fun b35 => iteV b35 (fun k38 => k38 .none) (fun k38 => tupW s29.2 (fun x36 => k38 x36)) fun x39 => m__law_same 9 x25 x39 (fun x33 => bW x33 fun b40 => if (!b40) = true then r (.bool false) else tupW (.list s24) (fun x43 => tupW (.list s9) (fun x44 => m_is_strewn x43 x44 (fun x42 => tupW (.list s9) (fun x46 => addW x46 (.tuple [(.int 0)]) (fun x48 => tupW (.list s9) (fun x49 => m_is_strewn x48 x49 (fun x45 => notNW s29.1 (fun x50 => m__law_same 9 (.list [x42, x45]) (.list [x50, (.bool false)]) (fun x41 => r x41)))))))))))) it51 ((.int 0), (.list [])))))) it83 []) it90 [])))))
def m_law (script : D) (r : Kt) : Prop := lenW script (fun x6 => min2W (.int 2) x6 (fun x7 => max2W (.int 1) x7 (fun x8 => rng1W x8 fun it5 => forW (S := Unit) (fun at_4 s1 nx2 bk3 => m__law_well script at_4 (fun l9 => wellW WI l9 (rng1W (.int 8) fun it16 => forW (S := Unit) (fun turn13 s10 nx11 bk12 => m__law_take (.int 3) (fun x17 => addW (.int 1) x17 (fun x18 => letW x18 fun k_19 => m__law_word k_19 (.int 9) (fun x20 => letW x20 fun other21 => m__law_take (.int 3) (fun x22 => gtW x22 (.int 0) (fun x23 => bW x23 fun b24 => iteV b24 (fun k28 => m__law_left other21 (fun x25 => k28 x25)) (fun k28 => m__law_word k_19 (.int 6) (fun x26 => k28 x26)) fun x29 => letW x29 fun one30 => reprW (.list [one30, other21]) (fun x31 => letW x31 fun kept32 => m__law_right one30 other21 (fun x33 => bW x33 fun b34 => orB (!b34) (fun k45 => m__law_right other21 one30 (fun x35 => bW x35 fun b36 => orB (!b36) (fun k43 => m__law_right one30 one30 (fun x37 => bW x37 fun b38 => orB (!b38) (fun k41 => m__law_right (.tuple []) other21 (fun x39 => bW x39 fun b40 => k41 (!b40))) fun b42 => k43 b42)) fun b44 => k45 b44)) fun b46 => if b46 = true then r (.bool false) else addW other21 one30 (fun x48 => m_is_strewn one30 x48 (fun x47 => notBW x47 true (fun x49 => bW x49 fun b50 => orB b50 (fun k60 => addW one30 other21 (fun x52 => m_is_strewn one30 x52 (fun x51 => notBW x51 true (fun x53 => bW x53 fun b54 => orB b54 (fun k58 => reprW (.list [one30, other21]) (fun x55 => neW x55 kept32 (fun x56 => bW x56 fun b57 => k58 b57))) fun b59 => k60 b59)))) fun b61 => if b61 = true then r (.bool false) else nx11 ()))))))))))) (fun s10 => m__law_is_long_right  (fun x14 => bW x14 fun b15 => if (!b15) = true then r (.bool false) else nx2 ())) it16 ()))) (fun s1 => r (.bool true)) it5 ())))
end K01

set_option maxHeartbeats 2000001
namespace K01
open PySem L2 DW MW
section
variable {k : Kt} {i j : Int}
/-! words -/
def Wd (K : Int) (ns : List Int) : Prop := ∀ x ∈ ns, 0 ≤ x ∧ x < K
theorem is_integer_int : m_is_integer (.int i) k = k (.bool true) := by unfold m_is_integer; simp
theorem is_natural_int : m_is_natural (.int i) k = k (.bool (decide (i ≥ 0))) := by unfold m_is_natural; simp [is_integer_int]
theorem is_below_int : m_is_below (.int i) (.int j) k = k (.bool (decide (i ≥ 0) && decide (i < j))) := by
  unfold m_is_below
  simp only [is_natural_int, bW_bool, ltW_int, andV_b]
theorem is_letters_ok {K : Int} {ns : List Int} (h : Wd K ns) (hk : k (.bool true)) : m_is_letters (.int K) (tu ns) k := by
  unfold m_is_letters
  simp only [isi_tuple_tuple, bW_bool, andV_true, seqW_tuple]
  refine gx_all (fun _ => true) (fun x hx e s he => ?_) ?_
  · obtain ⟨n, hn, rfl⟩ := List.mem_map.mp hx
    obtain ⟨h1, h2⟩ := h n hn
    rw [is_below_int, decide_eq_true (show n ≥ 0 from h1), decide_eq_true h2]
    exact he
  · have e : (ns.map PyData.int).all (fun _ => true) = true := by simp [List.all_eq_true]
    rw [e]
    exact hk
theorem is_word_of_ok {K : Int} {ns : List Int} (h : Wd K ns) (hk : k (.bool true)) : m_is_word_of (.int K) (tu ns) k := is_letters_ok h hk
theorem check_word_ok {K : Int} {ns : List Int} (h : Wd K ns) (hk : k .none) : m_check_word (.int K) (tu ns) k := is_word_of_ok h (by simpa using hk)
/-! the first way in -/
/-- the first place from at on at which the letter stands, or the end -/
def nxt (l : Int) (o : List Int) (n : Nat) : Nat → Nat
  | 0 => n
  | m + 1 => if h : n < o.length then (if o[n] = l then n else nxt l o (n + 1) m) else n
def place (l : Int) (o : List Int) (n : Nat) : Nat := nxt l o n (o.length - n)
theorem place_spec (l : Int) (o : List Int) : ∀ (m n : Nat), o.length - n = m → n ≤ o.length → n ≤ nxt l o n m ∧ nxt l o n m ≤ o.length ∧ (∀ j, n ≤ j → j < nxt l o n m → o[j]? ≠ some l) ∧ (nxt l o n m < o.length → o[nxt l o n m]? = some l)
  | 0, n, hm, hn => ⟨Nat.le_refl _, hn, fun j h1 h2 => by simp only [nxt] at h2; omega, fun h => by simp only [nxt] at h; omega⟩
  | m + 1, n, hm, hn => by
    have hl : n < o.length := by omega
    unfold nxt
    rw [dif_pos hl]
    by_cases e : o[n] = l
    · rw [if_pos e]
      exact ⟨Nat.le_refl _, hn, fun j h1 h2 => by omega, fun _ => by rw [List.getElem?_eq_getElem hl, e]⟩
    · rw [if_neg e]
      obtain ⟨h1, h2, h3, h4⟩ := place_spec l o m (n + 1) (by omega) (by omega)
      refine ⟨by omega, h2, fun j g1 g2 => ?_, h4⟩
      by_cases hj : j = n
      · subst hj
        rw [List.getElem?_eq_getElem hl]
        exact fun z => e (Option.some.inj z)
      · exact h3 j (by omega) g2
def greedy : List Int → List Int → Nat → Option (List Nat)
  | [], _, _ => some []
  | l :: r, o, n => if place l o n < o.length then (greedy r o (place l o n + 1)).map (place l o n :: ·) else none
def out : Option (List Nat) → D
  | none => .none
  | some ps => .tuple (ps.map fun (p : Nat) => .int p)
theorem found_in_ok {a o : List Int} (hl : a.length ≤ 1000) (ho : o.length ≤ 1000) (hk : k (out (greedy a o 0))) : m_found_in (tu a) (tu o) k := by
  unfold m_found_in
  simp only [seqW_tuple]
  refine for_inv (I := fun i s => ∃ (ps : List Nat) (n : Nat), s = (ps.map fun (p : Nat) => .int p, .int n) ∧ n ≤ o.length ∧ ps.length = i ∧ greedy a o 0 = (greedy (a.drop i) o n).map (ps ++ ·)) ⟨[], 0, rfl, Nat.zero_le _, rfl, by simp⟩ (fun i x s nx hx hI hn => ?_) fun s hI => ?_
  · obtain ⟨ps, n, rfl, hno, hp, hg⟩ := hI
    obtain ⟨l, hl2, rfl⟩ := ints_at hx
    have hi : i < a.length := (List.getElem?_eq_some_iff.mp hl2).1
    have hd : a.drop i = l :: a.drop (i + 1) := by
      rw [List.drop_eq_getElem_cons hi]
      rw [List.getElem?_eq_getElem hi] at hl2
      rw [Option.some.inj hl2]
    obtain ⟨q1, q2, q3, q4⟩ := place_spec l o (o.length - n) n rfl hno
    refine while_inv (I := fun m s => ∃ j : Nat, s = .int j ∧ n ≤ j ∧ j ≤ place l o n ∧ m = o.length - j) (m := o.length - n) ⟨n, rfl, Nat.le_refl _, q1, rfl⟩ fun m s nx2 hJ hn2 => ?_
    obtain ⟨j, rfl, j1, j2, j3⟩ := hJ
    simp only [lenW_tuple, ltW_int, bW_bool, List.length_map]
    have q2' : place l o n ≤ o.length := q2
    refine andB_of (fun h => ?_) fun h => ?_
    · have hj : (j : Int) < o.length := of_decide_eq_true h
      have hj : j < o.length := by omega
      refine atW_nat (x := o.map .int) (d := .int o[j]) (by rw [List.getElem?_map, List.getElem?_eq_getElem hj]; rfl) ?_
      simp only [neW_int, bW_bool]
      by_cases e : o[j] = l
      · have hjp : j = place l o n := by
          have := q3 j j1
          rw [List.getElem?_eq_getElem hj, e] at this
          by_cases z : j < place l o n
          · exact absurd rfl (this z)
          · omega
        rw [decide_eq_true e]
        simp only [Bool.not_true, Bool.false_eq_true, if_false]
        have ne : ¬ ((j : Int) = (o.length : Int)) := by omega
        simp only [eqW_int, bW_bool, ne, decide_false, Bool.false_eq_true, if_false, apW_eq, iopW_int, List.length_map]
        refine ⟨by show ps.length < 16777216; omega, hn _ ⟨ps ++ [j], j + 1, by simp, by omega, by simp [hp], ?_⟩⟩
        rw [hg, hd]
        have hlt : place l o n < o.length := by omega
        simp only [greedy, if_pos hlt, Option.map_map]
        rw [hjp]
        congr 1
        funext z
        simp
      · rw [decide_eq_false e]
        simp only [Bool.not_false, if_true, iopW_int]
        refine hn2 _ (o.length - (j + 1)) (by omega) ⟨j + 1, by simp, by omega, ?_, rfl⟩
        by_cases z : j = place l o n
        · have := q4 (show nxt l o n (o.length - n) < o.length by have : nxt l o n (o.length - n) = place l o n := rfl; omega)
          rw [show nxt l o n (o.length - n) = j from z.symm, List.getElem?_eq_getElem hj] at this
          exact absurd (Option.some.inj this) e
        · omega
    · have hj : ¬ (j : Int) < o.length := of_decide_eq_false h
      have hjo : j = o.length := by omega
      have hpl : place l o n = o.length := by omega
      simp only [Bool.false_eq_true, if_false]
      have e2 : ((j : Nat) : Int) = (o.length : Nat) := by omega
      simp only [eqW_int, bW_bool, e2, decide_true, if_true]
      rw [hg, hd] at hk
      have hnl : ¬ place l o n < o.length := by omega
      simp only [greedy, if_neg hnl, Option.map_none] at hk
      exact hk
  · obtain ⟨ps, n, rfl, hno, hp, hg⟩ := hI
    rw [List.length_map] at hg
    rw [hg] at hk
    simpa [greedy, out] using hk
theorem strewn_in_ok {a o : List Int} (hl : a.length ≤ 1000) (ho : o.length ≤ 1000) (hk : k (.bool (greedy a o 0).isSome)) : m_strewn_in (tu a) (tu o) k := by
  unfold m_strewn_in
  refine found_in_ok hl ho ?_
  cases e : greedy a o 0 <;> simpa [e, out] using hk
theorem is_strewn_ok {a o : List Int} (wa : Wd 3 a) (wo : Wd 3 o) (hl : a.length ≤ 1000) (ho : o.length ≤ 1000) (hk : k (.bool (greedy a o 0).isSome)) : m_is_strewn (tu a) (tu o) k := check_word_ok wa (check_word_ok wo (strewn_in_ok hl ho hk))
theorem places_in_ok {a o : List Int} (wa : Wd 3 a) (wo : Wd 3 o) (hl : a.length ≤ 1000) (ho : o.length ≤ 1000) (hk : k (out (greedy a o 0))) : m_places_in (tu a) (tu o) k := check_word_ok wa (check_word_ok wo (found_in_ok hl ho hk))
/-! ways in -/
def Emb (o : List Int) : List Int → List Nat → Nat → Prop
  | [], [], _ => True
  | l :: a, p :: r, b => b ≤ p ∧ o[p]? = some l ∧ Emb o a r (p + 1)
  | _, _, _ => False
theorem emb_len {o : List Int} : ∀ {a : List Int} {r : List Nat} {b : Nat}, Emb o a r b → r.length = a.length
  | [], [], _, _ => rfl
  | _ :: _, _ :: _, _, h => congrArg (· + 1) (emb_len h.2.2)
theorem lt_of_at {o : List Int} {p : Nat} {l : Int} (h : o[p]? = some l) : p < o.length := (List.getElem?_eq_some_iff.mp h).1
theorem place_le {o : List Int} {l : Int} {n p : Nat} (hn : n ≤ p) (h : o[p]? = some l) : n ≤ place l o n ∧ place l o n ≤ p ∧ o[place l o n]? = some l := by
  have hp := lt_of_at h
  obtain ⟨q1, q2, q3, q4⟩ := place_spec l o (o.length - n) n rfl (by omega)
  have h2 : place l o n ≤ p := by
    by_cases z : p < place l o n
    · exact absurd h (q3 p hn z)
    · omega
  exact ⟨q1, h2, q4 (Nat.lt_of_le_of_lt h2 hp)⟩
/-- the first way is ahead of every other -/
theorem greedy_le {o : List Int} : ∀ {a : List Int} {r : List Nat} {b n : Nat}, Emb o a r b → n ≤ b → ∃ g, greedy a o n = some g ∧ Emb o a g n ∧ ∀ (i : Nat) x y, g[i]? = some x → r[i]? = some y → x ≤ y
  | [], [], _, _, _, _ => ⟨[], rfl, trivial, fun i x y h => by simp at h⟩
  | l :: a, p :: r, b, n, ⟨h1, h2, h3⟩, hn => by
    obtain ⟨q1, q2, q3⟩ := place_le (n := n) (Nat.le_trans hn h1) h2
    obtain ⟨g, g1, g2, g3⟩ := greedy_le (n := place l o n + 1) h3 (by omega)
    refine ⟨place l o n :: g, ?_, ⟨q1, q3, g2⟩, fun i x y e1 e2 => ?_⟩
    · simp only [greedy, if_pos (lt_of_at q3), g1, Option.map_some]
    · cases i with
      | zero => simp at e1 e2; omega
      | succ i => exact g3 i x y (by simpa using e1) (by simpa using e2)
theorem greedy_emb {o : List Int} : ∀ {a : List Int} {g : List Nat} {n : Nat}, n ≤ o.length → greedy a o n = some g → Emb o a g n
  | [], g, n, _, h => by simp only [greedy, Option.some.injEq] at h; subst h; exact trivial
  | l :: a, g, n, hn, h => by
    simp only [greedy] at h
    split at h
    · rename_i hp
      obtain ⟨q1, q2, q3, q4⟩ := place_spec l o (o.length - n) n rfl hn
      simp only [Option.map_eq_some_iff] at h
      obtain ⟨g', h1, rfl⟩ := h
      exact ⟨q1, q4 hp, greedy_emb hp h1⟩
    · cases h
theorem emb_sub {o : List Int} : ∀ {a : List Int} {r : List Nat} {b : Nat}, Emb o a r b → (a.Sublist (o.drop b))
  | [], [], _, _ => List.nil_sublist _
  | l :: a, p :: r, b, ⟨h1, h2, h3⟩ => by
    have h4 := emb_sub h3
    have hp := lt_of_at h2
    have e : o.drop p = l :: o.drop (p + 1) := by
      rw [List.drop_eq_getElem_cons hp]
      rw [List.getElem?_eq_getElem hp] at h2
      rw [Option.some.inj h2]
    have s1 : (l :: a).Sublist (o.drop p) := by rw [e]; exact h4.cons₂ l
    have e2 : o.drop p = (o.drop b).drop (p - b) := by rw [List.drop_drop]; congr 1; omega
    rw [e2] at s1
    exact s1.trans (List.drop_sublist _ _)
theorem emb_mono {o : List Int} : ∀ {a : List Int} {r : List Nat} {b c : Nat}, Emb o a r b → c ≤ b → Emb o a r c
  | [], [], _, _, _, _ => trivial
  | _ :: _, _ :: _, _, _, ⟨h1, h2, h3⟩, hc => ⟨Nat.le_trans hc h1, h2, h3⟩
theorem sub_emb {o : List Int} : ∀ (m : Nat) {a : List Int} {b : Nat}, o.length - b = m → a.Sublist (o.drop b) → ∃ r, Emb o a r b
  | 0, a, b, hm, h => by
    rw [List.drop_eq_nil_of_le (by omega)] at h
    rw [List.sublist_nil.mp h]
    exact ⟨[], trivial⟩
  | m + 1, a, b, hm, h => by
    have hb : b < o.length := by omega
    rw [List.drop_eq_getElem_cons hb] at h
    cases h with
    | cons _ h =>
      obtain ⟨r, hr⟩ := sub_emb m (by omega) h
      exact ⟨r, emb_mono hr (by omega)⟩
    | cons_cons _ h =>
      obtain ⟨r, hr⟩ := sub_emb m (by omega) h
      exact ⟨b :: r, Nat.le_refl _, List.getElem?_eq_getElem hb, hr⟩
theorem greedy_sub {a o : List Int} : (greedy a o 0).isSome = true ↔ a.Sublist o := by
  constructor
  · intro h
    obtain ⟨g, hg⟩ := Option.isSome_iff_exists.mp h
    have := emb_sub (greedy_emb (Nat.zero_le _) hg)
    rwa [List.drop_zero] at this
  · intro h
    obtain ⟨r, hr⟩ := sub_emb (b := 0) _ rfl (by rwa [List.drop_zero])
    obtain ⟨g, hg, _⟩ := greedy_le hr (Nat.le_refl 0)
    rw [hg]
    rfl
/-! all ways in, letter by letter -/
def bg (r : List Nat) : Nat := match r.getLast? with | none => 0 | some p => p + 1
theorem bg_snoc (r : List Nat) (p : Nat) : bg (r ++ [p]) = p + 1 := by simp [bg]
def cand (o : List Int) (l : Int) (b : Nat) : List Nat := ((List.range (o.length - b)).map (b + ·)).filter fun p => decide (o[p]? = some l)
theorem mem_cand {o : List Int} {l : Int} {b p : Nat} : p ∈ cand o l b ↔ b ≤ p ∧ o[p]? = some l := by
  unfold cand
  simp only [List.mem_filter, List.mem_map, List.mem_range, decide_eq_true_eq]
  constructor
  · rintro ⟨⟨q, h1, rfl⟩, h2⟩
    exact ⟨by omega, h2⟩
  · rintro ⟨h1, h2⟩
    have := lt_of_at h2
    exact ⟨⟨p - b, by omega, by omega⟩, h2⟩
def ext (o : List Int) (l : Int) (r : List Nat) : List (List Nat) := (cand o l (bg r)).map fun p => r ++ [p]
def rowsOf (o a : List Int) (R : List (List Nat)) : List (List Nat) := a.foldl (fun R l => R.flatMap (ext o l)) R
theorem mem_rows {o : List Int} : ∀ {a : List Int} {R : List (List Nat)} {r : List Nat}, r ∈ rowsOf o a R ↔ ∃ r0 ∈ R, ∃ r1, r = r0 ++ r1 ∧ Emb o a r1 (bg r0)
  | [], R, r => by
    constructor
    · exact fun h => ⟨r, h, [], by simp, trivial⟩
    · rintro ⟨r0, h, r1, rfl, e⟩
      cases r1 with
      | nil => simpa [rowsOf] using h
      | cons => exact e.elim
  | l :: a, R, r => by
    have e : rowsOf o (l :: a) R = rowsOf o a (R.flatMap (ext o l)) := rfl
    rw [e, mem_rows]
    constructor
    · rintro ⟨r0, h, r1, rfl, e1⟩
      obtain ⟨r00, h1, h2⟩ := List.mem_flatMap.mp h
      unfold ext at h2
      obtain ⟨p, h3, rfl⟩ := List.mem_map.mp h2
      obtain ⟨h4, h5⟩ := mem_cand.mp h3
      rw [bg_snoc] at e1
      exact ⟨r00, h1, p :: r1, by simp, h4, h5, e1⟩
    · rintro ⟨r0, h, r1, rfl, e1⟩
      cases r1 with
      | nil => exact e1.elim
      | cons p r1 =>
        obtain ⟨h4, h5, h6⟩ := e1
        refine ⟨r0 ++ [p], List.mem_flatMap.mpr ⟨r0, h, List.mem_map.mpr ⟨p, mem_cand.mpr ⟨h4, h5⟩, rfl⟩⟩, r1, by simp, ?_⟩
        rw [bg_snoc]
        exact h6
theorem mem_rows0 {o a : List Int} {r : List Nat} : r ∈ rowsOf o a [[]] ↔ Emb o a r 0 := by
  rw [mem_rows]
  constructor
  · rintro ⟨r0, h, r1, rfl, e⟩
    simp at h
    subst h
    simpa [bg] using e
  · exact fun h => ⟨[], by simp, r, by simp, by simpa [bg] using h⟩
/-! how many -/
def wt (n : Nat) (R : List (List Nat)) : Nat := (R.map fun r => 2 ^ (n - bg r)).sum
theorem sum_pow (n : Nat) : ∀ (m b : Nat), n - b = m → (((List.range (n - b)).map (b + ·)).map fun p => 2 ^ (n - (p + 1))).sum + 1 ≤ 2 ^ (n - b)
  | 0, b, h => by rw [h]; simp
  | m + 1, b, h => by
    have ih := sum_pow n m (b + 1) (by omega)
    rw [h, List.range_succ_eq_map]
    have e : n - (b + 1) = m := by omega
    rw [e] at ih
    simp only [List.map_cons, List.map_map, List.sum_cons, Nat.add_zero]
    have e2 : ((fun p => 2 ^ (n - (p + 1))) ∘ (fun x => b + x) ∘ Nat.succ) = ((fun p => 2 ^ (n - (p + 1))) ∘ fun x => b + 1 + x) := by
      funext x
      simp only [Function.comp]
      congr 2
      omega
    rw [e2, e]
    rw [List.map_map] at ih
    have : 2 ^ (m + 1) = 2 ^ m + 2 ^ m := by rw [Nat.pow_succ]; omega
    omega
theorem sum_filter_le {α : Type} (f : α → Nat) (p : α → Bool) : ∀ l : List α, ((l.filter p).map f).sum ≤ (l.map f).sum
  | [] => Nat.le_refl _
  | x :: l => by
    have ih := sum_filter_le f p l
    rw [List.filter_cons]
    split
    · simp only [List.map_cons, List.sum_cons]; omega
    · simp only [List.map_cons, List.sum_cons]; omega
theorem wt_ext (o : List Int) (l : Int) (r : List Nat) : wt o.length (ext o l r) ≤ 2 ^ (o.length - bg r) := by
  unfold wt ext
  rw [List.map_map]
  have e : ((fun r => 2 ^ (o.length - bg r)) ∘ fun p => r ++ [p]) = fun p => 2 ^ (o.length - (p + 1)) := by
    funext p
    simp only [Function.comp, bg_snoc]
  rw [e]
  have h1 := sum_filter_le (fun p => 2 ^ (o.length - (p + 1))) (fun p => decide (o[p]? = some l)) ((List.range (o.length - bg r)).map (bg r + ·))
  have h2 := sum_pow o.length _ (bg r) rfl
  unfold cand
  omega
theorem wt_step (o : List Int) (l : Int) : ∀ R : List (List Nat), wt o.length (R.flatMap (ext o l)) ≤ wt o.length R
  | [] => Nat.le_refl _
  | r :: R => by
    have ih := wt_step o l R
    have h := wt_ext o l r
    unfold wt at ih h ⊢
    rw [List.flatMap_cons, List.map_append, List.sum_append, List.map_cons, List.sum_cons]
    omega
theorem len_wt (n : Nat) : ∀ R : List (List Nat), R.length ≤ wt n R
  | [] => Nat.le_refl _
  | r :: R => by
    have ih := len_wt n R
    unfold wt at ih ⊢
    rw [List.map_cons, List.sum_cons, List.length_cons]
    have : 1 ≤ 2 ^ (n - bg r) := Nat.one_le_two_pow
    omega
theorem wt_rows (o : List Int) : ∀ (a : List Int) (R : List (List Nat)), wt o.length (rowsOf o a R) ≤ wt o.length R
  | [], _ => Nat.le_refl _
  | l :: a, R => Nat.le_trans (wt_rows o a _) (wt_step o l R)
theorem rows_len (o a : List Int) (l : Int) : ((rowsOf o a [[]]).flatMap (ext o l)).length ≤ 2 ^ o.length := by
  have h1 := len_wt o.length ((rowsOf o a [[]]).flatMap (ext o l))
  have h2 := wt_step o l (rowsOf o a [[]])
  have h3 := wt_rows o a [[]]
  have h4 : wt o.length [[]] = 2 ^ o.length := by simp [wt, bg]
  omega
theorem rowsOf_snoc (o a : List Int) (l : Int) (R : List (List Nat)) : rowsOf o (a ++ [l]) R = (rowsOf o a R).flatMap (ext o l) := by
  unfold rowsOf
  rw [List.foldl_append]
  rfl
/-! _law_first -/
def rw_ (r : List Nat) : D := .tuple (r.map fun (p : Nat) => .int p)
def nat (r : List Nat) : List Int := r.map fun (p : Nat) => (p : Int)
theorem rw_tu (r : List Nat) : rw_ r = tu (nat r) := by simp [rw_, nat, tu, List.map_map, Function.comp]
theorem nat_inj {r q : List Nat} (h : nat r = nat q) : r = q := by
  unfold nat at h
  exact (List.map_inj_right (fun x y e => by omega)).mp h
theorem nat_at {r : List Nat} {i : Nat} {x : Int} (h : (nat r)[i]? = some x) : ∃ p : Nat, r[i]? = some p ∧ x = p := by
  unfold nat at h
  rw [List.getElem?_map] at h
  cases e : r[i]? with
  | none => rw [e] at h; cases h
  | some p => rw [e] at h; cases h; exact ⟨p, rfl, rfl⟩
theorem first_min {o a : List Int} {g : List Nat} {x : List Nat} {xs : List (List Nat)} (hg : greedy a o 0 = some g) (hr : rowsOf o a [[]] = x :: xs) : PySem.W.minD (rw_ x) (xs.map rw_) = rw_ g := by
  have lt : ∀ r ∈ x :: xs, r ≠ g → PySem.W.dataLt (rw_ g) (rw_ r) = true := fun r hm hne => by
    have hE := mem_rows0.mp (by rw [hr]; exact hm)
    obtain ⟨g2, e1, e2, e3⟩ := greedy_le hE (Nat.le_refl 0)
    rw [hg] at e1
    cases e1
    rw [rw_tu, rw_tu]
    refine dataLt_ints ?_ (fun z => hne (nat_inj z).symm) fun i u v h1 h2 => ?_
    · simp [nat, emb_len hE, emb_len e2]
    · obtain ⟨p, h3, rfl⟩ := nat_at h1
      obtain ⟨q, h4, rfl⟩ := nat_at h2
      have := e3 i p q h3 h4
      omega
  have mem : ∀ y ∈ rw_ x :: xs.map rw_, ∃ r ∈ x :: xs, y = rw_ r := fun y hy => by
    rw [← List.map_cons] at hy
    obtain ⟨r, h1, h2⟩ := List.mem_map.mp hy
    exact ⟨r, h1, h2.symm⟩
  refine minD_eq ?_ (fun y hy hne => ?_) fun y hy => ?_
  · rw [← List.map_cons, ← hr]
    exact List.mem_map.mpr ⟨g, mem_rows0.mpr (greedy_emb (Nat.zero_le _) hg), rfl⟩
  · obtain ⟨r, h1, rfl⟩ := mem y hy
    exact lt r h1 fun z => hne (by rw [z])
  · obtain ⟨r, h1, rfl⟩ := mem y hy
    by_cases e : r = g
    · rw [e]; exact dataLt_self' _
    · exact dataLt_asymm (lt r h1 e)
theorem rows_none {o a : List Int} (h : greedy a o 0 = none) : rowsOf o a [[]] = [] := by
  cases e : rowsOf o a [[]] with
  | nil => rfl
  | cons r R =>
    have hE := mem_rows0.mp (show r ∈ rowsOf o a [[]] by rw [e]; exact List.mem_cons_self)
    obtain ⟨g, e1, _⟩ := greedy_le hE (Nat.le_refl 0)
    rw [h] at e1
    cases e1
theorem rows_some {o a : List Int} {g : List Nat} (h : greedy a o 0 = some g) : rowsOf o a [[]] ≠ [] := fun z => by
  have := mem_rows0.mpr (greedy_emb (Nat.zero_le _) h)
  rw [z] at this
  cases this
theorem rw_snoc (r : List Nat) (p : Nat) : rw_ (r ++ [p]) = .tuple (r.map (fun (p : Nat) => PyData.int p) ++ [.int p]) := by simp [rw_]
theorem rows_le {o a : List Int} : ∀ {r : List Nat}, r ∈ rowsOf o a [[]] → r.length = a.length ∧ bg r ≤ o.length := fun {r} h => by
  have hE := mem_rows0.mp h
  refine ⟨emb_len hE, ?_⟩
  have key : ∀ {a : List Int} {r : List Nat} {b : Nat}, Emb o a r b → ∀ p ∈ r, p < o.length := by
    intro a
    induction a with
    | nil => intro r b h p hp; cases r with
      | nil => cases hp
      | cons => exact h.elim
    | cons l a ih => intro r b h p hp; cases r with
      | nil => cases hp
      | cons q r =>
        rcases List.mem_cons.mp hp with rfl | hp
        · exact lt_of_at h.2.1
        · exact ih h.2.2 p hp
  unfold bg
  cases e : r.getLast? with
  | none => exact Nat.zero_le _
  | some p => exact key hE p (List.mem_of_getLast? e)
def isAt (o : List Int) (l : Int) : D → Bool
  | .int i => decide (o[i.toNat]? = some l)
  | _ => false
def addTo (r : List Nat) : D → D
  | .int i => rw_ (r ++ [i.toNat])
  | d => d
theorem rw_eq : rw_ = tu ∘ nat := funext rw_tu
theorem filter_cand {o : List Int} {l : Int} {b : Nat} : ((rngD (b : Int) (o.length - b)).filter (isAt o l)) = (cand o l b).map fun (p : Nat) => PyData.int p := by
  unfold cand rngD
  rw [List.filter_map, List.filter_map, List.map_map]
  have e : (isAt o l ∘ fun (i : Nat) => PyData.int (b + i)) = ((fun p => decide (o[p]? = some l)) ∘ fun x => b + x) := by
    funext i
    simp only [Function.comp, isAt]
    have : ((b : Int) + (i : Nat)).toNat = b + i := by omega
    rw [this]
  rw [e]
  congr 1
theorem first_ok {a o : List Int} (hl : a.length ≤ 100) (ho : o.length ≤ 12) (hk : k (out (greedy a o 0))) : m__law_first (tu a) (tu o) k := by
  unfold m__law_first
  simp only [letW_eq, seqW_tuple]
  have h12 : 2 ^ o.length ≤ 4096 := Nat.pow_le_pow_right (by decide) ho
  refine for_inv (I := fun i s => s = .list ((rowsOf o (a.take i) [[]]).map rw_)) (by simp [rowsOf, rw_]) (fun i x s nx hx hI hn => ?_) fun s hI => ?_
  · subst hI
    obtain ⟨l, hl2, rfl⟩ := ints_at hx
    have hi : i < a.length := lt_of_at hl2
    have ha : a.take (i + 1) = a.take i ++ [l] := by rw [List.take_add_one, hl2]; rfl
    have hcap := rows_len o (a.take i) l
    generalize hR : rowsOf o (a.take i) [[]] = R at hcap ⊢
    have hbR : ∀ r ∈ R, r.length ≤ 100 ∧ bg r ≤ o.length := fun r hr => by
      rw [← hR] at hr
      have := rows_le hr
      rw [List.length_take] at this
      omega
    simp only [seqW_list]
    refine for_inv (I := fun j s => s = ((R.take j).flatMap (ext o l)).map rw_) (by simp) (fun j x s nx2 hx2 hJ hn2 => ?_) fun s hJ => ?_
    · subst hJ
      rw [List.getElem?_map] at hx2
      cases er : R[j]? with
      | none => rw [er] at hx2; cases hx2
      | some r =>
        rw [er] at hx2
        cases hx2
        obtain ⟨hr1, hr2⟩ := hbR r (List.mem_of_getElem? er)
        have tk : (R.take (j + 1)).flatMap (ext o l) = (R.take j).flatMap (ext o l) ++ ext o l r := by
          rw [List.take_add_one, er]
          simp
        have le1 : ((R.take (j + 1)).flatMap (ext o l)).length ≤ 4096 := by
          have : R.flatMap (ext o l) = (R.take (j + 1)).flatMap (ext o l) ++ (R.drop (j + 1)).flatMap (ext o l) := by
            rw [← List.flatMap_append, List.take_append_drop]
          rw [this, List.length_append] at hcap
          omega
        have main : ∀ (b : Int), b = (bg r : Int) → lenW (tu o) fun x31 => rng2W (.int b) x31 fun it30 => lcW (fun y32 e33 z34 => ixW (tu o) y32 (fun x35 => eqW x35 (.int l) (fun x36 => bW x36 fun b37 => if b37 = true then addW (rw_ r) (.tuple [y32]) (fun x39 => e33 x39) else z34))) (fun l41 => exW (((R.take j).flatMap (ext o l)).map rw_) l41 fun longer29 => nx2 longer29) it30 [] := fun b hb => by
          subst hb
          simp only [lenW_tuple, rng2W_int, List.length_map]
          refine ⟨⟨by omega, by omega, by omega, by omega⟩, ?_⟩
          have e1 : ((o.length : Int) - (bg r : Int)).toNat = o.length - bg r := by omega
          rw [e1]
          refine lc_filter (isAt o l) (addTo r) (fun x hx e s he => ?_) (by simp; unfold most; omega) ?_
          · obtain ⟨m, hm, rfl⟩ := rngD_mem hx
            have em : ((bg r : Int) + (m : Nat)) = ((bg r + m : Nat) : Int) := by omega
            rw [em] at he ⊢
            have hlt : bg r + m < o.length := by omega
            simp only [ixW_tuple]
            refine atW_nat (d := .int o[bg r + m]) (by rw [List.getElem?_map, List.getElem?_eq_getElem hlt]; rfl) ?_
            simp only [eqW_int, bW_bool]
            simp only [isAt, addTo, Int.toNat_natCast, List.getElem?_eq_getElem hlt, Option.some.injEq] at he
            by_cases z : o[bg r + m] = l
            · simp only [z, decide_true, if_true] at he ⊢
              rw [rw_snoc] at he
              exact ⟨by simp [rw_]; unfold most; omega, he⟩
            · simp only [z, decide_false, Bool.false_eq_true, if_false] at he ⊢
              exact he
          · rw [filter_cand, List.nil_append, List.map_map]
            have ee : ((cand o l (bg r)).map (addTo r ∘ fun (p : Nat) => PyData.int p)) = (ext o l r).map rw_ := by
              unfold ext
              rw [List.map_map]
              congr 1
            rw [ee]
            rw [tk, List.length_append] at le1
            refine ⟨by simp only [List.length_map]; unfold most; omega, hn2 _ ?_⟩
            rw [tk, List.map_append]
        show neW (rw_ r) _ _
        unfold rw_
        simp only [neW_tuple_nil, bW_bool, List.map_eq_nil_iff]
        rcases List.eq_nil_or_concat r with hnil | ⟨r', p, hcc⟩
        · subst hnil
          simp only [decide_true, Bool.not_true, iteV_false]
          exact main 0 rfl
        · have hcc : r = r' ++ [p] := by simpa using hcc
          have e : decide (r = []) = false := by rw [hcc]; simp
          rw [e]
          simp only [Bool.not_false, iteV_true, negW_int, ixW_tuple]
          have e2 : (r.map fun (p : Nat) => PyData.int p) = (r'.map fun (p : Nat) => PyData.int p) ++ [.int p] := by rw [hcc]; simp
          have := main ((p : Int) + 1) (by rw [hcc, bg_snoc]; omega)
          rw [e2]
          refine atW_last ?_
          simp only [addW_int]
          rw [← e2]
          exact this
    · subst hJ
      refine hn _ ?_
      rw [ha, rowsOf_snoc, hR, List.length_map, List.take_length]
  · subst hI
    rw [List.length_map, List.take_length]
    simp only [neW_list_nil, bW_bool, List.map_eq_nil_iff]
    cases hg : greedy a o 0 with
    | none =>
      rw [rows_none hg]
      rw [hg] at hk
      exact hk
    | some g =>
      have hne := rows_some hg
      rw [hg] at hk
      simp only [hne, decide_false, Bool.not_false, iteV_true]
      cases hr : rowsOf o a [[]] with
      | nil => exact absurd hr hne
      | cons x xs =>
        refine ⟨?_, ?_, ?_⟩
        · have : (rw_ x :: xs.map rw_) = ((x :: xs).map nat).map tu := by
            rw [List.map_map, ← rw_eq, List.map_cons]
          rw [this]
          exact alike_tus
        · have : (rw_ x :: xs.map rw_) = ((x :: xs).map nat).map tu := by
            rw [List.map_map, ← rw_eq, List.map_cons]
          rw [this]
          exact Nat.le_trans (depth_tus _) (by decide)
        · rw [first_min hg hr]
          exact hk
/-! _law_same -/
theorem same_ok : ∀ {n : Nat} {d : D} {k : Kt}, Sm n d → k (.bool true) → m__law_same n d d k
  | 0, _, _, h, _ => h.elim
  | n + 1, .none, k, _, hk => by unfold m__law_same; simpa using hk
  | n + 1, .bool b, k, _, hk => by
    unfold m__law_same
    cases b <;> simpa using hk
  | n + 1, .int i, k, _, hk => by unfold m__law_same; simpa using hk
  | n + 1, .str s, k, _, hk => by unfold m__law_same; simpa using hk
  | n + 1, .dict _, k, h, _ => h.elim
  | n + 1, .list l, k, ⟨h1, h2⟩, hk => by
    unfold m__law_same
    simp only [isNW_list, bW_bool, Bool.false_eq_true, if_false, isi_list_bool, isi_list_int, isi_list_str, isi_list_tuple, isi_list_list, neW_bool, decide_true, Bool.not_true, orB_false, lenW_list, eqW_int, andV_true, rng1W_int]
    have hm : l.length ≤ 16777216 := h1
    refine ⟨⟨by omega, by omega⟩, lc_map (fun _ => .bool true) (fun x hx e s he => ?_) (by simp; exact h1) ?_⟩
    · obtain ⟨m, hm2, rfl⟩ := rngD_mem hx
      have hm3 : m < l.length := by omega
      rw [show (0 : Int) + (m : Nat) = (m : Nat) by omega]
      refine atW_nat (List.getElem?_eq_getElem hm3) (atW_nat (List.getElem?_eq_getElem hm3) (same_ok (h2 _ (List.getElem_mem hm3)) he))
    · have e : (rngD 0 (l.length : Int).toNat).all (fun _ => true) = true := by simp [List.all_eq_true]
      rw [List.nil_append, allW_map, e]
      exact hk
  | n + 1, .tuple l, k, ⟨h1, h2⟩, hk => by
    unfold m__law_same
    simp only [isNW_tuple, bW_bool, Bool.false_eq_true, if_false, isi_tuple_bool, isi_tuple_int, isi_tuple_str, isi_tuple_tuple, isi_tuple_list, neW_bool, decide_true, Bool.not_true, orB_false, lenW_tuple, eqW_int, andV_true, rng1W_int]
    have hm : l.length ≤ 16777216 := h1
    refine ⟨⟨by omega, by omega⟩, lc_map (fun _ => .bool true) (fun x hx e s he => ?_) (by simp; exact h1) ?_⟩
    · obtain ⟨m, hm2, rfl⟩ := rngD_mem hx
      have hm3 : m < l.length := by omega
      rw [show (0 : Int) + (m : Nat) = (m : Nat) by omega]
      refine atW_nat (List.getElem?_eq_getElem hm3) (atW_nat (List.getElem?_eq_getElem hm3) (same_ok (h2 _ (List.getElem_mem hm3)) he))
    · have e : (rngD 0 (l.length : Int).toNat).all (fun _ => true) = true := by simp [List.all_eq_true]
      rw [List.nil_append, allW_map, e]
      exact hk
theorem sm_tu {n : Nat} {ns : List Int} (h : ns.length ≤ 1000) : Sm (n + 2) (tu ns) := by
  refine ⟨by simp only [List.length_map]; unfold most; omega, fun x hx => ?_⟩
  obtain ⟨i, _, rfl⟩ := List.mem_map.mp hx
  exact trivial
theorem sm_out {n : Nat} {g : Option (List Nat)} (h : ∀ r, g = some r → r.length ≤ 1000) : Sm (n + 2) (out g) := by
  cases g with
  | none => exact trivial
  | some r =>
    refine ⟨by simp only [List.length_map]; have := h r rfl; unfold most; omega, fun x hx => ?_⟩
    obtain ⟨i, _, rfl⟩ := List.mem_map.mp hx
    exact trivial
theorem sm_bool {n : Nat} {b : Bool} : Sm (n + 1) (.bool b) := trivial
theorem greedy_len {a o : List Int} {g : List Nat} (h : greedy a o 0 = some g) : g.length = a.length := emb_len (greedy_emb (Nat.zero_le _) h)
theorem notNW_out {g : Option (List Nat)} : notNW (out g) k = k (.bool g.isSome) := by cases g <;> rfl
theorem isNW_out {g : Option (List Nat)} : isNW (out g) k = k (.bool (!g.isSome)) := by cases g <;> rfl
theorem right_ok {a o : List Int} (wa : Wd 3 a) (wo : Wd 3 o) (hl : a.length ≤ 12) (ho : o.length ≤ 12) (hk : k (.bool true)) : m__law_right (tu a) (tu o) k := by
  unfold m__law_right
  refine first_ok (by omega) ho ?_
  simp only [letW_eq]
  refine is_strewn_ok wa wo (by omega) (by omega) (is_strewn_ok wa wo (by omega) (by omega) (places_in_ok wa wo (by omega) (by omega) (places_in_ok wa wo (by omega) (by omega) ?_)))
  simp only [notNW_out]
  refine same_ok (n := 9) ⟨Nat.le_of_ble_eq_true rfl, ?_⟩ ?_
  · have so : Sm 8 (out (greedy a o 0)) := sm_out fun r e => by rw [greedy_len e]; omega
    intro x hx
    simp only [List.mem_cons, List.not_mem_nil, or_false] at hx
    rcases hx with rfl | rfl | rfl | rfl
    · exact trivial
    · exact trivial
    · exact so
    · exact so
  · simp only [bW_bool, Bool.not_true, Bool.false_eq_true, if_false, eqW_tu, isNW_out]
    by_cases e : a = o
    · simp only [e, decide_true, orV_true]; exact hk
    · simp only [e, decide_false, orV_false]
      cases hg : (greedy a o 0).isSome with
      | false => simp only [Bool.not_false, orV_true]; exact hk
      | true =>
        simp only [Bool.not_true, orV_false]
        refine is_strewn_ok wo wa (by omega) (by omega) ?_
        have : (greedy o a 0).isSome = false := by
          cases h2 : (greedy o a 0).isSome with
          | false => rfl
          | true => exact absurd ((greedy_sub.mp hg).eq_of_length_le (greedy_sub.mp h2).length_le) e
        rw [this]
        simpa using hk
/-! what the well draws -/
theorem take_ok {m : Int} (h0 : 0 < m) (h1 : m < 1073741824) (hk : ∀ i : Int, 0 ≤ i → i < m → k (.int i)) : m__law_take (.int m) k := ⟨m, rfl, ⟨h0, h1⟩, hk⟩
theorem ints_of {l : List D} {P : Int → Prop} : (∀ y ∈ l, ∃ i : Int, y = .int i ∧ P i) → ∃ ns : List Int, l = ns.map .int ∧ ∀ x ∈ ns, P x := by
  induction l with
  | nil => exact fun _ => ⟨[], rfl, fun _ h => nomatch h⟩
  | cons y l ih =>
    intro h
    obtain ⟨i, rfl, hi⟩ := h y List.mem_cons_self
    obtain ⟨ns, rfl, h2⟩ := ih fun z hz => h z (List.mem_cons_of_mem _ hz)
    exact ⟨i :: ns, rfl, fun x hx => by
      rcases List.mem_cons.mp hx with rfl | hx
      · exact hi
      · exact h2 x hx⟩
theorem word_ok {K M : Int} (hK : 0 < K) (hK2 : K < 1000) (hM : 0 ≤ M) (hM2 : M < 1000) (hk : ∀ ns : List Int, (ns.length : Int) ≤ M → Wd K ns → k (tu ns)) : m__law_word (.int K) (.int M) k := by
  unfold m__law_word
  simp only [addW_int]
  refine take_ok (by omega) (by omega) fun n n0 n1 => ?_
  simp only [rng1W_int]
  refine ⟨⟨by omega, by omega⟩, lc_any (fun y => ∃ i : Int, y = .int i ∧ 0 ≤ i ∧ i < K) (fun x hx e s he => take_ok hK (by omega) fun i i0 i1 => he _ ⟨i, rfl, i0, i1⟩) (by simp; unfold most; omega) fun ys hy h => ?_⟩
  obtain ⟨ns, rfl, h2⟩ := ints_of h
  rw [List.nil_append]
  refine hk ns ?_ h2
  simp at hy
  omega
theorem left_ok {ns : List Int} (hw : Wd 3 ns) (hl : ns.length ≤ 12) (hk : ∀ ms : List Int, ms.length ≤ ns.length → Wd 3 ms → k (tu ms)) : m__law_left (tu ns) k := by
  unfold m__law_left
  simp only [letW_eq, seqW_tuple]
  refine for_inv (I := fun i s => ∃ ms : List Int, s = ms.map .int ∧ ms.length ≤ i ∧ Wd 3 ms) ⟨[], rfl, Nat.le_refl _, fun _ h => nomatch h⟩ (fun i x s nx hx hI hn => ?_) fun s hI => ?_
  · obtain ⟨ms, rfl, h1, h2⟩ := hI
    obtain ⟨l, hl2, rfl⟩ := ints_at hx
    have hi : i < ns.length := lt_of_at hl2
    refine take_ok (by decide) (by decide) fun r r0 r1 => ?_
    simp only [gtW_int, bW_bool]
    by_cases c : r > 0
    · simp only [c, decide_true, iteV_true, apW_eq]
      refine ⟨by simp only [List.length_map]; unfold most; omega, hn _ ⟨ms ++ [l], by simp, by simp; omega, fun x hx => ?_⟩⟩
      rcases List.mem_append.mp hx with hx | hx
      · exact h2 x hx
      · simp at hx
        subst hx
        exact hw _ (List.mem_of_getElem? hl2)
    · simp only [c, decide_false, iteV_false]
      exact hn _ ⟨ms, rfl, by omega, h2⟩
  · obtain ⟨ms, rfl, h1, h2⟩ := hI
    rw [List.length_map] at h1
    simp only [neW_list_nil, bW_bool, List.map_eq_nil_iff]
    refine andB_of (fun c => take_ok (by decide) (by decide) fun q q0 q1 => ?_) fun c => ?_
    · have hne : ms ≠ [] := by
        intro z
        rw [z] at c
        simp at c
      have hlen : 0 < ms.length := List.length_pos_iff.mpr hne
      simp only [eqW_int, bW_bool]
      by_cases hq : q = 0
      · simp only [hq, decide_true, iteV_true, lenW_list, List.length_map]
        refine take_ok (by omega) (by omega) fun j j0 j1 => ?_
        unfold stW
        simp only [iW_int, List.length_map]
        have hix : ixN ms.length j = some j.toNat := by unfold ixN; rw [if_pos j0, if_pos j1]
        rw [hix]
        have e : (ms.map PyData.int).set j.toNat (.int 0) = (ms.set j.toNat 0).map .int := by rw [List.map_set]
        show k (.tuple ((ms.map PyData.int).set j.toNat (.int 0)))
        rw [e]
        refine hk _ (by simp; omega) fun x hx => ?_
        rcases List.mem_or_eq_of_mem_set hx with hx | rfl
        · exact h2 x hx
        · exact ⟨by decide, by decide⟩
      · simp only [hq, decide_false, iteV_false]
        exact hk ms h1 h2
    · simp only [iteV_false]
      exact hk ms h1 h2
theorem well_ok {ns : List Int} (hl : ns.length ≤ 63) {t : Nat} (ht : t ≤ 10) {r : List D → Prop} (hk : ∀ x y : Int, 0 ≤ x → 0 ≤ y → y < 10 ^ 28 + 331 → r [.int x, .int y]) : m__law_well (.list (ns.map .int)) (.int t) r := by
  have hc : cutD (ns.map .int) none (some 63) = ns.map .int := by
    rw [show (63 : Int) = ((63 : Nat) : Int) from rfl, cutD_to]
    exact List.take_of_length_le (by simp; omega)
  unfold m__law_well
  simp only [cutW_list, hc, lenW_list, addW_int, letW_eq, seqW_list]
  refine for_inv (I := fun i s => ∃ m : Int, s = .int m ∧ 0 ≤ m ∧ m < 10 ^ 28 + 331) ⟨_, rfl, by omega, by simp; omega⟩ (fun i x s nx hx hI hn => ?_) fun s hI => ?_
  · obtain ⟨m, rfl, m0, m1⟩ := hI
    obtain ⟨c, _, rfl⟩ := ints_at hx
    refine mul_small (m := 94) (n := 31) m0 (by decide) (Int.lt_trans m1 (by decide)) (by decide) (by decide) (by decide) (by decide) ?_
    simp only [intW_int]
    refine pow_24 ?_
    simp only [addW_int]
    refine mod_pos (by decide) fun q q0 q1 _ => ?_
    simp only [addW_int, intW_int]
    refine pow_28 ?_
    simp only [addW_int]
    exact mod_pos (by decide) fun z z0 z1 _ => hn _ ⟨z, rfl, z0, z1⟩
  · obtain ⟨m, rfl, m0, m1⟩ := hI
    refine mul_small (m := 94) (n := 8) m0 (by decide) (Int.lt_trans m1 (by decide)) (by decide) (by decide) (by decide) (by decide) (mul_small (m := 4) (n := 17) (by omega) (by decide) (by omega) (by decide) (by decide) (by decide) (by decide) ?_)
    simp only [addW_int, intW_int]
    refine pow_28 ?_
    simp only [addW_int]
    refine mod_pos (by decide) fun z z0 z1 _ => ?_
    simp only [ltW_int, bW_bool, List.length_map]
    by_cases c : (t : Int) < ns.length
    · rw [decide_eq_true c]
      simp only [iteV_true, ixW_list]
      have hlt : t < ns.length := by omega
      refine atW_nat (d := .int ns[t]) (by rw [List.getElem?_map, List.getElem?_eq_getElem hlt]; rfl) ?_
      simp only [intW_int, absW_int]
      refine pow_18 ?_
      simp only [subW_int, max2W_int]
      generalize (if ns[t] < 0 then -ns[t] else ns[t]) - 10 ^ 18 = u
      by_cases cu : u > 0
      · rw [if_pos cu]; exact hk _ _ (by omega) z0 z1
      · rw [if_neg cu]; exact hk _ _ (by omega) z0 z1
    · rw [decide_eq_false c]
      simp only [iteV_false]
      exact hk _ _ (by omega) z0 z1
/-! long words -/
theorem cand_cases {o : List Int} {l : Int} {n : Nat} (hn : n ≤ o.length) : (cand o l n = [] ∧ ¬ place l o n < o.length) ∨ ∃ t, cand o l n = place l o n :: t ∧ place l o n < o.length := by
  obtain ⟨q1, q2, q3, q4⟩ := place_spec l o (o.length - n) n rfl hn
  cases e : cand o l n with
  | nil =>
    refine .inl ⟨rfl, fun h => ?_⟩
    have : place l o n ∈ cand o l n := mem_cand.mpr ⟨q1, q4 h⟩
    rw [e] at this
    cases this
  | cons p t =>
    have hp := mem_cand.mp (show p ∈ cand o l n by rw [e]; exact List.mem_cons_self)
    obtain ⟨p1, p2, p3⟩ := place_le hp.1 hp.2
    have sorted : List.Pairwise (· < ·) (cand o l n) := by
      unfold cand
      refine List.Pairwise.filter _ ?_
      rw [List.pairwise_map]
      exact List.pairwise_lt_range.imp fun h => by omega
    have hm : place l o n ∈ p :: t := by rw [← e]; exact mem_cand.mpr ⟨p1, p3⟩
    have hpl : place l o n = p := by
      rcases List.mem_cons.mp hm with z | z
      · exact z
      · rw [e] at sorted
        have := (List.pairwise_cons.mp sorted).1 _ z
        omega
    exact .inr ⟨t, by rw [hpl], lt_of_at p3⟩
theorem long_ok (hk : k (.bool true)) : m__law_is_long_right k := by
  unfold m__law_is_long_right
  refine take_ok (by decide) (by decide) fun x1 a0 a1 => ?_
  simp only [addW_int, letW_eq]
  refine take_ok (by decide) (by decide) fun sort b0 b1 => take_ok (by decide) (by decide) fun n c0 c1 => ?_
  simp only [addW_int, rng1W_int]
  refine ⟨⟨by omega, by omega⟩, ?_⟩
  refine for_inv (I := fun i s => ∃ os : List Int, s = os.map .int ∧ os.length = i ∧ Wd 3 os) ⟨[], rfl, rfl, fun _ h => nomatch h⟩ (fun i x s nx hx hI hn => ?_) fun s hI => ?_
  · obtain ⟨os, rfl, h1, h2⟩ := hI
    have hi : i < (10 + n).toNat := (rngD_at hx).1
    have put : ∀ v : Int, 0 ≤ v → v < 3 → apW (os.map .int) (.int v) nx := fun v v0 v1 => ⟨by simp only [List.length_map]; unfold most; omega, hn _ ⟨os ++ [v], by simp, by simp [h1], fun x hx => by
      rcases List.mem_append.mp hx with hx | hx
      · exact h2 x hx
      · simp at hx; subst hx; exact ⟨v0, v1⟩⟩⟩
    have both : ∀ b : Bool, iteV b (fun k103 => m__law_take (.int (1 + x1)) fun x101 => k103 x101) (fun k103 => k103 (.int 0)) fun x104 => apW (os.map .int) x104 nx := fun b => by
      cases b with
      | true => exact take_ok (by omega) (by omega) fun v v0 v1 => put v v0 (by omega)
      | false => exact put 0 (by decide) (by decide)
    simp only [gtW_int, bW_bool]
    cases decide (sort > 0) with
    | true => exact both true
    | false =>
      simp only [orB_false]
      refine take_ok (by decide) (by decide) fun q q0 q1 => ?_
      simp only [eqW_int, bW_bool]
      exact both _
  · obtain ⟨os, rfl, h1, h2⟩ := hI
    rw [rngD_length] at h1
    simp only [seqW_list]
    refine for_inv (I := fun i s => ∃ ms : List Int, s = ms.map .int ∧ ms.length ≤ i ∧ Wd 3 ms) ⟨[], rfl, Nat.le_refl _, fun _ h => nomatch h⟩ (fun i x s nx hx hI hn => ?_) fun s hI => ?_
    · obtain ⟨ms, rfl, g1, g2⟩ := hI
      obtain ⟨l, hl2, rfl⟩ := ints_at hx
      have hi := lt_of_at hl2
      refine take_ok (by decide) (by decide) fun q q0 q1 => ?_
      simp only [eqW_int, bW_bool]
      cases decide (q = 0) with
      | true =>
        simp only [iteV_true]
        refine ⟨by simp only [List.length_map]; unfold most; omega, hn _ ⟨ms ++ [l], by simp, by simp; omega, fun x hx => ?_⟩⟩
        rcases List.mem_append.mp hx with hx | hx
        · exact g2 x hx
        · simp at hx; subst hx; exact h2 _ (List.mem_of_getElem? hl2)
      | false =>
        simp only [iteV_false]
        exact hn _ ⟨ms, rfl, by omega, g2⟩
    · obtain ⟨ms, rfl, g1, g2⟩ := hI
      rw [List.length_map, h1] at g1
      simp only [eqW_int, bW_bool, neW_list_nil, andB_b, List.map_eq_nil_iff]
      refine iteV_inv (P := fun s => ∃ as : List Int, s = as.map .int ∧ as.length ≤ 39 ∧ Wd 3 as) (fun hb kk hkk => ?_) (fun _ kk hkk => hkk _ ⟨ms, rfl, by omega, g2⟩) fun s hs => ?_
      · have hne : ms ≠ [] := by
          intro z
          rw [z] at hb
          simp at hb
        have hlen : 0 < ms.length := List.length_pos_iff.mpr hne
        refine take_ok (by omega) (by omega) fun v v0 v1 => ?_
        simp only [lenW_list, subW_int, List.length_map]
        unfold stW
        simp only [iW_int, List.length_map]
        have hix : ixN ms.length ((ms.length : Int) - 1) = some (ms.length - 1) := by
          unfold ixN
          rw [if_pos (by omega), if_pos (by omega)]
          congr 1
          omega
        rw [hix]
        show kk ((ms.map PyData.int).set (ms.length - 1) (.int v))
        have e : (ms.map PyData.int).set (ms.length - 1) (.int v) = (ms.set (ms.length - 1) v).map .int := by rw [List.map_set]
        rw [e]
        refine hkk _ ⟨_, rfl, by simp; omega, fun x hx => ?_⟩
        rcases List.mem_or_eq_of_mem_set hx with hx | rfl
        · exact g2 x hx
        · exact ⟨v0, by omega⟩
      · obtain ⟨as, rfl, l1, w1⟩ := hs
        have lo : os.length ≤ 39 := by omega
        simp only [tupW_list]
        refine places_in_ok w1 h2 (by omega) (by omega) ?_
        refine for_inv (I := fun i s => (∃ (ps : List Nat) (n : Nat), s = (.int n, .list (ps.map fun (p : Nat) => .int p)) ∧ n ≤ os.length ∧ ps.length = i ∧ greedy as os 0 = (greedy (as.drop i) os n).map (ps ++ ·)) ∨ (∃ l : List D, s = (.none, .list l)) ∧ greedy as os 0 = none) (.inl ⟨[], 0, rfl, Nat.zero_le _, rfl, by simp⟩) (fun i x s nx hx hI hn => ?_) fun s hI => ?_
        · obtain ⟨l, hl2, rfl⟩ := ints_at hx
          have hi : i < as.length := lt_of_at hl2
          have hd : as.drop i = l :: as.drop (i + 1) := by
            rw [List.drop_eq_getElem_cons hi]
            rw [List.getElem?_eq_getElem hi] at hl2
            rw [Option.some.inj hl2]
          rcases hI with ⟨ps, m, rfl, hm, hp, hg⟩ | ⟨⟨q, rfl⟩, hg⟩
          · simp only [notNW_int, bW_bool, iteV_true, lenW_list, rng2W_int, List.length_map, letW_eq]
            refine ⟨⟨by omega, by omega, by omega, by omega⟩, ?_⟩
            have e1 : ((os.length : Int) - (m : Int)).toNat = os.length - m := by omega
            rw [e1]
            refine lc_filter (isAt os l) id (fun x hx e s he => ?_) (by simp; unfold most; omega) ?_
            · obtain ⟨j, hj, rfl⟩ := rngD_mem hx
              have em : ((m : Int) + (j : Nat)) = ((m + j : Nat) : Int) := by omega
              rw [em] at he ⊢
              have hlt : m + j < os.length := by omega
              simp only [ixW_list]
              refine atW_nat (d := .int os[m + j]) (by rw [List.getElem?_map, List.getElem?_eq_getElem hlt]; rfl) ?_
              simp only [eqW_int, bW_bool]
              simp only [isAt, id, Int.toNat_natCast, List.getElem?_eq_getElem hlt, Option.some.injEq, decide_eq_true_eq] at he
              simpa using he
            · rw [filter_cand, List.nil_append, List.map_id]
              simp only [cutW_list]
              rw [show (1 : Int) = ((1 : Nat) : Int) from rfl, cutD_to]
              simp only [addW_list, neW_list_nil, bW_bool]
              rcases cand_cases (l := l) hm with ⟨e, hno⟩ | ⟨t, e, hyes⟩
              · rw [e]
                simp only [List.map_nil, List.take_nil, List.length_nil, List.length_map, decide_true, Bool.not_true, iteV_false]
                refine ⟨by unfold most; omega, hn _ (.inr ⟨⟨_, rfl⟩, ?_⟩)⟩
                rw [hg, hd]
                simp only [greedy, if_neg hno, Option.map_none]
              · rw [e]
                simp only [List.map_cons, List.take_succ_cons, List.take_zero, List.length_map, List.length_cons, List.length_nil, List.cons_ne_nil, decide_false, Bool.not_false, iteV_true, ixW_list]
                refine ⟨by unfold most; omega, atW_zero rfl ?_⟩
                simp only [addW_int]
                refine hn _ (.inl ⟨ps ++ [place l os m], place l os m + 1, by simp, by omega, by simp [hp], ?_⟩)
                rw [hg, hd]
                simp only [greedy, if_pos hyes, Option.map_map]
                congr 1
                funext z
                simp
          · simp only [notNW_none, bW_bool, iteV_false]
            exact hn _ (.inr ⟨⟨q, rfl⟩, hg⟩)
        · -- the answers
          have tail : ∀ s1 : D, (∀ kk, notNW s1 kk = kk (.bool (greedy as os 0).isSome)) → m_is_strewn (.tuple (as.map .int)) (.tuple (os.map .int)) fun x42 => addW (.tuple (os.map .int)) (.tuple [.int 0]) fun x48 => m_is_strewn x48 (.tuple (os.map .int)) fun x45 => notNW s1 fun x50 => m__law_same 9 (.list [x42, x45]) (.list [x50, .bool false]) k := fun s1 hs1 => by
            refine is_strewn_ok w1 h2 (by omega) (by omega) ?_
            simp only [addW_tuple, List.length_map]
            refine ⟨by simp; unfold most; omega, ?_⟩
            have e0 : os.map PyData.int ++ [.int 0] = (os ++ [0]).map .int := by simp
            rw [e0]
            refine is_strewn_ok (fun x hx => ?_) h2 (by simp; omega) (by omega) ?_
            · rcases List.mem_append.mp hx with hx | hx
              · exact h2 x hx
              · simp at hx; subst hx; exact ⟨by decide, by decide⟩
            · have : (greedy (os ++ [0]) os 0).isSome = false := by
                cases hz : (greedy (os ++ [0]) os 0).isSome with
                | false => rfl
                | true =>
                  have := (greedy_sub.mp hz).length_le
                  simp at this
                  omega
              rw [this, hs1]
              refine same_ok (n := 9) ⟨Nat.le_of_ble_eq_true rfl, fun x hx => ?_⟩ hk
              simp only [List.mem_cons, List.not_mem_nil, or_false] at hx
              rcases hx with rfl | rfl <;> exact trivial
          rcases hI with ⟨ps, m, rfl, hm, hp, hg⟩ | ⟨⟨q, rfl⟩, hg⟩
          · rw [List.length_map, List.drop_length] at hg
            simp only [greedy, Option.map_some, List.append_nil] at hg
            simp only [isNW_int, bW_bool, iteV_false, tupW_list]
            rw [hg]
            refine same_ok (n := 9) (sm_out (n := 7) fun r e => by cases e; rw [hp]; simp; omega) ?_
            simp only [bW_bool, Bool.not_true, Bool.false_eq_true, if_false]
            exact tail _ (fun kk => by rw [hg]; rfl)
          · have en : out (greedy as os 0) = .none := by rw [hg]; rfl
            rw [en]
            show isNW PyData.none _
            rw [isNW_none, bW_bool, iteV_true]
            refine same_ok (n := 9) trivial ?_
            rw [bW_bool]
            exact tail _ (fun kk => by rw [hg]; rfl)
theorem wd_app {a b : List Int} (h1 : Wd 3 a) (h2 : Wd 3 b) : Wd 3 (a ++ b) := fun x hx => (List.mem_append.mp hx).elim (h1 x) (h2 x)
theorem tu_app {a b : List Int} : (PyData.tuple (a.map .int ++ b.map .int)) = tu (a ++ b) := by unfold tu; rw [List.map_append]
theorem repr2 {a b : List Int} (h1 : Wd 3 a) (h2 : Wd 3 b) (l1 : a.length ≤ 12) (l2 : b.length ≤ 12) (hk : k (.str (PyData.shown (.list [tu a, tu b])))) : reprW (.list [tu a, tu b]) k := by
  have s1 : smallAll (a.map .int) = true := smalls_ints fun x hx => by have := h1 x hx; omega
  have s2 : smallAll (b.map .int) = true := smalls_ints fun x hx => by have := h2 x hx; omega
  refine repr_ok trivial (by simp [tu, s1, s2]) ?_ ?_ hk
  · rw [depth_list, depthAll_cons, depthAll_cons, depth_tu, depth_tu, depthAll_nil]
    decide
  · simp only [bulk_list, bulkAll_cons, bulkAll_nil, bulk_tuple, bulkAll_ints]
    omega
theorem law_holds (ns : List Int) (hn : ns.length ≤ 63) : m_law (.list (ns.map .int)) fun d => d = .bool true := by
  unfold m_law
  simp only [lenW_list, min2W_int, max2W_int, rng1W_int, List.length_map]
  have hb : ∀ z : Int, z = (if (if (ns.length : Int) < 2 then (ns.length : Int) else 2) > 1 then (if (ns.length : Int) < 2 then (ns.length : Int) else 2) else 1) → 1 ≤ z ∧ z ≤ 2 := fun z hz => by split at hz <;> split at hz <;> omega
  generalize hz : (if (if (ns.length : Int) < 2 then (ns.length : Int) else 2) > 1 then (if (ns.length : Int) < 2 then (ns.length : Int) else 2) else 1) = z at hb ⊢
  obtain ⟨z1, z2⟩ := hb z rfl
  refine ⟨⟨by omega, by omega⟩, ?_⟩
  refine for_inv (I := fun _ _ => True) trivial (fun i x s nx hx _ hn2 => ?_) fun s _ => trivial
  obtain ⟨t, ht, rfl⟩ : ∃ t : Nat, t ≤ 10 ∧ x = .int t := by
    obtain ⟨h1, h2⟩ := rngD_at hx
    exact ⟨i, by omega, by rw [h2]; congr 1; omega⟩
  refine well_ok hn ht fun wx wy w0 w1 w2 => ⟨[wx, wy], rfl, ⟨wx, wy, rfl, w0, w1, w2⟩, ?_⟩
  refine ⟨⟨by omega, by omega⟩, ?_⟩
  refine for_inv (I := fun _ _ => True) trivial (fun i x s nx hx _ hn3 => ?_) fun s _ => ?_
  · refine take_ok (by decide) (by decide) fun kk k0 k1 => ?_
    show addW (.int 1) (.int kk) _
    rw [addW_int]
    show letW (PyData.int (1 + kk)) _
    rw [letW_eq]
    refine word_ok (by omega) (by omega) (by decide) (by decide) fun os lo wo => ?_
    have wo3 : Wd 3 os := fun x hx => by have := wo x hx; omega
    show letW (tu os) _
    rw [letW_eq]
    refine take_ok (by decide) (by decide) fun q q0 q1 => ?_
    show gtW (.int q) (.int 0) _
    rw [gtW_int, bW_bool]
    refine iteV_inv (P := fun s => ∃ as : List Int, s = tu as ∧ as.length ≤ 9 ∧ Wd 3 as) (fun _ kk hkk => left_ok wo3 (by omega) fun ms h1 h2 => hkk _ ⟨ms, rfl, by omega, h2⟩) (fun _ kk hkk => word_ok (by omega) (by omega) (by decide) (by decide) fun ms h1 h2 => hkk _ ⟨ms, rfl, by omega, fun x hx => by have := h2 x hx; omega⟩) fun s hs => ?_
    obtain ⟨as, rfl, la, wa⟩ := hs
    have lo' : os.length ≤ 9 := by omega
    show letW (tu as) _
    rw [letW_eq]
    refine repr2 wa wo3 (by omega) (by omega) ?_
    show letW (PyData.str _) _
    rw [letW_eq]
    refine right_ok wa wo3 (by omega) (by omega) ?_
    rw [bW_bool]
    show orB false _ _
    rw [orB_false]
    refine right_ok wo3 wa (by omega) (by omega) ?_
    rw [bW_bool]
    show orB false _ _
    rw [orB_false]
    refine right_ok wa wa (by omega) (by omega) ?_
    rw [bW_bool]
    show orB false _ _
    rw [orB_false]
    refine right_ok (a := []) (fun _ h => nomatch h) wo3 (by decide) (by omega) ?_
    rw [bW_bool]
    refine L2.iteF ?_
    show addW (tu os) (tu as) _
    rw [addW_tuple, tu_app]
    refine ⟨by simp; unfold most; omega, is_strewn_ok wa (wd_app wo3 wa) (by omega) (by simp; omega) ?_⟩
    rw [greedy_sub.mpr (List.sublist_append_right os as), notBW_bool, bW_bool]
    show orB false _ _
    rw [orB_false]
    show addW (tu as) (tu os) _
    rw [addW_tuple, tu_app]
    refine ⟨by simp; unfold most; omega, is_strewn_ok wa (wd_app wa wo3) (by omega) (by simp; omega) ?_⟩
    rw [greedy_sub.mpr (List.sublist_append_left as os), notBW_bool, bW_bool]
    show orB false _ _
    rw [orB_false]
    refine repr2 wa wo3 (by omega) (by omega) ?_
    rw [neW_str, bW_bool, decide_eq_true rfl]
    refine L2.iteF ?_
    exact hn3 _ trivial
  · refine long_ok ?_
    rw [bW_bool]
    exact hn2 _ trivial
end
end K01

set_option maxHeartbeats 4000001
namespace K01
open PySem PySem.Spec PyProof.Rows L2 DW MG MR MW GX
def topS (i : Nat) : Stmt := PySem.Challenge.pw_wholelost_k01_whole_words_strewn_in_word.main.body.getD i (.Pass ⟨0, 0, 0, 0⟩)
abbrev s_is_integer : Stmt := topS 5
abbrev N_is_integer : List Str := ["value"]
theorem sc_is_integer : FnScope N_is_integer ["value"] (defScope s_is_integer) := ⟨rfl, rfl, rfl, by decide +kernel, rfl, by decide +kernel, by decide +kernel⟩
abbrev s_is_natural : Stmt := topS 6
abbrev N_is_natural : List Str := ["value"]
theorem sc_is_natural : FnScope N_is_natural ["value"] (defScope s_is_natural) := ⟨rfl, rfl, rfl, by decide +kernel, rfl, by decide +kernel, by decide +kernel⟩
abbrev s_is_below : Stmt := topS 7
abbrev N_is_below : List Str := ["value", "many"]
theorem sc_is_below : FnScope N_is_below ["value", "many"] (defScope s_is_below) := ⟨rfl, rfl, rfl, by decide +kernel, rfl, by decide +kernel, by decide +kernel⟩
abbrev s_is_letters : Stmt := topS 8
abbrev N_is_letters : List Str := ["k", "value", "letter"]
theorem sc_is_letters : FnScope N_is_letters ["k", "value"] (defScope s_is_letters) := ⟨rfl, rfl, rfl, by decide +kernel, rfl, by decide +kernel, by decide +kernel⟩
abbrev s_is_word_of : Stmt := topS 10
abbrev N_is_word_of : List Str := ["k", "told"]
theorem sc_is_word_of : FnScope N_is_word_of ["k", "told"] (defScope s_is_word_of) := ⟨rfl, rfl, rfl, by decide +kernel, rfl, by decide +kernel, by decide +kernel⟩
abbrev s_check_word : Stmt := topS 11
abbrev N_check_word : List Str := ["k", "word"]
theorem sc_check_word : FnScope N_check_word ["k", "word"] (defScope s_check_word) := ⟨rfl, rfl, rfl, by decide +kernel, rfl, by decide +kernel, by decide +kernel⟩
abbrev s_found_in : Stmt := topS 12
abbrev N_found_in : List Str := ["one", "other", "found", "at", "letter"]
theorem sc_found_in : FnScope N_found_in ["one", "other"] (defScope s_found_in) := ⟨rfl, rfl, rfl, by decide +kernel, rfl, by decide +kernel, by decide +kernel⟩
abbrev s_strewn_in : Stmt := topS 13
abbrev N_strewn_in : List Str := ["one", "other"]
theorem sc_strewn_in : FnScope N_strewn_in ["one", "other"] (defScope s_strewn_in) := ⟨rfl, rfl, rfl, by decide +kernel, rfl, by decide +kernel, by decide +kernel⟩
abbrev s_is_strewn : Stmt := topS 14
abbrev N_is_strewn : List Str := ["one", "other"]
theorem sc_is_strewn : FnScope N_is_strewn ["one", "other"] (defScope s_is_strewn) := ⟨rfl, rfl, rfl, by decide +kernel, rfl, by decide +kernel, by decide +kernel⟩
abbrev s_places_in : Stmt := topS 15
abbrev N_places_in : List Str := ["one", "other"]
theorem sc_places_in : FnScope N_places_in ["one", "other"] (defScope s_places_in) := ⟨rfl, rfl, rfl, by decide +kernel, rfl, by decide +kernel, by decide +kernel⟩
abbrev s__law_well : Stmt := topS 17
abbrev N__law_well : List Str := ["script", "at", "mixed", "cell", "digits"]
theorem sc__law_well : FnScope N__law_well ["script", "at"] (defScope s__law_well) := ⟨rfl, rfl, rfl, by decide +kernel, rfl, by decide +kernel, by decide +kernel⟩
abbrev s__law_take : Stmt := topS 18
abbrev N__law_take : List Str := ["well", "many", "found", "mixed"]
theorem sc__law_take : FnScope N__law_take ["well", "many"] (defScope s__law_take) := ⟨rfl, rfl, rfl, by decide +kernel, rfl, by decide +kernel, by decide +kernel⟩
abbrev s__law_same : Stmt := topS 19
abbrev N__law_same : List Str := ["told", "due", "at"]
theorem sc__law_same : FnScope N__law_same ["told", "due"] (defScope s__law_same) := ⟨rfl, rfl, rfl, by decide +kernel, rfl, by decide +kernel, by decide +kernel⟩
abbrev s__law_word : Stmt := topS 20
abbrev N__law_word : List Str := ["well", "k", "most", "at"]
theorem sc__law_word : FnScope N__law_word ["well", "k", "most"] (defScope s__law_word) := ⟨rfl, rfl, rfl, by decide +kernel, rfl, by decide +kernel, by decide +kernel⟩
abbrev s__law_left : Stmt := topS 21
abbrev N__law_left : List Str := ["well", "word", "found", "letter"]
theorem sc__law_left : FnScope N__law_left ["well", "word"] (defScope s__law_left) := ⟨rfl, rfl, rfl, by decide +kernel, rfl, by decide +kernel, by decide +kernel⟩
abbrev s__law_first : Stmt := topS 22
abbrev N__law_first : List Str := ["one", "other", "rows", "letter", "longer", "row", "begin", "at"]
theorem sc__law_first : FnScope N__law_first ["one", "other"] (defScope s__law_first) := ⟨rfl, rfl, rfl, by decide +kernel, rfl, by decide +kernel, by decide +kernel⟩
abbrev s__law_right : Stmt := topS 23
abbrev N__law_right : List Str := ["one", "other", "due", "told"]
theorem sc__law_right : FnScope N__law_right ["one", "other"] (defScope s__law_right) := ⟨rfl, rfl, rfl, by decide +kernel, rfl, by decide +kernel, by decide +kernel⟩
abbrev s__law_is_long_right : Stmt := topS 24
abbrev N__law_is_long_right : List Str := ["well", "k", "other", "one", "begin", "sort", "step", "letter", "told", "due", "ahead", "at"]
theorem sc__law_is_long_right : FnScope N__law_is_long_right ["well"] (defScope s__law_is_long_right) := ⟨rfl, rfl, rfl, by decide +kernel, rfl, by decide +kernel, by decide +kernel⟩
abbrev s_law : Stmt := topS 25
abbrev N_law : List Str := ["script", "at", "well", "turn", "k", "other", "one", "kept"]
theorem sc_law : FnScope N_law ["script"] (defScope s_law) := ⟨rfl, rfl, rfl, by decide +kernel, rfl, by decide +kernel, by decide +kernel⟩
structure Tx (K : PySem.W.Frag) (mg : Str → Option Value) (base : Heap) where
  a_is_integer : Addr
  d_is_integer : FuncData
  F_is_integer : Fun K "is_integer" "is_integer" s_is_integer a_is_integer d_is_integer
  m_is_integer : mg "is_integer" = some (.ref a_is_integer)
  b_is_integer : Binds K d_is_integer ["value"] []
  a_is_natural : Addr
  d_is_natural : FuncData
  F_is_natural : Fun K "is_natural" "is_natural" s_is_natural a_is_natural d_is_natural
  m_is_natural : mg "is_natural" = some (.ref a_is_natural)
  b_is_natural : Binds K d_is_natural ["value"] []
  a_is_below : Addr
  d_is_below : FuncData
  F_is_below : Fun K "is_below" "is_below" s_is_below a_is_below d_is_below
  m_is_below : mg "is_below" = some (.ref a_is_below)
  b_is_below : Binds K d_is_below ["value", "many"] []
  a_is_letters : Addr
  d_is_letters : FuncData
  F_is_letters : Fun K "is_letters" "is_letters" s_is_letters a_is_letters d_is_letters
  m_is_letters : mg "is_letters" = some (.ref a_is_letters)
  b_is_letters : Binds K d_is_letters ["k", "value"] []
  k_is_letters : Addr
  p_is_letters : Addr
  c_is_letters : d_is_letters.code = .ref k_is_letters
  t_is_letters : LamX.TabB base mg k_is_letters p_is_letters
  a_is_word_of : Addr
  d_is_word_of : FuncData
  F_is_word_of : Fun K "is_word_of" "is_word_of" s_is_word_of a_is_word_of d_is_word_of
  m_is_word_of : mg "is_word_of" = some (.ref a_is_word_of)
  b_is_word_of : Binds K d_is_word_of ["k", "told"] []
  a_check_word : Addr
  d_check_word : FuncData
  F_check_word : Fun K "check_word" "check_word" s_check_word a_check_word d_check_word
  m_check_word : mg "check_word" = some (.ref a_check_word)
  b_check_word : Binds K d_check_word ["k", "word"] []
  a_found_in : Addr
  d_found_in : FuncData
  F_found_in : Fun K "found_in" "found_in" s_found_in a_found_in d_found_in
  m_found_in : mg "found_in" = some (.ref a_found_in)
  b_found_in : Binds K d_found_in ["one", "other"] []
  a_strewn_in : Addr
  d_strewn_in : FuncData
  F_strewn_in : Fun K "strewn_in" "strewn_in" s_strewn_in a_strewn_in d_strewn_in
  m_strewn_in : mg "strewn_in" = some (.ref a_strewn_in)
  b_strewn_in : Binds K d_strewn_in ["one", "other"] []
  a_is_strewn : Addr
  d_is_strewn : FuncData
  F_is_strewn : Fun K "is_strewn" "is_strewn" s_is_strewn a_is_strewn d_is_strewn
  m_is_strewn : mg "is_strewn" = some (.ref a_is_strewn)
  b_is_strewn : Binds K d_is_strewn ["one", "other"] []
  a_places_in : Addr
  d_places_in : FuncData
  F_places_in : Fun K "places_in" "places_in" s_places_in a_places_in d_places_in
  m_places_in : mg "places_in" = some (.ref a_places_in)
  b_places_in : Binds K d_places_in ["one", "other"] []
  a__law_well : Addr
  d__law_well : FuncData
  F__law_well : Fun K "_law_well" "_law_well" s__law_well a__law_well d__law_well
  m__law_well : mg "_law_well" = some (.ref a__law_well)
  b__law_well : Binds K d__law_well ["script", "at"] []
  a__law_take : Addr
  d__law_take : FuncData
  F__law_take : Fun K "_law_take" "_law_take" s__law_take a__law_take d__law_take
  m__law_take : mg "_law_take" = some (.ref a__law_take)
  b__law_take : Binds K d__law_take ["well", "many"] []
  a__law_same : Addr
  d__law_same : FuncData
  F__law_same : Fun K "_law_same" "_law_same" s__law_same a__law_same d__law_same
  m__law_same : mg "_law_same" = some (.ref a__law_same)
  b__law_same : Binds K d__law_same ["told", "due"] []
  a__law_word : Addr
  d__law_word : FuncData
  F__law_word : Fun K "_law_word" "_law_word" s__law_word a__law_word d__law_word
  m__law_word : mg "_law_word" = some (.ref a__law_word)
  b__law_word : Binds K d__law_word ["well", "k", "most"] []
  a__law_left : Addr
  d__law_left : FuncData
  F__law_left : Fun K "_law_left" "_law_left" s__law_left a__law_left d__law_left
  m__law_left : mg "_law_left" = some (.ref a__law_left)
  b__law_left : Binds K d__law_left ["well", "word"] []
  a__law_first : Addr
  d__law_first : FuncData
  F__law_first : Fun K "_law_first" "_law_first" s__law_first a__law_first d__law_first
  m__law_first : mg "_law_first" = some (.ref a__law_first)
  b__law_first : Binds K d__law_first ["one", "other"] []
  a__law_right : Addr
  d__law_right : FuncData
  F__law_right : Fun K "_law_right" "_law_right" s__law_right a__law_right d__law_right
  m__law_right : mg "_law_right" = some (.ref a__law_right)
  b__law_right : Binds K d__law_right ["one", "other"] []
  a__law_is_long_right : Addr
  d__law_is_long_right : FuncData
  F__law_is_long_right : Fun K "_law_is_long_right" "_law_is_long_right" s__law_is_long_right a__law_is_long_right d__law_is_long_right
  m__law_is_long_right : mg "_law_is_long_right" = some (.ref a__law_is_long_right)
  b__law_is_long_right : Binds K d__law_is_long_right ["well"] []
  a_law : Addr
  d_law : FuncData
  F_law : Fun K "law" "law" s_law a_law d_law
  m_law : mg "law" = some (.ref a_law)
  b_law : Binds K d_law ["script"] []
  n_abs : mg "abs" = none
  n_all : mg "all" = none
  n_bool : mg "bool" = none
  n_int : mg "int" = none
  n_isinstance : mg "isinstance" = none
  n_len : mg "len" = none
  n_list : mg "list" = none
  n_max : mg "max" = none
  n_min : mg "min" = none
  n_range : mg "range" = none
  n_repr : mg "repr" = none
  n_str : mg "str" = none
  n_tuple : mg "tuple" = none
  g_MOST_LETTERS : ∃ t, mg "MOST_LETTERS" = some (.int 3 t)
variable {P : Program} {w : World} {K : PySem.W.Frag} {mg : Str → Option Value} {base : Heap}
def Γ (T : Tx K mg base) : Gam := ⟨K, [T.p_is_letters], WI⟩
theorem Tx.q_is_letters (T : Tx K mg base) : T.p_is_letters ∈ (Γ T).cs := .head _
theorem ok_is_integer (T : Tx K mg base) : FnG P w K mg base CX0 1 T.a_is_integer T.d_is_integer ["value"] (cpsSp (Γ T) 1 (n1 m_is_integer)) := by
  have sc := sc_is_integer
  refine def_c T.F_is_integer sc_is_integer fun cd A out s H E hc hr => ⟨_, (pss_one (ps_ret (pe_and (pe_callB (cl_isi (K := K) rfl) (by rfl) T.n_isinstance (by decide +kernel) (pa_cons (pv 0) (pa_cons (pe_bltn (v := .ty "int") (by rfl) T.n_int (by decide +kernel) rfl) pa_nil))) (pe_one (pe_not (pe_callB (cl_isi (K := K) rfl) (by rfl) T.n_isinstance (by decide +kernel) (pa_cons (pv 0) (pa_cons (pe_bltn (v := .ty "bool") (by rfl) T.n_bool (by decide +kernel) rfl) pa_nil)))))))), fun ds r hl hm => match ds, hl, hm with | [value], _, h => ?_⟩
  have h : m_is_integer value r := h
  unfold m_is_integer at h
  show wS (Γ T) _ [some (.d value)] _
  exact s_ret (w_andE (w_isiM (wE.r (w_var (i := 0) rfl (h)))) fun k5 h => w_notVM (w_isiM (wE.r (w_var (i := 0) rfl (h)))))
theorem ok_is_natural (T : Tx K mg base) : FnG P w K mg base CX0 2 T.a_is_natural T.d_is_natural ["value"] (cpsSp (Γ T) 1 (n1 m_is_natural)) := by
  have sc := sc_is_natural
  refine def_c T.F_is_natural sc_is_natural fun cd A out s H E hc hr => ⟨_, (pss_one (ps_ret (pe_and (pe_cg (ok_is_integer T) (hr.mono (by decide)) (by rfl) T.m_is_integer T.F_is_integer.kp T.b_is_integer .nil pass0 (pa_cons (pv 0) pa_nil)) (pe_one (pe_cmpR op_ge (pv 0) pe_int (nomark _)))))), fun ds r hl hm => match ds, hl, hm with | [value], _, h => ?_⟩
  have h : m_is_natural value r := h
  unfold m_is_natural at h
  show wS (Γ T) _ [some (.d value)] _
  exact s_ret (w_andE (w_cc (w_cons (w_var (i := 0) rfl (w_nil (⟨rfl, h⟩))))) fun k4 h => w_ge (w_var (i := 0) rfl (w_int (h))))
theorem ok_is_below (T : Tx K mg base) : FnG P w K mg base CX0 3 T.a_is_below T.d_is_below ["value", "many"] (cpsSp (Γ T) 2 (n2 m_is_below)) := by
  have sc := sc_is_below
  refine def_c T.F_is_below sc_is_below fun cd A out s H E hc hr => ⟨_, (pss_one (ps_ret (pe_and (pe_cg (ok_is_natural T) (hr.mono (by decide)) (by rfl) T.m_is_natural T.F_is_natural.kp T.b_is_natural .nil pass0 (pa_cons (pv 0) pa_nil)) (pe_one (pe_cmpR (op_ltK (K := K) hr rfl) (pv 0) (pv 1) (nomark _)))))), fun ds r hl hm => match ds, hl, hm with | [value, many], _, h => ?_⟩
  have h : m_is_below value many r := h
  unfold m_is_below at h
  show wS (Γ T) _ [some (.d value), some (.d many)] _
  exact s_ret (w_andE (w_cc (w_cons (w_var (i := 0) rfl (w_nil (⟨rfl, h⟩))))) fun k4 h => w_lt (w_var (i := 0) rfl (w_var (i := 1) rfl (h))))
theorem ok_is_letters (T : Tx K mg base) : FnG P w K mg base CX0 7 T.a_is_letters T.d_is_letters ["k", "value"] (cpsSp (Γ T) 2 (n2 m_is_letters)) := by
  have sc := sc_is_letters
  refine def_c T.F_is_letters sc_is_letters fun cd A out s H E hc hr => ⟨_, (pss_one (ps_ret (pe_and (pe_callB (cl_isi (K := K) rfl) (by rfl) T.n_isinstance (by decide +kernel) (pa_cons (pv 1) (pa_cons (pe_bltn (v := .ty "tuple") (by rfl) T.n_tuple (by decide +kernel) rfl) pa_nil))) (pe_one (pe_gx (sv := false) (own := [("letter", 2)]) (by decide) hr.r (by rfl) T.n_all T.t_is_letters (hc.symm.trans T.c_is_letters) sc.nd (blkOk_by (N := N_is_letters) (sc := defScope s_is_letters) (by decide +kernel)) (gxs_by (by decide +kernel)) (pi_seqK (K := K) rfl (pv 1)) (fun _ _ _ _ _ _ _ => (pg_name (i := 2) sc.nd rfl (by first | exact Or.inl rfl | exact Or.inr rfl))) (fun _ _ _ _ _ _ _ => pts_nil) (fun _ _ _ _ _ _ _ => (pe_cg (ok_is_below T) ((hr.mono (j := 6) (by decide)).gx _) (by rfl) T.m_is_below T.F_is_below.kp T.b_is_below .nil pass0 (pa_cons (pv 2) (pa_cons (pv 0) pa_nil))))))))), fun ds r hl hm => match ds, hl, hm with | [k_, value], _, h => ?_⟩
  have h : m_is_letters k_ value r := h
  unfold m_is_letters at h
  show wS (Γ T) _ [some (.d k_), some (.d value), none] _
  exact s_ret (w_andE (w_isiM (wE.r (w_var (i := 1) rfl (h)))) fun k9 h => w_gxM T.q_is_letters (go_name (by decide)) (i_seq (w_var (i := 1) rfl (h))) (fun y3 e4 z5 h => g_name (w_yes (yesIf (w_cc (w_cons (w_var (i := 2) rfl (w_cons (w_var (i := 0) rfl (w_nil (⟨rfl, h⟩)))))))))))
theorem ok_is_word_of (T : Tx K mg base) : FnG P w K mg base CX0 8 T.a_is_word_of T.d_is_word_of ["k", "told"] (cpsSp (Γ T) 2 (n2 m_is_word_of)) := by
  have sc := sc_is_word_of
  refine def_c T.F_is_word_of sc_is_word_of fun cd A out s H E hc hr => ⟨_, (pss_one (ps_ret (pe_cg (ok_is_letters T) (hr.mono (by decide)) (by rfl) T.m_is_letters T.F_is_letters.kp T.b_is_letters .nil pass0 (pa_cons (pv 0) (pa_cons (pv 1) pa_nil))))), fun ds r hl hm => match ds, hl, hm with | [k_, told], _, h => ?_⟩
  have h : m_is_word_of k_ told r := h
  unfold m_is_word_of at h
  show wS (Γ T) _ [some (.d k_), some (.d told)] _
  exact s_ret (w_cc (w_cons (w_var (i := 0) rfl (w_cons (w_var (i := 1) rfl (w_nil (⟨rfl, h⟩)))))))
theorem ok_check_word (T : Tx K mg base) : FnG P w K mg base CX0 9 T.a_check_word T.d_check_word ["k", "word"] (cpsSp (Γ T) 2 (n2 m_check_word)) := by
  have sc := sc_check_word
  refine def_c T.F_check_word sc_check_word fun cd A out s H E hc hr => ⟨_, (pss_one (ps_if (pt_not (pt_val (pe_cg (ok_is_word_of T) (hr.mono (by decide)) (by rfl) T.m_is_word_of T.F_is_word_of.kp T.b_is_word_of .nil pass0 (pa_cons (pv 0) (pa_cons (pv 1) pa_nil))))) (pss_one ps_never) pss_nil)), fun ds r hl hm => match ds, hl, hm with | [k_, word], _, h => ?_⟩
  have h : m_check_word k_ word r := h
  unfold m_check_word at h
  show wS (Γ T) _ [some (.d k_), some (.d word)] _
  exact s_if (w_not ((w_bB (w_cc (w_cons (w_var (i := 0) rfl (w_cons (w_var (i := 1) rfl (w_nil (⟨rfl, h⟩)))))))).mono fun b2 h => iteM h (fun h => h.elim) (fun h => s_next h)))
theorem ok_found_in (T : Tx K mg base) : FnG P w K mg base CX0 1 T.a_found_in T.d_found_in ["one", "other"] (cpsSp (Γ T) 2 (n2 m_found_in)) := by
  have sc := sc_found_in
  refine def_c T.F_found_in sc_found_in fun cd A out s H E hc hr => ⟨_, (pss_cons (ps_par (i := 2) (j := 3) rfl sc.nd rfl rfl (by decide) rfl rfl (pa_cons (pe_lst pa_nil) (pa_cons pe_int pa_nil)) rfl)
    (pss_cons (ps_for PassesOwn.never rfl (pi_seqK (K := K) rfl (pv 0)) (pg_name (i := 4) sc.nd rfl (by first | exact Or.inl rfl | exact Or.inr rfl)) (pss_cons (ps_while PassesOwn.never (PW.pt (pw_and (pt_cmpR (op_ltK (K := K) hr rfl) (pv 3) (pe_callB (cl_len (K := K) rfl) (by rfl) T.n_len (by decide +kernel) (pa_cons (pv 1) pa_nil)) (nomark _)) (pw_and1 (pt_cmpR (op_neK (K := K) hr rfl) (pe_ix (ix_K (K := K) rfl) (pv 1) (pv 3) (fun _ _ => rfl)) (pv 4) (nomark _))))) (pss_one (ps_aug (i := 3) sc.nd rfl (by first | exact Or.inl rfl | exact Or.inr rfl) pe_int ip_add)))
    (pss_cons (ps_if (pt_cmpR (op_eqK (K := K) hr rfl) (pv 3) (pe_callB (cl_len (K := K) rfl) (by rfl) T.n_len (by decide +kernel) (pa_cons (pv 1) pa_nil)) (nomark _)) (pss_one (ps_ret pe_non)) pss_nil)
    (pss_cons (ps_expr (pe_bm PySem.F.plainAttrs_list PySem.F.slot_list_append PySem.F.type_list_append mt_append (pv 2) (pa_cons (pv 3) pa_nil)))
    (pss_one (ps_aug (i := 3) sc.nd rfl (by first | exact Or.inl rfl | exact Or.inr rfl) pe_int ip_add))))))
    (pss_one (ps_ret (pe_callTy (cl_tup (K := K) rfl) (by rfl) T.n_tuple (by decide +kernel) (pa_cons (pv 2) pa_nil)))))), fun ds r hl hm => match ds, hl, hm with | [one, other], _, h => ?_⟩
  have h : m_found_in one other r := h
  unfold m_found_in at h
  show wS (Γ T) _ [some (.d one), some (.d other), none, none, none] _
  exact s_seq (s_par2 (m_n (w_lst (w_nil (⟨lenOk, m_d (w_int (m_nil ⟨_, _, rfl, s_seq (s_forM (S := List D × D) (fun s3 => [some (.d one), some (.d other), some (.l s3.1), some (.d s3.2), none]) ([], (.int 0)) ⟨.inr rfl, .inr rfl, .inr rfl, .inr rfl, .inl rfl, trivial⟩ (is_seqM (w_var (i := 0) rfl (h))) (fun letter6 s3 nx4 h => g_name (s_seq (s_whileM (S := D) (fun s8 => [some (.d one), some (.d other), some (.l s3.1), some (.d s8), some (.d letter6)]) s3.2 ⟨.inr rfl, .inr rfl, .inr rfl, .inr rfl, .inr rfl, trivial⟩ h (fun s8 k25 h => w_andT (w_bT (w_lt (w_var (i := 3) rfl (w_lenM (wE.r (w_var (i := 1) rfl (h))))))) fun k23 h => w_bT (w_ne (wE.r ((w_ix (w_var (i := 1) rfl (w_var (i := 3) rfl (h)))).mono fun x20 h => wE.r (w_var (i := 4) rfl (h)))))) (fun s8 nx9 h => s_auM rfl (w_int (h)) fun at_26 h => ⟨at_26, ⟨.inr rfl, .inr rfl, .inr rfl, .inr rfl, .inr rfl, trivial⟩, h⟩) fun s8 h => s_seq (s_if ((w_bT (w_eq (wE.r (w_var (i := 3) rfl (wE.r (w_lenM (wE.r (w_var (i := 1) rfl (h))))))))).mono fun b14 h => iteM h (fun h => s_ret (w_non (h))) (fun h => s_next (s_seq (s_apM rfl (w_var (i := 3) rfl (h)) fun found15 h => s_auM rfl (w_int (h)) fun at_16 h => ⟨(found15, at_16), ⟨.inr rfl, .inr rfl, .inr rfl, .inr rfl, .inl rfl, trivial⟩, h⟩)))))))) fun s3 h => s_ret (w_tupleL (w_varL (i := 2) rfl (h))))⟩))⟩)))))
theorem ok_strewn_in (T : Tx K mg base) : FnG P w K mg base CX0 2 T.a_strewn_in T.d_strewn_in ["one", "other"] (cpsSp (Γ T) 2 (n2 m_strewn_in)) := by
  have sc := sc_strewn_in
  refine def_c T.F_strewn_in sc_strewn_in fun cd A out s H E hc hr => ⟨_, (pss_one (ps_ret (pe_cmpR op_notN (pe_cg (ok_found_in T) (hr.mono (by decide)) (by rfl) T.m_found_in T.F_found_in.kp T.b_found_in .nil pass0 (pa_cons (pv 0) (pa_cons (pv 1) pa_nil))) pe_non (nomark _)))), fun ds r hl hm => match ds, hl, hm with | [one, other], _, h => ?_⟩
  have h : m_strewn_in one other r := h
  unfold m_strewn_in at h
  show wS (Γ T) _ [some (.d one), some (.d other)] _
  exact s_ret (w_notNM (wE.r (w_cc (w_cons (w_var (i := 0) rfl (w_cons (w_var (i := 1) rfl (w_nil (⟨rfl, h⟩)))))))))
theorem ok_is_strewn (T : Tx K mg base) : FnG P w K mg base CX0 10 T.a_is_strewn T.d_is_strewn ["one", "other"] (cpsSp (Γ T) 2 (n2 m_is_strewn)) := by
  have sc := sc_is_strewn
  refine def_c T.F_is_strewn sc_is_strewn fun cd A out s H E hc hr => ⟨_, (pss_cons (ps_expr (pe_cg (ok_check_word T) (hr.mono (by decide)) (by rfl) T.m_check_word T.F_check_word.kp T.b_check_word .nil pass0 (pa_cons (pe_glob (by rfl) T.g_MOST_LETTERS.choose_spec (v := .int 3) ⟨_, rfl⟩) (pa_cons (pv 0) pa_nil))))
    (pss_cons (ps_expr (pe_cg (ok_check_word T) (hr.mono (by decide)) (by rfl) T.m_check_word T.F_check_word.kp T.b_check_word .nil pass0 (pa_cons (pe_glob (by rfl) T.g_MOST_LETTERS.choose_spec (v := .int 3) ⟨_, rfl⟩) (pa_cons (pv 1) pa_nil))))
    (pss_one (ps_ret (pe_cg (ok_strewn_in T) (hr.mono (by decide)) (by rfl) T.m_strewn_in T.F_strewn_in.kp T.b_strewn_in .nil pass0 (pa_cons (pv 0) (pa_cons (pv 1) pa_nil))))))), fun ds r hl hm => match ds, hl, hm with | [one, other], _, h => ?_⟩
  have h : m_is_strewn one other r := h
  unfold m_is_strewn at h
  show wS (Γ T) _ [some (.d one), some (.d other)] _
  exact s_seq (s_dropM (k := fun _ => _) (w_cc (w_cons (w_int (w_cons (w_var (i := 0) rfl (w_nil (⟨rfl, h⟩))))))) fun _ h => s_seq (s_dropM (k := fun _ => _) (w_cc (w_cons (w_int (w_cons (w_var (i := 1) rfl (w_nil (⟨rfl, h⟩))))))) fun _ h => s_ret (w_cc (w_cons (w_var (i := 0) rfl (w_cons (w_var (i := 1) rfl (w_nil (⟨rfl, h⟩)))))))))
theorem ok_places_in (T : Tx K mg base) : FnG P w K mg base CX0 10 T.a_places_in T.d_places_in ["one", "other"] (cpsSp (Γ T) 2 (n2 m_places_in)) := by
  have sc := sc_places_in
  refine def_c T.F_places_in sc_places_in fun cd A out s H E hc hr => ⟨_, (pss_cons (ps_expr (pe_cg (ok_check_word T) (hr.mono (by decide)) (by rfl) T.m_check_word T.F_check_word.kp T.b_check_word .nil pass0 (pa_cons (pe_glob (by rfl) T.g_MOST_LETTERS.choose_spec (v := .int 3) ⟨_, rfl⟩) (pa_cons (pv 0) pa_nil))))
    (pss_cons (ps_expr (pe_cg (ok_check_word T) (hr.mono (by decide)) (by rfl) T.m_check_word T.F_check_word.kp T.b_check_word .nil pass0 (pa_cons (pe_glob (by rfl) T.g_MOST_LETTERS.choose_spec (v := .int 3) ⟨_, rfl⟩) (pa_cons (pv 1) pa_nil))))
    (pss_one (ps_ret (pe_cg (ok_found_in T) (hr.mono (by decide)) (by rfl) T.m_found_in T.F_found_in.kp T.b_found_in .nil pass0 (pa_cons (pv 0) (pa_cons (pv 1) pa_nil))))))), fun ds r hl hm => match ds, hl, hm with | [one, other], _, h => ?_⟩
  have h : m_places_in one other r := h
  unfold m_places_in at h
  show wS (Γ T) _ [some (.d one), some (.d other)] _
  exact s_seq (s_dropM (k := fun _ => _) (w_cc (w_cons (w_int (w_cons (w_var (i := 0) rfl (w_nil (⟨rfl, h⟩))))))) fun _ h => s_seq (s_dropM (k := fun _ => _) (w_cc (w_cons (w_int (w_cons (w_var (i := 1) rfl (w_nil (⟨rfl, h⟩))))))) fun _ h => s_ret (w_cc (w_cons (w_var (i := 0) rfl (w_cons (w_var (i := 1) rfl (w_nil (⟨rfl, h⟩)))))))))
theorem ok__law_well (T : Tx K mg base) : FnG P w K mg base CX0 1 T.a__law_well T.d__law_well ["script", "at"] (nwSp (Γ T) 2 (l2 m__law_well)) := by
  have sc := sc__law_well
  refine def_n T.F__law_well sc__law_well fun cd A out s H E hc hr => ⟨_, (pss_cons (ps_set (i := 2) sc.nd rfl (by first | exact Or.inl rfl | exact Or.inr rfl) (pe_op (op_addK (K := K) rfl) pe_int (pe_callB (cl_len (K := K) rfl) (by rfl) T.n_len (by decide +kernel) (pa_cons (pe_slice (sl_K (K := K) rfl) (pv 0) po_none (po_some pe_int)) pa_nil))))
    (pss_cons (ps_for PassesOwn.never rfl (pi_seqK (K := K) rfl (pe_slice (sl_K (K := K) rfl) (pv 0) po_none (po_some pe_int))) (pg_name (i := 3) sc.nd rfl (by first | exact Or.inl rfl | exact Or.inr rfl)) (pss_one (ps_set (i := 2) sc.nd rfl (by first | exact Or.inl rfl | exact Or.inr rfl) (pe_op op_mod (pe_callTy call_int1 (by rfl) T.n_int (by decide +kernel) (pa_cons (pe_op (op_addK (K := K) rfl) (pe_op (op_addK (K := K) rfl) (pe_op op_mulW (pv 2) pe_int) (pe_op op_mod (pe_callTy call_int1 (by rfl) T.n_int (by decide +kernel) (pa_cons (pv 3) pa_nil)) (pe_op (op_addK (K := K) rfl) (pe_op op_pow pe_int pe_int) pe_int))) pe_int) pa_nil)) (pe_op (op_addK (K := K) rfl) (pe_op op_pow pe_int pe_int) pe_int)))))
    (pss_cons (ps_set (i := 2) sc.nd rfl (by first | exact Or.inl rfl | exact Or.inr rfl) (pe_op op_mod (pe_callTy call_int1 (by rfl) T.n_int (by decide +kernel) (pa_cons (pe_op (op_addK (K := K) rfl) (pe_op (op_addK (K := K) rfl) (pe_op op_mulW (pv 2) pe_int) (pe_op op_mulW (pv 1) pe_int)) pe_int) pa_nil)) (pe_op (op_addK (K := K) rfl) (pe_op op_pow pe_int pe_int) pe_int)))
    (pss_cons (ps_set (i := 4) sc.nd rfl (by first | exact Or.inl rfl | exact Or.inr rfl) pe_int)
    (pss_cons (ps_if (pt_cmpR (op_ltK (K := K) hr rfl) (pv 1) (pe_callB (cl_len (K := K) rfl) (by rfl) T.n_len (by decide +kernel) (pa_cons (pv 0) pa_nil)) (nomark _)) (pss_one (ps_set (i := 4) sc.nd rfl (by first | exact Or.inl rfl | exact Or.inr rfl) (pe_callB (call_max2 rfl) (by rfl) T.n_max (by decide +kernel) (pa_cons pe_int (pa_cons (pe_op op_sub (pe_callB call_abs (by rfl) T.n_abs (by decide +kernel) (pa_cons (pe_callTy call_int1 (by rfl) T.n_int (by decide +kernel) (pa_cons (pe_ix (ix_K (K := K) rfl) (pv 0) (pv 1) (fun _ _ => rfl)) pa_nil)) pa_nil)) (pe_op op_pow pe_int pe_int)) pa_nil))))) pss_nil)
    (pss_one (ps_ret (pe_lst (pa_cons (pv 4) (pa_cons (pv 2) pa_nil)))))))))), fun ds r hl hm => match ds, hl, hm with | [script, at_], _, h => ?_⟩
  have h : m__law_well script at_ r := h
  unfold m__law_well at h
  show wS (Γ T) _ [some (.d script), some (.d at_), none, none, none] _
  exact s_seq (s_asgM (w_add (w_int (w_lenM (wE.r (w_cut (w_var (i := 0) rfl (o_no (o_some (w_int (h)))))))))) fun mixed5 h => s_seq (s_forM (S := D) (fun s6 => [some (.d script), some (.d at_), some (.d s6), none, none]) mixed5 ⟨.inr rfl, .inr rfl, .inr rfl, .inl rfl, .inl rfl, trivial⟩ (is_seqM (w_cut (w_var (i := 0) rfl (o_no (o_some (w_int (h))))))) (fun cell9 s6 nx7 h => g_name (s_asgM (w_mod ((w_intM (w_add ((w_add ((w_mul (w_var (i := 2) rfl (w_int (h)))).mono fun x35 h => w_mod ((w_intM (w_var (i := 3) rfl (h))).mono fun x36 h => w_add ((w_pow (w_int (w_int (h)))).mono fun x37 h => w_int (h))))).mono fun x40 h => w_int (h)))).mono fun x42 h => w_add ((w_pow (w_int (w_int (h)))).mono fun x43 h => w_int (h)))) fun mixed46 h => ⟨mixed46, ⟨.inr rfl, .inr rfl, .inr rfl, .inl rfl, .inl rfl, trivial⟩, h⟩)) fun s6 h => s_seq (s_asgM (w_mod ((w_intM (w_add ((w_add ((w_mul (w_var (i := 2) rfl (w_int (h)))).mono fun x10 h => w_mul (w_var (i := 1) rfl (w_int (h))))).mono fun x12 h => w_int (h)))).mono fun x14 h => w_add ((w_pow (w_int (w_int (h)))).mono fun x15 h => w_int (h)))) fun mixed18 h => s_seq (s_asgM (w_int (h)) fun digits19 h => s_seq (s_ifJ (S := D) (fun s24 => [some (.d script), some (.d at_), some (.d mixed18), none, some (.d s24)]) (w_bT (w_lt (w_var (i := 1) rfl (w_lenM (wE.r (w_var (i := 0) rfl (h))))))) (fun k23 h => s_asgM (w_max2 (w_int (w_sub ((w_absM (w_intM (w_ix (w_var (i := 0) rfl (w_var (i := 1) rfl (h)))))).mono fun x27 h => w_pow (w_int (w_int (h))))))) fun digits31 h => ⟨digits31, ⟨.inr rfl, .inr rfl, .inr rfl, .inl rfl, .inr rfl, trivial⟩, h⟩) (fun k23 h => s_next ⟨digits19, ⟨.inr rfl, .inr rfl, .inr rfl, .inl rfl, .inr rfl, trivial⟩, h⟩) fun s24 h => s_retN (w_lst (w_cons (w_var (i := 4) rfl (w_cons (w_var (i := 2) rfl (w_nil (⟨lenOk, h⟩))))))))))))
theorem ok__law_take (T : Tx K mg base) : FnG P w K mg base CX0 1 T.a__law_take T.d__law_take ["well", "many"] (wlSp (Γ T) 1 (n1 m__law_take)) := by
  have sc := sc__law_take
  refine fun_okg T.F__law_take sc (fun vs H Q E h => ?_) fun cd A out s H vs Q E hc hr h => ?_
  · obtain ⟨a, us, rfl, hl, _⟩ := h
    exact congrArg (· + 1) hl
  obtain ⟨a, us, rfl, hl, B, ds, r, hA, hw, tr, tb, dp, hm, q⟩ := h
  exact ⟨_, (pss_cons (ps_if (pt_cmpR op_gt (pe_ix (ix_K (K := K) rfl) (pv 0) pe_int (fun _ _ => rfl)) pe_int (nomark _)) (pss_cons (ps_set (i := 2) sc.nd rfl (by first | exact Or.inl rfl | exact Or.inr rfl) (pe_op op_mod (pe_callTy call_int1 (by rfl) T.n_int (by decide +kernel) (pa_cons (pe_ix (ix_K (K := K) rfl) (pv 0) pe_int (fun _ _ => rfl)) pa_nil)) (pv 1)))
    (pss_cons (ps_asg (pe_op op_fdivW (pe_ix (ix_K (K := K) rfl) (pv 0) pe_int (fun _ _ => rfl)) (pv 1)) (pg_sub (pv 0) pe_int set_list))
    (pss_one (ps_ret (pv 2))))) pss_nil)
    (pss_cons (ps_asg (pe_op op_mod (pe_callTy call_int1 (by rfl) T.n_int (by decide +kernel) (pa_cons (pe_op (op_addK (K := K) rfl) (pe_op op_mulW (pe_ix (ix_K (K := K) rfl) (pv 0) pe_int (fun _ _ => rfl)) pe_int) pe_int) pa_nil)) (pe_op (op_addK (K := K) rfl) (pe_op op_pow pe_int pe_int) pe_int)) (pg_sub (pv 0) pe_int set_list))
    (pss_cons (ps_set (i := 3) sc.nd rfl (by first | exact Or.inl rfl | exact Or.inr rfl) (pe_op op_mod (pe_callTy call_int1 (by rfl) T.n_int (by decide +kernel) (pa_cons (pe_op (op_addK (K := K) rfl) (pe_op op_fdivW (pe_op op_mulW (pe_ix (ix_K (K := K) rfl) (pv 0) pe_int (fun _ _ => rfl)) (pe_ix (ix_K (K := K) rfl) (pv 0) pe_int (fun _ _ => rfl))) pe_int) (pe_ix (ix_K (K := K) rfl) (pv 0) pe_int (fun _ _ => rfl))) pa_nil)) pe_int))
    (pss_one (ps_ret (pe_op op_mod (pe_callTy call_int1 (by rfl) T.n_int (by decide +kernel) (pa_cons (pe_op op_fdivW (pv 3) pe_int) pa_nil)) (pv 1))))))), take_reads (Γ := Γ T) rfl hl hA hw tr dp hm q⟩
theorem ok__law_same (T : Tx K mg base) : ∀ n : Nat, FnG P w K mg base CX0 (0 + n) T.a__law_same T.d__law_same ["told", "due"] (cpsSp (Γ T) 2 (n2 (m__law_same n)))
  | 0 => ⟨fun vs H Q E h => h.1, fun A out s H ar us vs Q E hr e0 hb rv hs => by
    obtain ⟨hl, B, ds, k, _, _, dp, hm, _⟩ := hs
    match ds, (dpLen dp).symm.trans hl, hm with
    | [told, due], _, h => exact (show False from h).elim⟩
  | n + 1 => by
    have G : FnG P w K mg base CX0 (0 + n) T.a__law_same T.d__law_same ["told", "due"] (cpsSp (Γ T) 2 (n2 (m__law_same n))) := ok__law_same T n
    have sc := sc__law_same
    refine def_c T.F__law_same sc__law_same fun cd A out s H E hc hr => ⟨_, (pss_cons (ps_if (pt_cmpR op_isN (pv 1) pe_non (nomark _)) (pss_one (ps_ret (pe_cmpR op_isN (pv 0) pe_non (nomark _)))) pss_nil)
    (pss_cons (ps_if (pt_val (pe_callB (cl_isi (K := K) rfl) (by rfl) T.n_isinstance (by decide +kernel) (pa_cons (pv 1) (pa_cons (pe_bltn (v := .ty "bool") (by rfl) T.n_bool (by decide +kernel) rfl) pa_nil)))) (pss_one (ps_ret (pe_ifExp (pt_val (pv 1)) (pe_cmpR op_isBl (pv 0) pe_bl (nomark _)) (pe_cmpR op_isBl (pv 0) pe_bl (nomark _))))) pss_nil)
    (pss_cons (ps_if (pt_val (pe_callB (cl_isi (K := K) rfl) (by rfl) T.n_isinstance (by decide +kernel) (pa_cons (pv 1) (pa_cons (pe_bltn (v := .ty "int") (by rfl) T.n_int (by decide +kernel) rfl) pa_nil)))) (pss_one (ps_ret (pe_and (pe_callB (cl_isi (K := K) rfl) (by rfl) T.n_isinstance (by decide +kernel) (pa_cons (pv 0) (pa_cons (pe_bltn (v := .ty "int") (by rfl) T.n_int (by decide +kernel) rfl) pa_nil))) (pe_and (pe_not (pe_callB (cl_isi (K := K) rfl) (by rfl) T.n_isinstance (by decide +kernel) (pa_cons (pv 0) (pa_cons (pe_bltn (v := .ty "bool") (by rfl) T.n_bool (by decide +kernel) rfl) pa_nil)))) (pe_one (pe_cmpR (op_eqK (K := K) hr rfl) (pv 0) (pv 1) (nomark _))))))) pss_nil)
    (pss_cons (ps_if (pt_val (pe_callB (cl_isi (K := K) rfl) (by rfl) T.n_isinstance (by decide +kernel) (pa_cons (pv 1) (pa_cons (pe_bltn (v := .ty "str") (by rfl) T.n_str (by decide +kernel) rfl) pa_nil)))) (pss_one (ps_ret (pe_and (pe_callB (cl_isi (K := K) rfl) (by rfl) T.n_isinstance (by decide +kernel) (pa_cons (pv 0) (pa_cons (pe_bltn (v := .ty "str") (by rfl) T.n_str (by decide +kernel) rfl) pa_nil))) (pe_one (pe_cmpR (op_eqK (K := K) hr rfl) (pv 0) (pv 1) (nomark _)))))) pss_nil)
    (pss_cons (ps_if (PW.pt (pw_or (pt_cmpR (op_neK (K := K) hr rfl) (pe_callB (cl_isi (K := K) rfl) (by rfl) T.n_isinstance (by decide +kernel) (pa_cons (pv 1) (pa_cons (pe_bltn (v := .ty "tuple") (by rfl) T.n_tuple (by decide +kernel) rfl) pa_nil))) (pe_callB (cl_isi (K := K) rfl) (by rfl) T.n_isinstance (by decide +kernel) (pa_cons (pv 0) (pa_cons (pe_bltn (v := .ty "tuple") (by rfl) T.n_tuple (by decide +kernel) rfl) pa_nil))) (nomark _)) (pw_or1 (pt_cmpR (op_neK (K := K) hr rfl) (pe_callB (cl_isi (K := K) rfl) (by rfl) T.n_isinstance (by decide +kernel) (pa_cons (pv 1) (pa_cons (pe_bltn (v := .ty "list") (by rfl) T.n_list (by decide +kernel) rfl) pa_nil))) (pe_callB (cl_isi (K := K) rfl) (by rfl) T.n_isinstance (by decide +kernel) (pa_cons (pv 0) (pa_cons (pe_bltn (v := .ty "list") (by rfl) T.n_list (by decide +kernel) rfl) pa_nil))) (nomark _))))) (pss_one (ps_ret pe_bl)) pss_nil)
    (pss_one (ps_ret (pe_and (pe_cmpR (op_eqK (K := K) hr rfl) (pe_callB (cl_len (K := K) rfl) (by rfl) T.n_len (by decide +kernel) (pa_cons (pv 0) pa_nil)) (pe_callB (cl_len (K := K) rfl) (by rfl) T.n_len (by decide +kernel) (pa_cons (pv 1) pa_nil)) (nomark _)) (pe_one (pe_callB (cl_all (K := K) rfl rfl) (by rfl) T.n_all (by decide +kernel) (pa_cons (pe_lc (own := [("at", 2)]) rfl sc.nd (pi_range1 (by rfl) T.n_range (pa_cons (pe_callB (cl_len (K := K) rfl) (by rfl) T.n_len (by decide +kernel) (pa_cons (pv 1) pa_nil)) pa_nil)) (blkOk_by (own := [("at", 2)]) (N := N__law_same) (sc := defScope s__law_same) (by decide +kernel)) (fun _ _ _ _ _ => (pg_name (i := 2) sc.nd rfl (by first | exact Or.inl rfl | exact Or.inr rfl))) (fun _ _ _ _ _ => pts_nil) (fun _ _ _ _ _ => (pe_cg G hr (by rfl) T.m__law_same T.F__law_same.kp T.b__law_same .nil pass0 (pa_cons (pe_ix (ix_K (K := K) rfl) (pv 0) (pv 2) (fun _ _ => rfl)) (pa_cons (pe_ix (ix_K (K := K) rfl) (pv 1) (pv 2) (fun _ _ => rfl)) pa_nil))))) pa_nil))))))))))), fun ds r hl hm => match ds, hl, hm with | [told, due], _, h => ?_⟩
    have h : m__law_same (n + 1) told due r := h
    rw [m__law_same] at h
    show wS (Γ T) _ [some (.d told), some (.d due), none] _
    exact s_seq (s_if ((w_bT (w_isNM (wE.r (w_var (i := 1) rfl (h))))).mono fun b2 h => iteM h (fun h => s_ret (w_isNM (wE.r (w_var (i := 0) rfl (h))))) (fun h => s_next (s_seq (s_if ((w_bB (w_isiM (wE.r (w_var (i := 1) rfl (h))))).mono fun b5 h => iteM h (fun h => s_ret (w_ifV (w_bB (w_var (i := 1) rfl (h))) (fun k10 h => w_isB (w_var (i := 0) rfl (h))) (fun k10 h => w_isB (w_var (i := 0) rfl (h))))) (fun h => s_next (s_seq (s_if ((w_bB (w_isiM (wE.r (w_var (i := 1) rfl (h))))).mono fun b13 h => iteM h (fun h => s_ret (w_andE (w_isiM (wE.r (w_var (i := 0) rfl (h)))) fun k22 h => w_andE (w_notVM (w_isiM (wE.r (w_var (i := 0) rfl (h))))) fun k19 h => w_eq (wE.r (w_var (i := 0) rfl (wE.r (w_var (i := 1) rfl (h))))))) (fun h => s_next (s_seq (s_if ((w_bB (w_isiM (wE.r (w_var (i := 1) rfl (h))))).mono fun b25 h => iteM h (fun h => s_ret (w_andE (w_isiM (wE.r (w_var (i := 0) rfl (h)))) fun k29 h => w_eq (wE.r (w_var (i := 0) rfl (wE.r (w_var (i := 1) rfl (h))))))) (fun h => s_next (s_seq (s_if ((w_orT (w_bT (w_ne (wE.r ((w_isiM (wE.r (w_var (i := 1) rfl (h)))).mono fun x31 h => wE.r (w_isiM (wE.r (w_var (i := 0) rfl (h)))))))) fun k39 h => w_bT (w_ne (wE.r ((w_isiM (wE.r (w_var (i := 1) rfl (h)))).mono fun x35 h => wE.r (w_isiM (wE.r (w_var (i := 0) rfl (h)))))))).mono fun b40 h => iteM h (fun h => s_ret (w_bl (h))) (fun h => s_next (s_ret (w_andE (w_eq (wE.r ((w_lenM (wE.r (w_var (i := 0) rfl (h)))).mono fun x41 h => wE.r (w_lenM (wE.r (w_var (i := 1) rfl (h))))))) fun k55 h => w_allM (wN.l (n_lcM (go_name (by decide)) (i_r1 (w_lenM (wE.r (w_var (i := 1) rfl (h))))) (fun y46 e47 z48 h => g_name (w_yes (yesIf (w_cc (w_cons ((w_ix (w_var (i := 0) rfl (w_var (i := 2) rfl (h)))).mono fun x50 h => w_cons ((w_ix (w_var (i := 1) rfl (w_var (i := 2) rfl (h)))).mono fun x51 h => w_nil (⟨rfl, h⟩)))))))))))))))))))))))))))))))
theorem ok__law_word (T : Tx K mg base) : FnG P w K mg base CX0 2 T.a__law_word T.d__law_word ["well", "k", "most"] (wlSp (Γ T) 2 (n2 m__law_word)) := by
  have sc := sc__law_word
  refine def_w T.F__law_word sc__law_word (by decide) fun cd A out s H E hc hr => ⟨_, (pss_one (ps_ret (pe_callTy (cl_tup (K := K) rfl) (by rfl) T.n_tuple (by decide +kernel) (pa_cons (pe_lc (own := [("at", 3)]) rfl sc.nd (pi_range1 (by rfl) T.n_range (pa_cons (pe_cg (ok__law_take T) (hr.mono (by decide)) (by rfl) T.m__law_take T.F__law_take.kp T.b__law_take .nil pass0 (pa_cons (pv 0) (pa_cons (pe_op (op_addK (K := K) rfl) (pv 2) pe_int) pa_nil))) pa_nil)) (blkOk_by (own := [("at", 3)]) (N := N__law_word) (sc := defScope s__law_word) (by decide +kernel)) (fun _ _ _ _ _ => (pg_name (i := 3) sc.nd rfl (by first | exact Or.inl rfl | exact Or.inr rfl))) (fun _ _ _ _ _ => pts_nil) (fun _ _ _ _ _ => (pe_cg (ok__law_take T) (hr.mono (by decide)) (by rfl) T.m__law_take T.F__law_take.kp T.b__law_take .nil pass0 (pa_cons (pv 0) (pa_cons (pv 1) pa_nil))))) pa_nil)))), fun ds r hl hm => match ds, hl, hm with | [k_, most], _, h => ?_⟩
  have h : m__law_word k_ most r := h
  unfold m__law_word at h
  show wS (Γ T) _ [some .w, some (.d k_), some (.d most), none] _
  exact s_ret (w_tupleL (wN.l (n_lcM (go_name (by decide)) (i_r1 (w_ccW (i := 0) rfl (w_cons ((w_add (w_var (i := 2) rfl (w_int (h)))).mono fun x3 h => w_nil (⟨rfl, h⟩))))) (fun y4 e5 z6 h => g_name (w_yes (yesIf (w_ccW (i := 0) rfl (w_cons (w_var (i := 1) rfl (w_nil (⟨rfl, h⟩)))))))))))
theorem ok__law_left (T : Tx K mg base) : FnG P w K mg base CX0 2 T.a__law_left T.d__law_left ["well", "word"] (wlSp (Γ T) 1 (n1 m__law_left)) := by
  have sc := sc__law_left
  refine def_w T.F__law_left sc__law_left (by decide) fun cd A out s H E hc hr => ⟨_, (pss_cons (ps_set (i := 2) sc.nd rfl (by first | exact Or.inl rfl | exact Or.inr rfl) (pe_lst pa_nil))
    (pss_cons (ps_for PassesOwn.never rfl (pi_seqK (K := K) rfl (pv 1)) (pg_name (i := 3) sc.nd rfl (by first | exact Or.inl rfl | exact Or.inr rfl)) (pss_one (ps_if (pt_cmpR op_gt (pe_cg (ok__law_take T) (hr.mono (by decide)) (by rfl) T.m__law_take T.F__law_take.kp T.b__law_take .nil pass0 (pa_cons (pv 0) (pa_cons pe_int pa_nil))) pe_int (nomark _)) (pss_one (ps_expr (pe_bm PySem.F.plainAttrs_list PySem.F.slot_list_append PySem.F.type_list_append mt_append (pv 2) (pa_cons (pv 3) pa_nil)))) pss_nil)))
    (pss_cons (ps_if (PW.pt (pw_and (pt_cmpR (op_neK (K := K) hr rfl) (pv 2) (pe_lst pa_nil) (nomark _)) (pw_and1 (pt_cmpR (op_eqK (K := K) hr rfl) (pe_cg (ok__law_take T) (hr.mono (by decide)) (by rfl) T.m__law_take T.F__law_take.kp T.b__law_take .nil pass0 (pa_cons (pv 0) (pa_cons pe_int pa_nil))) pe_int (nomark _))))) (pss_one (ps_asg pe_int (pg_sub (pv 2) (pe_cg (ok__law_take T) (hr.mono (by decide)) (by rfl) T.m__law_take T.F__law_take.kp T.b__law_take .nil pass0 (pa_cons (pv 0) (pa_cons (pe_callB (cl_len (K := K) rfl) (by rfl) T.n_len (by decide +kernel) (pa_cons (pv 2) pa_nil)) pa_nil))) set_list))) pss_nil)
    (pss_one (ps_ret (pe_callTy (cl_tup (K := K) rfl) (by rfl) T.n_tuple (by decide +kernel) (pa_cons (pv 2) pa_nil))))))), fun ds r hl hm => match ds, hl, hm with | [word], _, h => ?_⟩
  have h : m__law_left word r := h
  unfold m__law_left at h
  show wS (Γ T) _ [some .w, some (.d word), none, none] _
  exact s_seq (s_asgN (w_lst (w_nil (⟨lenOk, h⟩))) fun found1 h => s_seq (s_forM (S := List D) (fun s2 => [some .w, some (.d word), some (.l s2), none]) found1 ⟨.inr rfl, .inr rfl, .inr rfl, .inl rfl, trivial⟩ (is_seqM (w_var (i := 1) rfl (h))) (fun letter5 s2 nx3 h => g_name (s_ifJ (S := List D) (fun s23 => [some .w, some (.d word), some (.l s23), some (.d letter5)]) (w_bT (w_gt ((w_ccW (i := 0) rfl (w_cons (w_int (w_nil (⟨rfl, h⟩))))).mono fun x19 h => w_int (h)))) (fun k22 h => s_apM rfl (w_var (i := 3) rfl (h)) fun found24 h => ⟨found24, ⟨.inr rfl, .inr rfl, .inr rfl, .inr rfl, trivial⟩, h⟩) (fun k22 h => s_next ⟨s2, ⟨.inr rfl, .inr rfl, .inr rfl, .inr rfl, trivial⟩, h⟩) fun s23 h => ⟨s23, ⟨.inr rfl, .inr rfl, .inr rfl, .inl rfl, trivial⟩, h⟩)) fun s2 h => s_seq (s_ifJ (S := List D) (fun s14 => [some .w, some (.d word), some (.l s14), none]) (w_andT (w_bT (w_ne (wL.r (w_varL (i := 2) rfl (wE.r (wN.e (w_lst (w_nil (⟨lenOk, h⟩))))))))) fun k11 h => w_bT (w_eq (wE.r ((w_ccW (i := 0) rfl (w_cons (w_int (w_nil (⟨rfl, h⟩))))).mono fun x8 h => wE.r (w_int (h)))))) (fun k13 h => s_stM rfl (w_int (w_ccW (i := 0) rfl (w_cons ((w_lenM (wL.r (w_varL (i := 2) rfl (h)))).mono fun x16 h => w_nil (⟨rfl, h⟩))))) fun found17 h => ⟨found17, ⟨.inr rfl, .inr rfl, .inr rfl, .inl rfl, trivial⟩, h⟩) (fun k13 h => s_next ⟨s2, ⟨.inr rfl, .inr rfl, .inr rfl, .inl rfl, trivial⟩, h⟩) fun s14 h => s_ret (w_tupleL (w_varL (i := 2) rfl (h))))))
theorem ok__law_first (T : Tx K mg base) : FnG P w K mg base CX0 1 T.a__law_first T.d__law_first ["one", "other"] (cpsSp (Γ T) 2 (n2 m__law_first)) := by
  have sc := sc__law_first
  refine def_c T.F__law_first sc__law_first fun cd A out s H E hc hr => ⟨_, (pss_cons (ps_set (i := 2) sc.nd rfl (by first | exact Or.inl rfl | exact Or.inr rfl) (pe_lst (pa_cons (pe_tup pa_nil) pa_nil)))
    (pss_cons (ps_for PassesOwn.never rfl (pi_seqK (K := K) rfl (pv 0)) (pg_name (i := 3) sc.nd rfl (by first | exact Or.inl rfl | exact Or.inr rfl)) (pss_cons (ps_set (i := 4) sc.nd rfl (by first | exact Or.inl rfl | exact Or.inr rfl) (pe_lst pa_nil))
    (pss_cons (ps_for PassesOwn.never rfl (pi_seqK (K := K) rfl (pv 2)) (pg_name (i := 5) sc.nd rfl (by first | exact Or.inl rfl | exact Or.inr rfl)) (pss_cons (ps_set (i := 6) sc.nd rfl (by first | exact Or.inl rfl | exact Or.inr rfl) (pe_ifExp (pt_cmpR (op_neK (K := K) hr rfl) (pv 5) (pe_tup pa_nil) (nomark _)) (pe_op (op_addK (K := K) rfl) (pe_ix (ix_K (K := K) rfl) (pv 5) (pe_un un_neg pe_int) (fun _ _ => rfl)) pe_int) pe_int))
    (pss_one (ps_expr (pe_bm PySem.F.plainAttrs_list PySem.F.slot_list_extend PySem.F.type_list_extend mt_extend (pv 4) (pa_cons (pe_lc (own := [("at", 7)]) rfl sc.nd (pi_range2 (by rfl) T.n_range (pa_cons (pv 6) (pa_cons (pe_callB (cl_len (K := K) rfl) (by rfl) T.n_len (by decide +kernel) (pa_cons (pv 1) pa_nil)) pa_nil))) (blkOk_by (own := [("at", 7)]) (N := N__law_first) (sc := defScope s__law_first) (by decide +kernel)) (fun _ _ _ _ _ => (pg_name (i := 7) sc.nd rfl (by first | exact Or.inl rfl | exact Or.inr rfl))) (fun _ _ _ _ _ => (pts_one (pt_cmpR (op_eqK (K := K) hr rfl) (pe_ix (ix_K (K := K) rfl) (pv 1) (pv 7) (fun _ _ => rfl)) (pv 3) (nomark _)))) (fun _ _ _ _ _ => (pe_op (op_addK (K := K) rfl) (pv 5) (pe_tup (pa_cons (pv 7) pa_nil))))) pa_nil))))))
    (pss_one (ps_set (i := 2) sc.nd rfl (by first | exact Or.inl rfl | exact Or.inr rfl) (pv 4))))))
    (pss_one (ps_ret (pe_ifExp (pt_cmpR (op_neK (K := K) hr rfl) (pv 2) (pe_lst pa_nil) (nomark _)) (pe_callB (cl_min (K := K) hr rfl) (by rfl) T.n_min (by decide +kernel) (pa_cons (pv 2) pa_nil)) pe_non))))), fun ds r hl hm => match ds, hl, hm with | [one, other], _, h => ?_⟩
  have h : m__law_first one other r := h
  unfold m__law_first at h
  show wS (Γ T) _ [some (.d one), some (.d other), none, none, none, none, none, none] _
  exact s_seq (s_asgM (wN.e (w_lst (w_cons (w_tup (w_nil ⟨lenOk, w_nil (⟨lenOk, h⟩)⟩))))) fun rows1 h => s_seq (s_forM (S := D) (fun s2 => [some (.d one), some (.d other), some (.d s2), none, none, none, none, none]) rows1 ⟨.inr rfl, .inr rfl, .inr rfl, .inl rfl, .inl rfl, .inl rfl, .inl rfl, .inl rfl, trivial⟩ (is_seqM (w_var (i := 0) rfl (h))) (fun letter5 s2 nx3 h => g_name (s_seq (s_asgN (w_lst (w_nil (⟨lenOk, h⟩))) fun longer13 h => s_seq (s_forM (S := List D) (fun s14 => [some (.d one), some (.d other), some (.d s2), some (.d letter5), some (.l s14), none, none, none]) longer13 ⟨.inr rfl, .inr rfl, .inr rfl, .inr rfl, .inr rfl, .inl rfl, .inl rfl, .inl rfl, trivial⟩ (is_seqM (w_var (i := 2) rfl (h))) (fun row17 s14 nx15 h => g_name (s_seq (s_asgM (w_ifV (w_bT (w_ne (wE.r (w_var (i := 5) rfl (wE.r (w_tup (w_nil ⟨lenOk, h⟩))))))) (fun k26 h => w_add ((w_ix (w_var (i := 5) rfl (w_negM (w_int (h))))).mono fun x23 h => w_int (h))) (fun k26 h => w_int (h))) fun begin28 h => s_exM rfl (n_lcM (go_name (by decide)) (i_r2 (w_var (i := 6) rfl (w_lenM (wE.r (w_var (i := 1) rfl (h)))))) (fun y32 e33 z34 h => g_name ((w_bT (w_eq (wE.r ((w_ix (w_var (i := 1) rfl (w_var (i := 7) rfl (h)))).mono fun x35 h => wE.r (w_var (i := 3) rfl (h)))))).mono fun b37 h => iteM h (fun h => w_add (w_var (i := 5) rfl (w_tup (w_cons (w_var (i := 7) rfl (w_nil (⟨lenOk, h⟩))))))) (fun h => h)))) fun longer29 h => ⟨longer29, ⟨.inr rfl, .inr rfl, .inr rfl, .inr rfl, .inr rfl, .inl rfl, .inl rfl, .inl rfl, trivial⟩, h⟩))) fun s14 h => s_freeze 4 rfl (s_asgM (w_var (i := 4) rfl (h)) fun rows18 h => ⟨rows18, ⟨.inr rfl, .inr rfl, .inr rfl, .inl rfl, .inl rfl, .inl rfl, .inl rfl, .inl rfl, trivial⟩, h⟩))))) fun s2 h => s_ret (w_ifV (w_bT (w_ne (wE.r (w_var (i := 2) rfl (wE.r (wN.e (w_lst (w_nil (⟨lenOk, h⟩))))))))) (fun k10 h => w_minT (w_var (i := 2) rfl (h))) (fun k10 h => w_non (h)))))
theorem ok__law_right (T : Tx K mg base) : FnG P w K mg base CX0 11 T.a__law_right T.d__law_right ["one", "other"] (cpsSp (Γ T) 2 (n2 m__law_right)) := by
  have sc := sc__law_right
  refine def_c T.F__law_right sc__law_right fun cd A out s H E hc hr => ⟨_, (pss_cons (ps_set (i := 2) sc.nd rfl (by first | exact Or.inl rfl | exact Or.inr rfl) (pe_cg (ok__law_first T) (hr.mono (by decide)) (by rfl) T.m__law_first T.F__law_first.kp T.b__law_first .nil pass0 (pa_cons (pv 0) (pa_cons (pv 1) pa_nil))))
    (pss_cons (ps_set (i := 3) sc.nd rfl (by first | exact Or.inl rfl | exact Or.inr rfl) (pe_lst (pa_cons (pe_cg (ok_is_strewn T) (hr.mono (by decide)) (by rfl) T.m_is_strewn T.F_is_strewn.kp T.b_is_strewn .nil pass0 (pa_cons (pv 0) (pa_cons (pv 1) pa_nil))) (pa_cons (pe_cgk0 (ok_is_strewn T) (hr.mono (by decide)) (by rfl) T.m_is_strewn T.F_is_strewn.kp (kb_of (ks := ["other", "one"]) 0 2 [1, 0] T.F_is_strewn (by decide) fun _ _ _ _ _ _ us ws h1 h2 => match us, ws, h1, h2 with | [], [_, _], _, _ => rfl) pass0 (pk_cons (pv 1) (pk_cons (pv 0) pk_nil))) (pa_cons (pe_cg (ok_places_in T) (hr.mono (by decide)) (by rfl) T.m_places_in T.F_places_in.kp T.b_places_in .nil pass0 (pa_cons (pv 0) (pa_cons (pv 1) pa_nil))) (pa_cons (pe_cgk0 (ok_places_in T) (hr.mono (by decide)) (by rfl) T.m_places_in T.F_places_in.kp (kb_of (ks := ["other", "one"]) 0 2 [1, 0] T.F_places_in (by decide) fun _ _ _ _ _ _ us ws h1 h2 => match us, ws, h1, h2 with | [], [_, _], _, _ => rfl) pass0 (pk_cons (pv 1) (pk_cons (pv 0) pk_nil))) pa_nil))))))
    (pss_cons (ps_if (pt_not (pt_val (pe_cg (ok__law_same T 9) (hr.mono (by decide)) (by rfl) T.m__law_same T.F__law_same.kp T.b__law_same .nil pass0 (pa_cons (pv 3) (pa_cons (pe_lst (pa_cons (pe_cmpR op_notN (pv 2) pe_non (nomark _)) (pa_cons (pe_cmpR op_notN (pv 2) pe_non (nomark _)) (pa_cons (pv 2) (pa_cons (pv 2) pa_nil))))) pa_nil))))) (pss_one (ps_ret pe_bl)) pss_nil)
    (pss_one (ps_ret (pe_or (pe_cmpR (op_eqK (K := K) hr rfl) (pv 0) (pv 1) (nomark _)) (pe_or (pe_cmpR op_isN (pv 2) pe_non (nomark _)) (pe_one (pe_cmpR op_isBl (pe_cg (ok_is_strewn T) (hr.mono (by decide)) (by rfl) T.m_is_strewn T.F_is_strewn.kp T.b_is_strewn .nil pass0 (pa_cons (pv 1) (pa_cons (pv 0) pa_nil))) pe_bl (nomark _)))))))))), fun ds r hl hm => match ds, hl, hm with | [one, other], _, h => ?_⟩
  have h : m__law_right one other r := h
  unfold m__law_right at h
  show wS (Γ T) _ [some (.d one), some (.d other), none, none] _
  exact s_seq (s_asgM (w_cc (w_cons (w_var (i := 0) rfl (w_cons (w_var (i := 1) rfl (w_nil (⟨rfl, h⟩))))))) fun due2 h => s_seq (s_asgM (wN.e (w_lst (w_cons ((w_cc (w_cons (w_var (i := 0) rfl (w_cons (w_var (i := 1) rfl (w_nil (⟨rfl, h⟩))))))).mono fun x3 h => w_cons ((w_ccK (w_nil (w_cons (w_var (i := 1) rfl (w_cons (w_var (i := 0) rfl (w_nil (⟨rfl, h⟩)))))))).mono fun x4 h => w_cons ((w_cc (w_cons (w_var (i := 0) rfl (w_cons (w_var (i := 1) rfl (w_nil (⟨rfl, h⟩))))))).mono fun x5 h => w_cons ((w_ccK (w_nil (w_cons (w_var (i := 1) rfl (w_cons (w_var (i := 0) rfl (w_nil (⟨rfl, h⟩)))))))).mono fun x6 h => w_nil (⟨lenOk, h⟩)))))))) fun told7 h => s_seq (s_if (w_not ((w_bB (w_cc (w_cons (w_var (i := 3) rfl (w_cons (wN.e (w_lst (w_cons ((w_notNM (wE.r (w_var (i := 2) rfl (h)))).mono fun x9 h => w_cons ((w_notNM (wE.r (w_var (i := 2) rfl (h)))).mono fun x10 h => w_cons (w_var (i := 2) rfl (w_cons (w_var (i := 2) rfl (w_nil (⟨lenOk, w_nil (⟨rfl, h⟩)⟩))))))))))))))).mono fun b11 h => iteM h (fun h => s_ret (w_bl (h))) (fun h => s_next (s_ret (w_orE (w_eq (wE.r (w_var (i := 0) rfl (wE.r (w_var (i := 1) rfl (h)))))) fun k20 h => w_orE (w_isNM (wE.r (w_var (i := 2) rfl (h)))) fun k17 h => w_isB (w_cc (w_cons (w_var (i := 1) rfl (w_cons (w_var (i := 0) rfl (w_nil (⟨rfl, h⟩)))))))))))))))
theorem ok__law_is_long_right (T : Tx K mg base) : FnG P w K mg base CX0 11 T.a__law_is_long_right T.d__law_is_long_right ["well"] (wlSp (Γ T) 0 (n0 m__law_is_long_right)) := by
  have sc := sc__law_is_long_right
  refine def_w T.F__law_is_long_right sc__law_is_long_right (by decide) fun cd A out s H E hc hr => ⟨_, (pss_cons (ps_asg (pe_tup (pa_cons (pe_op (op_addK (K := K) rfl) pe_int (pe_cg (ok__law_take T) (hr.mono (by decide)) (by rfl) T.m__law_take T.F__law_take.kp T.b__law_take .nil pass0 (pa_cons (pv 0) (pa_cons pe_int pa_nil)))) (pa_cons (pe_lst pa_nil) (pa_cons (pe_lst pa_nil) (pa_cons pe_int pa_nil))))) (pg_tup rfl (pgs_cons (pg_name (i := 1) sc.nd rfl (by first | exact Or.inl rfl | exact Or.inr rfl)) (pgs_cons (pg_name (i := 2) sc.nd rfl (by first | exact Or.inl rfl | exact Or.inr rfl)) (pgs_cons (pg_name (i := 3) sc.nd rfl (by first | exact Or.inl rfl | exact Or.inr rfl)) (pgs_cons (pg_name (i := 4) sc.nd rfl (by first | exact Or.inl rfl | exact Or.inr rfl)) pgs_nil))))))
    (pss_cons (ps_set (i := 5) sc.nd rfl (by first | exact Or.inl rfl | exact Or.inr rfl) (pe_cg (ok__law_take T) (hr.mono (by decide)) (by rfl) T.m__law_take T.F__law_take.kp T.b__law_take .nil pass0 (pa_cons (pv 0) (pa_cons pe_int pa_nil))))
    (pss_cons (ps_for PassesOwn.never rfl (pi_range1 (by rfl) T.n_range (pa_cons (pe_op (op_addK (K := K) rfl) pe_int (pe_cg (ok__law_take T) (hr.mono (by decide)) (by rfl) T.m__law_take T.F__law_take.kp T.b__law_take .nil pass0 (pa_cons (pv 0) (pa_cons pe_int pa_nil)))) pa_nil)) (pg_name (i := 6) sc.nd rfl (by first | exact Or.inl rfl | exact Or.inr rfl)) (pss_one (ps_expr (pe_bm PySem.F.plainAttrs_list PySem.F.slot_list_append PySem.F.type_list_append mt_append (pv 2) (pa_cons (pe_ifExp (PW.pt (pw_or (pt_cmpR op_gt (pv 5) pe_int (nomark _)) (pw_or1 (pt_cmpR (op_eqK (K := K) hr rfl) (pe_cg (ok__law_take T) (hr.mono (by decide)) (by rfl) T.m__law_take T.F__law_take.kp T.b__law_take .nil pass0 (pa_cons (pv 0) (pa_cons pe_int pa_nil))) pe_int (nomark _))))) (pe_cg (ok__law_take T) (hr.mono (by decide)) (by rfl) T.m__law_take T.F__law_take.kp T.b__law_take .nil pass0 (pa_cons (pv 0) (pa_cons (pv 1) pa_nil))) pe_int) pa_nil)))))
    (pss_cons (ps_for PassesOwn.never rfl (pi_seqK (K := K) rfl (pv 2)) (pg_name (i := 7) sc.nd rfl (by first | exact Or.inl rfl | exact Or.inr rfl)) (pss_one (ps_if (pt_cmpR (op_eqK (K := K) hr rfl) (pe_cg (ok__law_take T) (hr.mono (by decide)) (by rfl) T.m__law_take T.F__law_take.kp T.b__law_take .nil pass0 (pa_cons (pv 0) (pa_cons pe_int pa_nil))) pe_int (nomark _)) (pss_one (ps_expr (pe_bm PySem.F.plainAttrs_list PySem.F.slot_list_append PySem.F.type_list_append mt_append (pv 3) (pa_cons (pv 7) pa_nil)))) pss_nil)))
    (pss_cons (ps_if (PW.pt (pw_and (pt_cmpR (op_eqK (K := K) hr rfl) (pv 5) pe_int (nomark _)) (pw_and1 (pt_cmpR (op_neK (K := K) hr rfl) (pv 3) (pe_lst pa_nil) (nomark _))))) (pss_one (ps_asg (pe_cg (ok__law_take T) (hr.mono (by decide)) (by rfl) T.m__law_take T.F__law_take.kp T.b__law_take .nil pass0 (pa_cons (pv 0) (pa_cons (pv 1) pa_nil))) (pg_sub (pv 3) (pe_op op_sub (pe_callB (cl_len (K := K) rfl) (by rfl) T.n_len (by decide +kernel) (pa_cons (pv 3) pa_nil)) pe_int) set_list))) pss_nil)
    (pss_cons (ps_par (i := 8) (j := 9) rfl sc.nd rfl rfl (by decide) rfl rfl (pa_cons (pe_cg (ok_places_in T) (hr.mono (by decide)) (by rfl) T.m_places_in T.F_places_in.kp T.b_places_in .nil pass0 (pa_cons (pe_callTy (cl_tup (K := K) rfl) (by rfl) T.n_tuple (by decide +kernel) (pa_cons (pv 3) pa_nil)) (pa_cons (pe_callTy (cl_tup (K := K) rfl) (by rfl) T.n_tuple (by decide +kernel) (pa_cons (pv 2) pa_nil)) pa_nil))) (pa_cons (pe_lst pa_nil) pa_nil)) rfl)
    (pss_cons (ps_for PassesOwn.never rfl (pi_seqK (K := K) rfl (pv 3)) (pg_name (i := 7) sc.nd rfl (by first | exact Or.inl rfl | exact Or.inr rfl)) (pss_one (ps_if (pt_cmpR op_notN (pv 4) pe_non (nomark _)) (pss_cons (ps_setLc (i := 10) (own := [("at", 11)]) rfl sc.nd rfl rfl (sw_true rfl rfl rfl (by decide +kernel)) (pi_range2 (by rfl) T.n_range (pa_cons (pv 4) (pa_cons (pe_callB (cl_len (K := K) rfl) (by rfl) T.n_len (by decide +kernel) (pa_cons (pv 2) pa_nil)) pa_nil))) (blkOk_by (own := [("at", 11)]) (N := N__law_is_long_right) (sc := defScope s__law_is_long_right) (by decide +kernel)) (fun _ _ _ _ _ => (pg_name (i := 11) sc.nd rfl (by first | exact Or.inl rfl | exact Or.inr rfl))) (fun _ _ _ _ _ => (pts_one (pt_cmpR (op_eqK (K := K) hr rfl) (pe_ix (ix_K (K := K) rfl) (pv 2) (pv 11) (fun _ _ => rfl)) (pv 7) (nomark _)))) (fun _ _ _ _ _ => (pv 11)))
    (pss_one (ps_par (i := 9) (j := 4) rfl sc.nd rfl rfl (by decide) rfl rfl (pa_cons (pe_op (op_addK (K := K) rfl) (pv 9) (pe_slice (sl_K (K := K) rfl) (pv 10) po_none (po_some pe_int))) (pa_cons (pe_ifExp (pt_cmpR (op_neK (K := K) hr rfl) (pv 10) (pe_lst pa_nil) (nomark _)) (pe_op (op_addK (K := K) rfl) (pe_ix (ix_K (K := K) rfl) (pv 10) pe_int (fun _ _ => rfl)) pe_int) pe_non) pa_nil)) rfl))) pss_nil)))
    (pss_cons (ps_if (pt_not (pt_val (pe_cg (ok__law_same T 9) (hr.mono (by decide)) (by rfl) T.m__law_same T.F__law_same.kp T.b__law_same .nil pass0 (pa_cons (pv 8) (pa_cons (pe_ifExp (pt_cmpR op_isN (pv 4) pe_non (nomark _)) pe_non (pe_callTy (cl_tup (K := K) rfl) (by rfl) T.n_tuple (by decide +kernel) (pa_cons (pv 9) pa_nil))) pa_nil))))) (pss_one (ps_ret pe_bl)) pss_nil)
    (pss_one (ps_ret (pe_cg (ok__law_same T 9) (hr.mono (by decide)) (by rfl) T.m__law_same T.F__law_same.kp T.b__law_same .nil pass0 (pa_cons (pe_lst (pa_cons (pe_cg (ok_is_strewn T) (hr.mono (by decide)) (by rfl) T.m_is_strewn T.F_is_strewn.kp T.b_is_strewn .nil pass0 (pa_cons (pe_callTy (cl_tup (K := K) rfl) (by rfl) T.n_tuple (by decide +kernel) (pa_cons (pv 3) pa_nil)) (pa_cons (pe_callTy (cl_tup (K := K) rfl) (by rfl) T.n_tuple (by decide +kernel) (pa_cons (pv 2) pa_nil)) pa_nil))) (pa_cons (pe_cg (ok_is_strewn T) (hr.mono (by decide)) (by rfl) T.m_is_strewn T.F_is_strewn.kp T.b_is_strewn .nil pass0 (pa_cons (pe_op (op_addK (K := K) rfl) (pe_callTy (cl_tup (K := K) rfl) (by rfl) T.n_tuple (by decide +kernel) (pa_cons (pv 2) pa_nil)) (pe_tup (pa_cons pe_int pa_nil))) (pa_cons (pe_callTy (cl_tup (K := K) rfl) (by rfl) T.n_tuple (by decide +kernel) (pa_cons (pv 2) pa_nil)) pa_nil))) pa_nil))) (pa_cons (pe_lst (pa_cons (pe_cmpR op_notN (pv 4) pe_non (nomark _)) (pa_cons pe_bl pa_nil))) pa_nil))))))))))))), fun ds r hl hm => match ds, hl, hm with | [], _, h => ?_⟩
  have h : m__law_is_long_right  r := h
  unfold m__law_is_long_right at h
  show wS (Γ T) _ [some .w, none, none, none, none, none, none, none, none, none, none, none] _
  exact s_seq (s_parM (m_d ((w_add (w_int (w_ccW (i := 0) rfl (w_cons (w_int (w_nil (⟨rfl, h⟩))))))).mono fun x2 h => m_n (w_lst (w_nil (⟨lenOk, m_n (w_lst (w_nil (⟨lenOk, m_d (w_int (m_nil ⟨rfl, Nat.le_of_ble_eq_true rfl, gm_cs (gm_cs (gm_cs (gm_cs (gm_nl (s_seq (s_asgM (w_ccW (i := 0) rfl (w_cons (w_int (w_nil (⟨rfl, h⟩))))) fun sort8 h => s_seq (s_forM (S := List D) (fun s9 => [some .w, some (.d x2), some (.l s9), some (.l []), some (.d (.int 0)), some (.d sort8), none, none, none, none, none, none]) [] ⟨.inr rfl, .inr rfl, .inr rfl, .inr rfl, .inr rfl, .inr rfl, .inl rfl, .inl rfl, .inl rfl, .inl rfl, .inl rfl, .inl rfl, trivial⟩ (is_r1 (w_add (w_int (w_ccW (i := 0) rfl (w_cons (w_int (w_nil (⟨rfl, h⟩)))))))) (fun step_12 s9 nx10 h => g_name (s_apM rfl (w_ifV (w_orT (w_bT (w_gt (w_var (i := 5) rfl (w_int (h))))) fun k99 h => w_bT (w_eq (wE.r ((w_ccW (i := 0) rfl (w_cons (w_int (w_nil (⟨rfl, h⟩))))).mono fun x96 h => wE.r (w_int (h)))))) (fun k103 h => w_ccW (i := 0) rfl (w_cons (w_var (i := 1) rfl (w_nil (⟨rfl, h⟩))))) (fun k103 h => w_int (h))) fun other93 h => ⟨other93, ⟨.inr rfl, .inr rfl, .inr rfl, .inr rfl, .inr rfl, .inr rfl, .inl rfl, .inl rfl, .inl rfl, .inl rfl, .inl rfl, .inl rfl, trivial⟩, h⟩)) fun s9 h => s_freeze 2 rfl (s_seq (s_forM (S := List D) (fun s13 => [some .w, some (.d x2), some (.d (.list s9)), some (.l s13), some (.d (.int 0)), some (.d sort8), none, none, none, none, none, none]) [] ⟨.inr rfl, .inr rfl, .inr rfl, .inr rfl, .inr rfl, .inr rfl, .inl rfl, .inl rfl, .inl rfl, .inl rfl, .inl rfl, .inl rfl, trivial⟩ (is_seqM (w_var (i := 2) rfl (h))) (fun letter16 s13 nx14 h => g_name (s_ifJ (S := List D) (fun s88 => [some .w, some (.d x2), some (.d (.list s9)), some (.l s88), some (.d (.int 0)), some (.d sort8), none, some (.d letter16), none, none, none, none]) (w_bT (w_eq (wE.r ((w_ccW (i := 0) rfl (w_cons (w_int (w_nil (⟨rfl, h⟩))))).mono fun x84 h => wE.r (w_int (h)))))) (fun k87 h => s_apM rfl (w_var (i := 7) rfl (h)) fun one89 h => ⟨one89, ⟨.inr rfl, .inr rfl, .inr rfl, .inr rfl, .inr rfl, .inr rfl, .inl rfl, .inr rfl, .inl rfl, .inl rfl, .inl rfl, .inl rfl, trivial⟩, h⟩) (fun k87 h => s_next ⟨s13, ⟨.inr rfl, .inr rfl, .inr rfl, .inr rfl, .inr rfl, .inr rfl, .inl rfl, .inr rfl, .inl rfl, .inl rfl, .inl rfl, .inl rfl, trivial⟩, h⟩) fun s88 h => ⟨s88, ⟨.inr rfl, .inr rfl, .inr rfl, .inr rfl, .inr rfl, .inr rfl, .inl rfl, .inl rfl, .inl rfl, .inl rfl, .inl rfl, .inl rfl, trivial⟩, h⟩)) fun s13 h => s_seq (s_ifJ (S := List D) (fun s24 => [some .w, some (.d x2), some (.d (.list s9)), some (.l s24), some (.d (.int 0)), some (.d sort8), none, none, none, none, none, none]) (w_andT (w_bT (w_eq (wE.r (w_var (i := 5) rfl (wE.r (w_int (h))))))) fun k21 h => w_bT (w_ne (wL.r (w_varL (i := 3) rfl (wE.r (wN.e (w_lst (w_nil (⟨lenOk, h⟩))))))))) (fun k23 h => s_stM rfl ((w_ccW (i := 0) rfl (w_cons (w_var (i := 1) rfl (w_nil (⟨rfl, h⟩))))).mono fun x79 h => w_sub ((w_lenM (wL.r (w_varL (i := 3) rfl (h)))).mono fun x80 h => w_int (h))) fun one82 h => ⟨one82, ⟨.inr rfl, .inr rfl, .inr rfl, .inr rfl, .inr rfl, .inr rfl, .inl rfl, .inl rfl, .inl rfl, .inl rfl, .inl rfl, .inl rfl, trivial⟩, h⟩) (fun k23 h => s_next ⟨s13, ⟨.inr rfl, .inr rfl, .inr rfl, .inr rfl, .inr rfl, .inr rfl, .inl rfl, .inl rfl, .inl rfl, .inl rfl, .inl rfl, .inl rfl, trivial⟩, h⟩) fun s24 h => s_seq (s_par2 (m_d ((w_cc (w_cons (w_tupleL (w_varL (i := 3) rfl (w_cons ((w_tupM (w_var (i := 2) rfl (h))).mono fun x26 h => w_nil (⟨rfl, h⟩))))))).mono fun x25 h => m_d (wN.e (w_lst (w_nil (⟨lenOk, m_nil ⟨_, _, rfl, s_freeze 3 rfl (s_seq (s_forM (S := D × D) (fun s29 => [some .w, some (.d x2), some (.d (.list s9)), some (.d (.list s24)), some (.d s29.1), some (.d sort8), none, none, some (.d x25), some (.d s29.2), none, none]) ((.int 0), (.list [])) ⟨.inr rfl, .inr rfl, .inr rfl, .inr rfl, .inr rfl, .inr rfl, .inl rfl, .inl rfl, .inr rfl, .inr rfl, .inl rfl, .inl rfl, trivial⟩ (is_seqM (w_var (i := 3) rfl (h))) (fun letter32 s29 nx30 h => g_name (s_ifJ (S := D × D) (fun s55 => [some .w, some (.d x2), some (.d (.list s9)), some (.d (.list s24)), some (.d s55.1), some (.d sort8), none, some (.d letter32), some (.d x25), some (.d s55.2), none, none]) (w_bT (w_notNM (wE.r (w_var (i := 4) rfl (h))))) (fun k54 h => s_seq (s_asgM (wN.e (n_lcM (go_name (by decide)) (i_r2 (w_var (i := 4) rfl (w_lenM (wE.r (w_var (i := 2) rfl (h)))))) (fun y58 e59 z60 h => g_name ((w_bT (w_eq (wE.r ((w_ix (w_var (i := 2) rfl (w_var (i := 11) rfl (h)))).mono fun x61 h => wE.r (w_var (i := 7) rfl (h)))))).mono fun b63 h => iteM h (fun h => w_var (i := 11) rfl (h)) (fun h => h))))) fun ahead66 h => s_par2 (m_d ((w_add (w_var (i := 9) rfl (w_cut (w_var (i := 10) rfl (o_no (o_some (w_int (h)))))))).mono fun x69 h => m_d ((w_ifV (w_bT (w_ne (wE.r (w_var (i := 10) rfl (wE.r (wN.e (w_lst (w_nil (⟨lenOk, h⟩))))))))) (fun k76 h => w_add ((w_ix (w_var (i := 10) rfl (w_int (h)))).mono fun x73 h => w_int (h))) (fun k76 h => w_non (h))).mono fun x77 h => m_nil ⟨_, _, rfl, ⟨(x77, x69), ⟨.inr rfl, .inr rfl, .inr rfl, .inr rfl, .inr rfl, .inr rfl, .inl rfl, .inr rfl, .inr rfl, .inr rfl, .inl rfl, .inl rfl, trivial⟩, h⟩⟩))))) (fun k54 h => s_next ⟨(s29.1, s29.2), ⟨.inr rfl, .inr rfl, .inr rfl, .inr rfl, .inr rfl, .inr rfl, .inl rfl, .inr rfl, .inr rfl, .inr rfl, .inl rfl, .inl rfl, trivial⟩, h⟩) fun s55 h => ⟨(s55.1, s55.2), ⟨.inr rfl, .inr rfl, .inr rfl, .inr rfl, .inr rfl, .inr rfl, .inl rfl, .inl rfl, .inr rfl, .inr rfl, .inl rfl, .inl rfl, trivial⟩, h⟩)) fun s29 h => s_seq (s_if (w_not ((w_bB (w_cc (w_cons (w_var (i := 8) rfl (w_cons ((w_ifV (w_bT (w_isNM (wE.r (w_var (i := 4) rfl (h))))) (fun k38 h => w_non (h)) (fun k38 h => w_tupM (w_var (i := 9) rfl (h)))).mono fun x39 h => w_nil (⟨rfl, h⟩))))))).mono fun b40 h => iteM h (fun h => s_ret (w_bl (h))) (fun h => s_next (s_ret (w_cc (w_cons (wN.e (w_lst (w_cons ((w_cc (w_cons ((w_tupM (w_var (i := 3) rfl (h))).mono fun x43 h => w_cons ((w_tupM (w_var (i := 2) rfl (h))).mono fun x44 h => w_nil (⟨rfl, h⟩))))).mono fun x42 h => w_cons ((w_cc (w_cons ((w_add ((w_tupM (w_var (i := 2) rfl (h))).mono fun x46 h => w_tup (w_cons (w_int (w_nil (⟨lenOk, h⟩)))))).mono fun x48 h => w_cons ((w_tupM (w_var (i := 2) rfl (h))).mono fun x49 h => w_nil (⟨rfl, h⟩))))).mono fun x45 h => w_nil (⟨lenOk, w_cons (wN.e (w_lst (w_cons ((w_notNM (wE.r (w_var (i := 4) rfl (h)))).mono fun x50 h => w_cons (w_bl (w_nil (⟨lenOk, w_nil (⟨rfl, h⟩)⟩)))))))⟩)))))))))))))))⟩⟩)))))))))))))))))⟩))⟩)))⟩))))))
theorem ok_law (T : Tx K mg base) : FnG P w K mg base CX0 12 T.a_law T.d_law ["script"] (cpsSp (Γ T) 1 (n1 m_law)) := by
  have sc := sc_law
  refine def_c T.F_law sc_law fun cd A out s H E hc hr => ⟨_, (pss_cons (ps_for PassesOwn.never rfl (pi_range1 (by rfl) T.n_range (pa_cons (pe_callB (call_max2 rfl) (by rfl) T.n_max (by decide +kernel) (pa_cons pe_int (pa_cons (pe_callB (call_min2 rfl) (by rfl) T.n_min (by decide +kernel) (pa_cons pe_int (pa_cons (pe_callB (cl_len (K := K) rfl) (by rfl) T.n_len (by decide +kernel) (pa_cons (pv 0) pa_nil)) pa_nil))) pa_nil))) pa_nil)) (pg_name (i := 1) sc.nd rfl (by first | exact Or.inl rfl | exact Or.inr rfl)) (pss_cons (ps_set (i := 2) sc.nd rfl (by first | exact Or.inl rfl | exact Or.inr rfl) (pe_cg (ok__law_well T) (hr.mono (by decide)) (by rfl) T.m__law_well T.F__law_well.kp T.b__law_well .nil pass0 (pa_cons (pv 0) (pa_cons (pv 1) pa_nil))))
    (pss_cons (ps_for PassesOwn.never rfl (pi_range1 (by rfl) T.n_range (pa_cons pe_int pa_nil)) (pg_name (i := 3) sc.nd rfl (by first | exact Or.inl rfl | exact Or.inr rfl)) (pss_cons (ps_set (i := 4) sc.nd rfl (by first | exact Or.inl rfl | exact Or.inr rfl) (pe_op (op_addK (K := K) rfl) pe_int (pe_cg (ok__law_take T) (hr.mono (by decide)) (by rfl) T.m__law_take T.F__law_take.kp T.b__law_take .nil pass0 (pa_cons (pv 2) (pa_cons pe_int pa_nil)))))
    (pss_cons (ps_set (i := 5) sc.nd rfl (by first | exact Or.inl rfl | exact Or.inr rfl) (pe_cg (ok__law_word T) (hr.mono (by decide)) (by rfl) T.m__law_word T.F__law_word.kp T.b__law_word .nil pass0 (pa_cons (pv 2) (pa_cons (pv 4) (pa_cons pe_int pa_nil)))))
    (pss_cons (ps_set (i := 6) sc.nd rfl (by first | exact Or.inl rfl | exact Or.inr rfl) (pe_ifExp (pt_cmpR op_gt (pe_cg (ok__law_take T) (hr.mono (by decide)) (by rfl) T.m__law_take T.F__law_take.kp T.b__law_take .nil pass0 (pa_cons (pv 2) (pa_cons pe_int pa_nil))) pe_int (nomark _)) (pe_cg (ok__law_left T) (hr.mono (by decide)) (by rfl) T.m__law_left T.F__law_left.kp T.b__law_left .nil pass0 (pa_cons (pv 2) (pa_cons (pv 5) pa_nil))) (pe_cg (ok__law_word T) (hr.mono (by decide)) (by rfl) T.m__law_word T.F__law_word.kp T.b__law_word .nil pass0 (pa_cons (pv 2) (pa_cons (pv 4) (pa_cons pe_int pa_nil))))))
    (pss_cons (ps_set (i := 7) sc.nd rfl (by first | exact Or.inl rfl | exact Or.inr rfl) (pe_callB (cl_repr (K := K) hr rfl) (by rfl) T.n_repr (by decide +kernel) (pa_cons (pe_lst (pa_cons (pv 6) (pa_cons (pv 5) pa_nil))) pa_nil)))
    (pss_cons (ps_if (PW.pt (pw_or (pt_not (pt_val (pe_cg (ok__law_right T) (hr.mono (by decide)) (by rfl) T.m__law_right T.F__law_right.kp T.b__law_right .nil pass0 (pa_cons (pv 6) (pa_cons (pv 5) pa_nil))))) (pw_or (pt_not (pt_val (pe_cg (ok__law_right T) (hr.mono (by decide)) (by rfl) T.m__law_right T.F__law_right.kp T.b__law_right .nil pass0 (pa_cons (pv 5) (pa_cons (pv 6) pa_nil))))) (pw_or (pt_not (pt_val (pe_cg (ok__law_right T) (hr.mono (by decide)) (by rfl) T.m__law_right T.F__law_right.kp T.b__law_right .nil pass0 (pa_cons (pv 6) (pa_cons (pv 6) pa_nil))))) (pw_or1 (pt_not (pt_val (pe_cg (ok__law_right T) (hr.mono (by decide)) (by rfl) T.m__law_right T.F__law_right.kp T.b__law_right .nil pass0 (pa_cons (pe_tup pa_nil) (pa_cons (pv 5) pa_nil)))))))))) (pss_one (ps_ret pe_bl)) pss_nil)
    (pss_one (ps_if (PW.pt (pw_or (pt_cmpR op_notBl (pe_cg (ok_is_strewn T) (hr.mono (by decide)) (by rfl) T.m_is_strewn T.F_is_strewn.kp T.b_is_strewn .nil pass0 (pa_cons (pv 6) (pa_cons (pe_op (op_addK (K := K) rfl) (pv 5) (pv 6)) pa_nil))) pe_bl (nomark _)) (pw_or (pt_cmpR op_notBl (pe_cg (ok_is_strewn T) (hr.mono (by decide)) (by rfl) T.m_is_strewn T.F_is_strewn.kp T.b_is_strewn .nil pass0 (pa_cons (pv 6) (pa_cons (pe_op (op_addK (K := K) rfl) (pv 6) (pv 5)) pa_nil))) pe_bl (nomark _)) (pw_or1 (pt_cmpR (op_neK (K := K) hr rfl) (pe_callB (cl_repr (K := K) hr rfl) (by rfl) T.n_repr (by decide +kernel) (pa_cons (pe_lst (pa_cons (pv 6) (pa_cons (pv 5) pa_nil))) pa_nil)) (pv 7) (nomark _)))))) (pss_one (ps_ret pe_bl)) pss_nil))))))))
    (pss_one (ps_if (pt_not (pt_val (pe_cg (ok__law_is_long_right T) (hr.mono (by decide)) (by rfl) T.m__law_is_long_right T.F__law_is_long_right.kp T.b__law_is_long_right .nil pass0 (pa_cons (pv 2) pa_nil)))) (pss_one (ps_ret pe_bl)) pss_nil)))))
    (pss_one (ps_ret pe_bl))), fun ds r hl hm => match ds, hl, hm with | [script], _, h => ?_⟩
  have h : m_law script r := h
  unfold m_law at h
  show wS (Γ T) _ [some (.d script), none, none, none, none, none, none, none] _
  exact s_seq (s_forM (S := Unit) (fun s1 => [some (.d script), none, none, none, none, none, none, none]) () ⟨.inr rfl, .inl rfl, .inl rfl, .inl rfl, .inl rfl, .inl rfl, .inl rfl, .inl rfl, trivial⟩ (is_r1 (w_max2 (w_int (w_min2 (w_int (w_lenM (wE.r (w_var (i := 0) rfl (h))))))))) (fun at_4 s1 nx2 h => g_name (s_seq (s_asgWM (w_ccN (w_cons (w_var (i := 0) rfl (w_cons (w_var (i := 1) rfl (w_nil (⟨rfl, h⟩))))))) fun h => s_seq (s_forM (S := Unit) (fun s10 => [some (.d script), some (.d at_4), some .w, none, none, none, none, none]) () ⟨.inr rfl, .inr rfl, .inr rfl, .inl rfl, .inl rfl, .inl rfl, .inl rfl, .inl rfl, trivial⟩ (is_r1 (w_int (h))) (fun turn13 s10 nx11 h => g_name (s_seq (s_asgM (w_add (w_int (w_ccW (i := 2) rfl (w_cons (w_int (w_nil (⟨rfl, h⟩))))))) fun k_19 h => s_seq (s_asgM (w_ccW (i := 2) rfl (w_cons (w_var (i := 4) rfl (w_cons (w_int (w_nil (⟨rfl, h⟩))))))) fun other21 h => s_seq (s_asgM (w_ifV (w_bT (w_gt ((w_ccW (i := 2) rfl (w_cons (w_int (w_nil (⟨rfl, h⟩))))).mono fun x22 h => w_int (h)))) (fun k28 h => w_ccW (i := 2) rfl (w_cons (w_var (i := 5) rfl (w_nil (⟨rfl, h⟩))))) (fun k28 h => w_ccW (i := 2) rfl (w_cons (w_var (i := 4) rfl (w_cons (w_int (w_nil (⟨rfl, h⟩)))))))) fun one30 h => s_seq (s_asgM (w_repr (wE.r (wN.e (w_lst (w_cons (w_var (i := 6) rfl (w_cons (w_var (i := 5) rfl (w_nil (⟨lenOk, h⟩)))))))))) fun kept32 h => s_seq (s_if ((w_orT (w_not (w_bB (w_cc (w_cons (w_var (i := 6) rfl (w_cons (w_var (i := 5) rfl (w_nil (⟨rfl, h⟩))))))))) fun k45 h => w_orT (w_not (w_bB (w_cc (w_cons (w_var (i := 5) rfl (w_cons (w_var (i := 6) rfl (w_nil (⟨rfl, h⟩))))))))) fun k43 h => w_orT (w_not (w_bB (w_cc (w_cons (w_var (i := 6) rfl (w_cons (w_var (i := 6) rfl (w_nil (⟨rfl, h⟩))))))))) fun k41 h => w_not (w_bB (w_cc (w_cons (w_tup (w_nil ⟨lenOk, w_cons (w_var (i := 5) rfl (w_nil (⟨rfl, h⟩)))⟩)))))).mono fun b46 h => iteM h (fun h => s_ret (w_bl (h))) (fun h => s_next (s_if ((w_orT (w_bT (w_notB (w_cc (w_cons (w_var (i := 6) rfl (w_cons ((w_add (w_var (i := 5) rfl (w_var (i := 6) rfl (h)))).mono fun x48 h => w_nil (⟨rfl, h⟩)))))))) fun k60 h => w_orT (w_bT (w_notB (w_cc (w_cons (w_var (i := 6) rfl (w_cons ((w_add (w_var (i := 6) rfl (w_var (i := 5) rfl (h)))).mono fun x52 h => w_nil (⟨rfl, h⟩)))))))) fun k58 h => w_bT (w_ne (wE.r ((w_repr (wE.r (wN.e (w_lst (w_cons (w_var (i := 6) rfl (w_cons (w_var (i := 5) rfl (w_nil (⟨lenOk, h⟩)))))))))).mono fun x55 h => wE.r (w_var (i := 7) rfl (h)))))).mono fun b61 h => iteM h (fun h => s_ret (w_bl (h))) (fun h => s_next ⟨(), ⟨.inr rfl, .inr rfl, .inr rfl, .inl rfl, .inl rfl, .inl rfl, .inl rfl, .inl rfl, trivial⟩, h⟩)))))))))))) fun s10 h => s_if (w_not ((w_bB (w_ccW (i := 2) rfl (w_nil (⟨rfl, h⟩)))).mono fun b15 h => iteM h (fun h => s_ret (w_bl (h))) (fun h => s_next ⟨(), ⟨.inr rfl, .inl rfl, .inl rfl, .inl rfl, .inl rfl, .inl rfl, .inl rfl, .inl rfl, trivial⟩, h⟩))))))) fun s1 h => s_ret (w_bl (h)))
theorem all_mk {vw : Program} {l : PySem.W.OpenLaw} {w : World} {K : PySem.W.Frag} {h : Heap} {mg : Str → Option Value} {fa : Addr} (X : K.In h) (G : h.Ns mainGlobals mg) (hfa : mg "law" = some (.ref fa))
    (tb : ∀ (y : Str) (c P : Addr), ((recsOf vw).find? fun e => e.name == y).isSome = true → PySem.W.tabIn K y = some (c, P) → PySem.W.CodeHd h c P ∧ h.get? P = some (PySem.W.tabObj #[]))
    {f0 : Addr} {od0 an0 : Option Addr} {sl0 : Array (Option Value)} {oc0 kV0 dc0 pm0 ct0 cd0 : Value}
    {f1 : Addr} {od1 an1 : Option Addr} {sl1 : Array (Option Value)} {oc1 kV1 dc1 pm1 ct1 cd1 : Value}
    {f2 : Addr} {od2 an2 : Option Addr} {sl2 : Array (Option Value)} {oc2 kV2 dc2 pm2 ct2 cd2 : Value}
    {f3 : Addr} {od3 an3 : Option Addr} {sl3 : Array (Option Value)} {oc3 kV3 dc3 pm3 ct3 : Value}
    {c3 p3 : Addr}
    {f4 : Addr} {od4 an4 : Option Addr} {sl4 : Array (Option Value)} {oc4 kV4 dc4 pm4 ct4 cd4 : Value}
    {f5 : Addr} {od5 an5 : Option Addr} {sl5 : Array (Option Value)} {oc5 kV5 dc5 pm5 ct5 cd5 : Value}
    {f6 : Addr} {od6 an6 : Option Addr} {sl6 : Array (Option Value)} {oc6 kV6 dc6 pm6 ct6 cd6 : Value}
    {f7 : Addr} {od7 an7 : Option Addr} {sl7 : Array (Option Value)} {oc7 kV7 dc7 pm7 ct7 cd7 : Value}
    {f8 : Addr} {od8 an8 : Option Addr} {sl8 : Array (Option Value)} {oc8 kV8 dc8 pm8 ct8 cd8 : Value}
    {f9 : Addr} {od9 an9 : Option Addr} {sl9 : Array (Option Value)} {oc9 kV9 dc9 pm9 ct9 cd9 : Value}
    {f10 : Addr} {od10 an10 : Option Addr} {sl10 : Array (Option Value)} {oc10 kV10 dc10 pm10 ct10 cd10 : Value}
    {f11 : Addr} {od11 an11 : Option Addr} {sl11 : Array (Option Value)} {oc11 kV11 dc11 pm11 ct11 cd11 : Value}
    {f12 : Addr} {od12 an12 : Option Addr} {sl12 : Array (Option Value)} {oc12 kV12 dc12 pm12 ct12 cd12 : Value}
    {f13 : Addr} {od13 an13 : Option Addr} {sl13 : Array (Option Value)} {oc13 kV13 dc13 pm13 ct13 cd13 : Value}
    {f14 : Addr} {od14 an14 : Option Addr} {sl14 : Array (Option Value)} {oc14 kV14 dc14 pm14 ct14 cd14 : Value}
    {f15 : Addr} {od15 an15 : Option Addr} {sl15 : Array (Option Value)} {oc15 kV15 dc15 pm15 ct15 cd15 : Value}
    {f16 : Addr} {od16 an16 : Option Addr} {sl16 : Array (Option Value)} {oc16 kV16 dc16 pm16 ct16 cd16 : Value}
    {f17 : Addr} {od17 an17 : Option Addr} {sl17 : Array (Option Value)} {oc17 kV17 dc17 pm17 ct17 cd17 : Value}
    {f18 : Addr} {od18 an18 : Option Addr} {sl18 : Array (Option Value)} {oc18 kV18 dc18 pm18 ct18 cd18 : Value}
    {t_MOST_LETTERS : Tok}
    (a0 : PySem.W.nsIn K mainGlobals "is_integer" = some (some (.ref f0)))
    (l0 : K.lookup f0 = some ⟨oc0, od0, .func (PySem.W.fnOf "is_integer" "is_integer" (defArgs s_is_integer) (defBody s_is_integer) (defScope s_is_integer) .none kV0 dc0 pm0 an0 cd0 ct0), sl0⟩)
    (h0 : PySem.W.codeIn K cd0 "is_integer" = true)
    (k0 : PySem.W.keepIn K (.ref f0) = true)
    (a1 : PySem.W.nsIn K mainGlobals "is_natural" = some (some (.ref f1)))
    (l1 : K.lookup f1 = some ⟨oc1, od1, .func (PySem.W.fnOf "is_natural" "is_natural" (defArgs s_is_natural) (defBody s_is_natural) (defScope s_is_natural) .none kV1 dc1 pm1 an1 cd1 ct1), sl1⟩)
    (h1 : PySem.W.codeIn K cd1 "is_natural" = true)
    (k1 : PySem.W.keepIn K (.ref f1) = true)
    (a2 : PySem.W.nsIn K mainGlobals "is_below" = some (some (.ref f2)))
    (l2 : K.lookup f2 = some ⟨oc2, od2, .func (PySem.W.fnOf "is_below" "is_below" (defArgs s_is_below) (defBody s_is_below) (defScope s_is_below) .none kV2 dc2 pm2 an2 cd2 ct2), sl2⟩)
    (h2 : PySem.W.codeIn K cd2 "is_below" = true)
    (k2 : PySem.W.keepIn K (.ref f2) = true)
    (a3 : PySem.W.nsIn K mainGlobals "is_letters" = some (some (.ref f3)))
    (l3 : K.lookup f3 = some ⟨oc3, od3, .func (PySem.W.fnOf "is_letters" "is_letters" (defArgs s_is_letters) (defBody s_is_letters) (defScope s_is_letters) .none kV3 dc3 pm3 an3 (.ref c3) ct3), sl3⟩)
    (h3 : PySem.W.codeIn K (.ref c3) "is_letters" = true)
    (k3 : PySem.W.keepIn K (.ref f3) = true)
    (t3 : PySem.W.tabIn K "is_letters" = some (c3, p3))
    (r3 : ((recsOf vw).find? fun e => e.name == ("is_letters" : Str)).isSome = true)
    (n3 : K.lookup p3 = none)
    (a4 : PySem.W.nsIn K mainGlobals "is_word_of" = some (some (.ref f4)))
    (l4 : K.lookup f4 = some ⟨oc4, od4, .func (PySem.W.fnOf "is_word_of" "is_word_of" (defArgs s_is_word_of) (defBody s_is_word_of) (defScope s_is_word_of) .none kV4 dc4 pm4 an4 cd4 ct4), sl4⟩)
    (h4 : PySem.W.codeIn K cd4 "is_word_of" = true)
    (k4 : PySem.W.keepIn K (.ref f4) = true)
    (a5 : PySem.W.nsIn K mainGlobals "check_word" = some (some (.ref f5)))
    (l5 : K.lookup f5 = some ⟨oc5, od5, .func (PySem.W.fnOf "check_word" "check_word" (defArgs s_check_word) (defBody s_check_word) (defScope s_check_word) .none kV5 dc5 pm5 an5 cd5 ct5), sl5⟩)
    (h5 : PySem.W.codeIn K cd5 "check_word" = true)
    (k5 : PySem.W.keepIn K (.ref f5) = true)
    (a6 : PySem.W.nsIn K mainGlobals "found_in" = some (some (.ref f6)))
    (l6 : K.lookup f6 = some ⟨oc6, od6, .func (PySem.W.fnOf "found_in" "found_in" (defArgs s_found_in) (defBody s_found_in) (defScope s_found_in) .none kV6 dc6 pm6 an6 cd6 ct6), sl6⟩)
    (h6 : PySem.W.codeIn K cd6 "found_in" = true)
    (k6 : PySem.W.keepIn K (.ref f6) = true)
    (a7 : PySem.W.nsIn K mainGlobals "strewn_in" = some (some (.ref f7)))
    (l7 : K.lookup f7 = some ⟨oc7, od7, .func (PySem.W.fnOf "strewn_in" "strewn_in" (defArgs s_strewn_in) (defBody s_strewn_in) (defScope s_strewn_in) .none kV7 dc7 pm7 an7 cd7 ct7), sl7⟩)
    (h7 : PySem.W.codeIn K cd7 "strewn_in" = true)
    (k7 : PySem.W.keepIn K (.ref f7) = true)
    (a8 : PySem.W.nsIn K mainGlobals "is_strewn" = some (some (.ref f8)))
    (l8 : K.lookup f8 = some ⟨oc8, od8, .func (PySem.W.fnOf "is_strewn" "is_strewn" (defArgs s_is_strewn) (defBody s_is_strewn) (defScope s_is_strewn) .none kV8 dc8 pm8 an8 cd8 ct8), sl8⟩)
    (h8 : PySem.W.codeIn K cd8 "is_strewn" = true)
    (k8 : PySem.W.keepIn K (.ref f8) = true)
    (a9 : PySem.W.nsIn K mainGlobals "places_in" = some (some (.ref f9)))
    (l9 : K.lookup f9 = some ⟨oc9, od9, .func (PySem.W.fnOf "places_in" "places_in" (defArgs s_places_in) (defBody s_places_in) (defScope s_places_in) .none kV9 dc9 pm9 an9 cd9 ct9), sl9⟩)
    (h9 : PySem.W.codeIn K cd9 "places_in" = true)
    (k9 : PySem.W.keepIn K (.ref f9) = true)
    (a10 : PySem.W.nsIn K mainGlobals "_law_well" = some (some (.ref f10)))
    (l10 : K.lookup f10 = some ⟨oc10, od10, .func (PySem.W.fnOf "_law_well" "_law_well" (defArgs s__law_well) (defBody s__law_well) (defScope s__law_well) .none kV10 dc10 pm10 an10 cd10 ct10), sl10⟩)
    (h10 : PySem.W.codeIn K cd10 "_law_well" = true)
    (k10 : PySem.W.keepIn K (.ref f10) = true)
    (a11 : PySem.W.nsIn K mainGlobals "_law_take" = some (some (.ref f11)))
    (l11 : K.lookup f11 = some ⟨oc11, od11, .func (PySem.W.fnOf "_law_take" "_law_take" (defArgs s__law_take) (defBody s__law_take) (defScope s__law_take) .none kV11 dc11 pm11 an11 cd11 ct11), sl11⟩)
    (h11 : PySem.W.codeIn K cd11 "_law_take" = true)
    (k11 : PySem.W.keepIn K (.ref f11) = true)
    (a12 : PySem.W.nsIn K mainGlobals "_law_same" = some (some (.ref f12)))
    (l12 : K.lookup f12 = some ⟨oc12, od12, .func (PySem.W.fnOf "_law_same" "_law_same" (defArgs s__law_same) (defBody s__law_same) (defScope s__law_same) .none kV12 dc12 pm12 an12 cd12 ct12), sl12⟩)
    (h12 : PySem.W.codeIn K cd12 "_law_same" = true)
    (k12 : PySem.W.keepIn K (.ref f12) = true)
    (a13 : PySem.W.nsIn K mainGlobals "_law_word" = some (some (.ref f13)))
    (l13 : K.lookup f13 = some ⟨oc13, od13, .func (PySem.W.fnOf "_law_word" "_law_word" (defArgs s__law_word) (defBody s__law_word) (defScope s__law_word) .none kV13 dc13 pm13 an13 cd13 ct13), sl13⟩)
    (h13 : PySem.W.codeIn K cd13 "_law_word" = true)
    (k13 : PySem.W.keepIn K (.ref f13) = true)
    (a14 : PySem.W.nsIn K mainGlobals "_law_left" = some (some (.ref f14)))
    (l14 : K.lookup f14 = some ⟨oc14, od14, .func (PySem.W.fnOf "_law_left" "_law_left" (defArgs s__law_left) (defBody s__law_left) (defScope s__law_left) .none kV14 dc14 pm14 an14 cd14 ct14), sl14⟩)
    (h14 : PySem.W.codeIn K cd14 "_law_left" = true)
    (k14 : PySem.W.keepIn K (.ref f14) = true)
    (a15 : PySem.W.nsIn K mainGlobals "_law_first" = some (some (.ref f15)))
    (l15 : K.lookup f15 = some ⟨oc15, od15, .func (PySem.W.fnOf "_law_first" "_law_first" (defArgs s__law_first) (defBody s__law_first) (defScope s__law_first) .none kV15 dc15 pm15 an15 cd15 ct15), sl15⟩)
    (h15 : PySem.W.codeIn K cd15 "_law_first" = true)
    (k15 : PySem.W.keepIn K (.ref f15) = true)
    (a16 : PySem.W.nsIn K mainGlobals "_law_right" = some (some (.ref f16)))
    (l16 : K.lookup f16 = some ⟨oc16, od16, .func (PySem.W.fnOf "_law_right" "_law_right" (defArgs s__law_right) (defBody s__law_right) (defScope s__law_right) .none kV16 dc16 pm16 an16 cd16 ct16), sl16⟩)
    (h16 : PySem.W.codeIn K cd16 "_law_right" = true)
    (k16 : PySem.W.keepIn K (.ref f16) = true)
    (a17 : PySem.W.nsIn K mainGlobals "_law_is_long_right" = some (some (.ref f17)))
    (l17 : K.lookup f17 = some ⟨oc17, od17, .func (PySem.W.fnOf "_law_is_long_right" "_law_is_long_right" (defArgs s__law_is_long_right) (defBody s__law_is_long_right) (defScope s__law_is_long_right) .none kV17 dc17 pm17 an17 cd17 ct17), sl17⟩)
    (h17 : PySem.W.codeIn K cd17 "_law_is_long_right" = true)
    (k17 : PySem.W.keepIn K (.ref f17) = true)
    (a18 : PySem.W.nsIn K mainGlobals "law" = some (some (.ref f18)))
    (l18 : K.lookup f18 = some ⟨oc18, od18, .func (PySem.W.fnOf "law" "law" (defArgs s_law) (defBody s_law) (defScope s_law) .none kV18 dc18 pm18 an18 cd18 ct18), sl18⟩)
    (h18 : PySem.W.codeIn K cd18 "law" = true)
    (k18 : PySem.W.keepIn K (.ref f18) = true)
    (z_abs : PySem.W.nsIn K mainGlobals "abs" = some none)
    (z_all : PySem.W.nsIn K mainGlobals "all" = some none)
    (z_bool : PySem.W.nsIn K mainGlobals "bool" = some none)
    (z_int : PySem.W.nsIn K mainGlobals "int" = some none)
    (z_isinstance : PySem.W.nsIn K mainGlobals "isinstance" = some none)
    (z_len : PySem.W.nsIn K mainGlobals "len" = some none)
    (z_list : PySem.W.nsIn K mainGlobals "list" = some none)
    (z_max : PySem.W.nsIn K mainGlobals "max" = some none)
    (z_min : PySem.W.nsIn K mainGlobals "min" = some none)
    (z_range : PySem.W.nsIn K mainGlobals "range" = some none)
    (z_repr : PySem.W.nsIn K mainGlobals "repr" = some none)
    (z_str : PySem.W.nsIn K mainGlobals "str" = some none)
    (z_tuple : PySem.W.nsIn K mainGlobals "tuple" = some none)
    (y_MOST_LETTERS : PySem.W.nsIn K mainGlobals "MOST_LETTERS" = some (some (.int 3 t_MOST_LETTERS))) : MG.LawC l w K 12 63 "script" mg fa h := by
  have e := hfa.symm.trans (PySem.W.mg_of X G a18)
  cases e
  refine ⟨_, [(c3, p3)], WI, n1 m_law, ?_, ?_, fun s v => .of_eq rfl, fun ns hn => law_holds ns hn, fun base _ _ tb2 => ok_law (P := l.prog) (w := w) (base := base) { a_is_integer := f0, d_is_integer := (PySem.W.fnOf "is_integer" "is_integer" (defArgs s_is_integer) (defBody s_is_integer) (defScope s_is_integer) .none kV0 dc0 pm0 an0 cd0 ct0), F_is_integer := fun_mk l0 h0 k0, m_is_integer := PySem.W.mg_of X G a0, b_is_integer := (fun_mk (st := s_is_integer) l0 h0 k0).binds (ps := ["value"]) fun _ _ _ _ _ _ us hl => match us, hl with | [_], _ => rfl, a_is_natural := f1, d_is_natural := (PySem.W.fnOf "is_natural" "is_natural" (defArgs s_is_natural) (defBody s_is_natural) (defScope s_is_natural) .none kV1 dc1 pm1 an1 cd1 ct1), F_is_natural := fun_mk l1 h1 k1, m_is_natural := PySem.W.mg_of X G a1, b_is_natural := (fun_mk (st := s_is_natural) l1 h1 k1).binds (ps := ["value"]) fun _ _ _ _ _ _ us hl => match us, hl with | [_], _ => rfl, a_is_below := f2, d_is_below := (PySem.W.fnOf "is_below" "is_below" (defArgs s_is_below) (defBody s_is_below) (defScope s_is_below) .none kV2 dc2 pm2 an2 cd2 ct2), F_is_below := fun_mk l2 h2 k2, m_is_below := PySem.W.mg_of X G a2, b_is_below := (fun_mk (st := s_is_below) l2 h2 k2).binds (ps := ["value", "many"]) fun _ _ _ _ _ _ us hl => match us, hl with | [_, _], _ => rfl, a_is_letters := f3, d_is_letters := (PySem.W.fnOf "is_letters" "is_letters" (defArgs s_is_letters) (defBody s_is_letters) (defScope s_is_letters) .none kV3 dc3 pm3 an3 (.ref c3) ct3), F_is_letters := fun_mk l3 h3 k3, m_is_letters := PySem.W.mg_of X G a3, b_is_letters := (fun_mk (st := s_is_letters) l3 h3 k3).binds (ps := ["k", "value"]) fun _ _ _ _ _ _ us hl => match us, hl with | [_, _], _ => rfl, k_is_letters := c3, p_is_letters := p3, c_is_letters := rfl, t_is_letters := tb2 (c3, p3) (.head _), a_is_word_of := f4, d_is_word_of := (PySem.W.fnOf "is_word_of" "is_word_of" (defArgs s_is_word_of) (defBody s_is_word_of) (defScope s_is_word_of) .none kV4 dc4 pm4 an4 cd4 ct4), F_is_word_of := fun_mk l4 h4 k4, m_is_word_of := PySem.W.mg_of X G a4, b_is_word_of := (fun_mk (st := s_is_word_of) l4 h4 k4).binds (ps := ["k", "told"]) fun _ _ _ _ _ _ us hl => match us, hl with | [_, _], _ => rfl, a_check_word := f5, d_check_word := (PySem.W.fnOf "check_word" "check_word" (defArgs s_check_word) (defBody s_check_word) (defScope s_check_word) .none kV5 dc5 pm5 an5 cd5 ct5), F_check_word := fun_mk l5 h5 k5, m_check_word := PySem.W.mg_of X G a5, b_check_word := (fun_mk (st := s_check_word) l5 h5 k5).binds (ps := ["k", "word"]) fun _ _ _ _ _ _ us hl => match us, hl with | [_, _], _ => rfl, a_found_in := f6, d_found_in := (PySem.W.fnOf "found_in" "found_in" (defArgs s_found_in) (defBody s_found_in) (defScope s_found_in) .none kV6 dc6 pm6 an6 cd6 ct6), F_found_in := fun_mk l6 h6 k6, m_found_in := PySem.W.mg_of X G a6, b_found_in := (fun_mk (st := s_found_in) l6 h6 k6).binds (ps := ["one", "other"]) fun _ _ _ _ _ _ us hl => match us, hl with | [_, _], _ => rfl, a_strewn_in := f7, d_strewn_in := (PySem.W.fnOf "strewn_in" "strewn_in" (defArgs s_strewn_in) (defBody s_strewn_in) (defScope s_strewn_in) .none kV7 dc7 pm7 an7 cd7 ct7), F_strewn_in := fun_mk l7 h7 k7, m_strewn_in := PySem.W.mg_of X G a7, b_strewn_in := (fun_mk (st := s_strewn_in) l7 h7 k7).binds (ps := ["one", "other"]) fun _ _ _ _ _ _ us hl => match us, hl with | [_, _], _ => rfl, a_is_strewn := f8, d_is_strewn := (PySem.W.fnOf "is_strewn" "is_strewn" (defArgs s_is_strewn) (defBody s_is_strewn) (defScope s_is_strewn) .none kV8 dc8 pm8 an8 cd8 ct8), F_is_strewn := fun_mk l8 h8 k8, m_is_strewn := PySem.W.mg_of X G a8, b_is_strewn := (fun_mk (st := s_is_strewn) l8 h8 k8).binds (ps := ["one", "other"]) fun _ _ _ _ _ _ us hl => match us, hl with | [_, _], _ => rfl, a_places_in := f9, d_places_in := (PySem.W.fnOf "places_in" "places_in" (defArgs s_places_in) (defBody s_places_in) (defScope s_places_in) .none kV9 dc9 pm9 an9 cd9 ct9), F_places_in := fun_mk l9 h9 k9, m_places_in := PySem.W.mg_of X G a9, b_places_in := (fun_mk (st := s_places_in) l9 h9 k9).binds (ps := ["one", "other"]) fun _ _ _ _ _ _ us hl => match us, hl with | [_, _], _ => rfl, a__law_well := f10, d__law_well := (PySem.W.fnOf "_law_well" "_law_well" (defArgs s__law_well) (defBody s__law_well) (defScope s__law_well) .none kV10 dc10 pm10 an10 cd10 ct10), F__law_well := fun_mk l10 h10 k10, m__law_well := PySem.W.mg_of X G a10, b__law_well := (fun_mk (st := s__law_well) l10 h10 k10).binds (ps := ["script", "at"]) fun _ _ _ _ _ _ us hl => match us, hl with | [_, _], _ => rfl, a__law_take := f11, d__law_take := (PySem.W.fnOf "_law_take" "_law_take" (defArgs s__law_take) (defBody s__law_take) (defScope s__law_take) .none kV11 dc11 pm11 an11 cd11 ct11), F__law_take := fun_mk l11 h11 k11, m__law_take := PySem.W.mg_of X G a11, b__law_take := (fun_mk (st := s__law_take) l11 h11 k11).binds (ps := ["well", "many"]) fun _ _ _ _ _ _ us hl => match us, hl with | [_, _], _ => rfl, a__law_same := f12, d__law_same := (PySem.W.fnOf "_law_same" "_law_same" (defArgs s__law_same) (defBody s__law_same) (defScope s__law_same) .none kV12 dc12 pm12 an12 cd12 ct12), F__law_same := fun_mk l12 h12 k12, m__law_same := PySem.W.mg_of X G a12, b__law_same := (fun_mk (st := s__law_same) l12 h12 k12).binds (ps := ["told", "due"]) fun _ _ _ _ _ _ us hl => match us, hl with | [_, _], _ => rfl, a__law_word := f13, d__law_word := (PySem.W.fnOf "_law_word" "_law_word" (defArgs s__law_word) (defBody s__law_word) (defScope s__law_word) .none kV13 dc13 pm13 an13 cd13 ct13), F__law_word := fun_mk l13 h13 k13, m__law_word := PySem.W.mg_of X G a13, b__law_word := (fun_mk (st := s__law_word) l13 h13 k13).binds (ps := ["well", "k", "most"]) fun _ _ _ _ _ _ us hl => match us, hl with | [_, _, _], _ => rfl, a__law_left := f14, d__law_left := (PySem.W.fnOf "_law_left" "_law_left" (defArgs s__law_left) (defBody s__law_left) (defScope s__law_left) .none kV14 dc14 pm14 an14 cd14 ct14), F__law_left := fun_mk l14 h14 k14, m__law_left := PySem.W.mg_of X G a14, b__law_left := (fun_mk (st := s__law_left) l14 h14 k14).binds (ps := ["well", "word"]) fun _ _ _ _ _ _ us hl => match us, hl with | [_, _], _ => rfl, a__law_first := f15, d__law_first := (PySem.W.fnOf "_law_first" "_law_first" (defArgs s__law_first) (defBody s__law_first) (defScope s__law_first) .none kV15 dc15 pm15 an15 cd15 ct15), F__law_first := fun_mk l15 h15 k15, m__law_first := PySem.W.mg_of X G a15, b__law_first := (fun_mk (st := s__law_first) l15 h15 k15).binds (ps := ["one", "other"]) fun _ _ _ _ _ _ us hl => match us, hl with | [_, _], _ => rfl, a__law_right := f16, d__law_right := (PySem.W.fnOf "_law_right" "_law_right" (defArgs s__law_right) (defBody s__law_right) (defScope s__law_right) .none kV16 dc16 pm16 an16 cd16 ct16), F__law_right := fun_mk l16 h16 k16, m__law_right := PySem.W.mg_of X G a16, b__law_right := (fun_mk (st := s__law_right) l16 h16 k16).binds (ps := ["one", "other"]) fun _ _ _ _ _ _ us hl => match us, hl with | [_, _], _ => rfl, a__law_is_long_right := f17, d__law_is_long_right := (PySem.W.fnOf "_law_is_long_right" "_law_is_long_right" (defArgs s__law_is_long_right) (defBody s__law_is_long_right) (defScope s__law_is_long_right) .none kV17 dc17 pm17 an17 cd17 ct17), F__law_is_long_right := fun_mk l17 h17 k17, m__law_is_long_right := PySem.W.mg_of X G a17, b__law_is_long_right := (fun_mk (st := s__law_is_long_right) l17 h17 k17).binds (ps := ["well"]) fun _ _ _ _ _ _ us hl => match us, hl with | [_], _ => rfl, a_law := fa, d_law := (PySem.W.fnOf "law" "law" (defArgs s_law) (defBody s_law) (defScope s_law) .none kV18 dc18 pm18 an18 cd18 ct18), F_law := fun_mk l18 h18 k18, m_law := PySem.W.mg_of X G a18, b_law := (fun_mk (st := s_law) l18 h18 k18).binds (ps := ["script"]) fun _ _ _ _ _ _ us hl => match us, hl with | [_], _ => rfl, n_abs := PySem.W.mg_none_of X G z_abs, n_all := PySem.W.mg_none_of X G z_all, n_bool := PySem.W.mg_none_of X G z_bool, n_int := PySem.W.mg_none_of X G z_int, n_isinstance := PySem.W.mg_none_of X G z_isinstance, n_len := PySem.W.mg_none_of X G z_len, n_list := PySem.W.mg_none_of X G z_list, n_max := PySem.W.mg_none_of X G z_max, n_min := PySem.W.mg_none_of X G z_min, n_range := PySem.W.mg_none_of X G z_range, n_repr := PySem.W.mg_none_of X G z_repr, n_str := PySem.W.mg_none_of X G z_str, n_tuple := PySem.W.mg_none_of X G z_tuple, g_MOST_LETTERS := ⟨_, PySem.W.mg_of X G y_MOST_LETTERS⟩ }⟩
  · intro p hp
    simp only [List.mem_cons, List.not_mem_nil, or_false] at hp
    subst hp
    exact tb _ _ _ r3 t3
  · intro p hp
    simp only [List.mem_cons, List.not_mem_nil, or_false] at hp
    subst hp
    exact n3
end K01
open PySem PySem.W PyProof.Rows
set_option maxRecDepth 100000 in
set_option maxHeartbeats 0 in
theorem PySem.Challenge.cw_wholelost_k01_whole_words_strewn_in_word_holds : PySem.Challenge.rw_wholelost_k01_whole_words_strewn_in_word.Holds := by
  w_on; o_law; k_head; (case hw => w_witness2)
  k_fill
  refine MG.walk_c (l := PySem.Challenge.rw_wholelost_k01_whole_words_strewn_in_word) (n := 63) (k := 12) (x := "script") rfl (by decide) rfl ⟨⟨rfl, by decide, by decide⟩, rfl⟩ (fun w h Y => PySem.W.kIn_of Y) ?F
  case F =>
    intro w mg fa h Y KX G hmg tb
    refine' K01.all_mk KX G hmg tb ?a0 ?l0 ?h0 ?k0 ?a1 ?l1 ?h1 ?k1 ?a2 ?l2 ?h2 ?k2 ?a3 ?l3 ?h3 ?k3 ?t3 ?r3 ?n3 ?a4 ?l4 ?h4 ?k4 ?a5 ?l5 ?h5 ?k5 ?a6 ?l6 ?h6 ?k6 ?a7 ?l7 ?h7 ?k7 ?a8 ?l8 ?h8 ?k8 ?a9 ?l9 ?h9 ?k9 ?a10 ?l10 ?h10 ?k10 ?a11 ?l11 ?h11 ?k11 ?a12 ?l12 ?h12 ?k12 ?a13 ?l13 ?h13 ?k13 ?a14 ?l14 ?h14 ?k14 ?a15 ?l15 ?h15 ?k15 ?a16 ?l16 ?h16 ?k16 ?a17 ?l17 ?h17 ?k17 ?a18 ?l18 ?h18 ?k18 ?z_abs ?z_all ?z_bool ?z_int ?z_isinstance ?z_len ?z_list ?z_max ?z_min ?z_range ?z_repr ?z_str ?z_tuple ?y_MOST_LETTERS
    (case a0 => k_is)
    (case l0 => k_is)
    (case h0 => k_is)
    (case k0 => k_is)
    (case a1 => k_is)
    (case l1 => k_is)
    (case h1 => k_is)
    (case k1 => k_is)
    (case a2 => k_is)
    (case l2 => k_is)
    (case h2 => k_is)
    (case k2 => k_is)
    (case a3 => k_is)
    (case l3 => k_is)
    (case h3 => k_is)
    (case k3 => k_is)
    (case t3 => first | k_is | decide +kernel | rfl)
    (case r3 => first | k_is | decide +kernel | rfl)
    (case n3 => first | k_is | decide +kernel | rfl)
    (case a4 => k_is)
    (case l4 => k_is)
    (case h4 => k_is)
    (case k4 => k_is)
    (case a5 => k_is)
    (case l5 => k_is)
    (case h5 => k_is)
    (case k5 => k_is)
    (case a6 => k_is)
    (case l6 => k_is)
    (case h6 => k_is)
    (case k6 => k_is)
    (case a7 => k_is)
    (case l7 => k_is)
    (case h7 => k_is)
    (case k7 => k_is)
    (case a8 => k_is)
    (case l8 => k_is)
    (case h8 => k_is)
    (case k8 => k_is)
    (case a9 => k_is)
    (case l9 => k_is)
    (case h9 => k_is)
    (case k9 => k_is)
    (case a10 => k_is)
    (case l10 => k_is)
    (case h10 => k_is)
    (case k10 => k_is)
    (case a11 => k_is)
    (case l11 => k_is)
    (case h11 => k_is)
    (case k11 => k_is)
    (case a12 => k_is)
    (case l12 => k_is)
    (case h12 => k_is)
    (case k12 => k_is)
    (case a13 => k_is)
    (case l13 => k_is)
    (case h13 => k_is)
    (case k13 => k_is)
    (case a14 => k_is)
    (case l14 => k_is)
    (case h14 => k_is)
    (case k14 => k_is)
    (case a15 => k_is)
    (case l15 => k_is)
    (case h15 => k_is)
    (case k15 => k_is)
    (case a16 => k_is)
    (case l16 => k_is)
    (case h16 => k_is)
    (case k16 => k_is)
    (case a17 => k_is)
    (case l17 => k_is)
    (case h17 => k_is)
    (case k17 => k_is)
    (case a18 => k_is)
    (case l18 => k_is)
    (case h18 => k_is)
    (case k18 => k_is)
    (case z_abs => k_is)
    (case z_all => k_is)
    (case z_bool => k_is)
    (case z_int => k_is)
    (case z_isinstance => k_is)
    (case z_len => k_is)
    (case z_list => k_is)
    (case z_max => k_is)
    (case z_min => k_is)
    (case z_range => k_is)
    (case z_repr => k_is)
    (case z_str => k_is)
    (case z_tuple => k_is)
    (case y_MOST_LETTERS => k_is)

