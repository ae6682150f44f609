import PyProof.Rows.All
import Wide.All
import OpenK.AllK
import Wide.FinOn
import HandS.ForMost
import HandS.AnyAll
import HandS.GenList
import HandS.TupSets
import KE.KDictKeyed
import HandS.TupAny
import HandS.HeadHook1
import HandS.Deep
import HandS.Style
import HandS.TupMul
import HandS.Text
import KE.LtData
import HandS.TupLe
import HandS.Dict
import HandS.More
import HandS.IsInst
import HandS.Flow
import HandS.Comp
import HandS.Zip
import HandS.Defaults
import HandS.HeadEnd
import HandS.HeadHook4
import HandS.SetFor
import KE.SortData
import KE.GoesEnum
import HandS.Iter
import KE.KDictList
import HandS.Conv
import HandS.DictComp
import KE.SortKeyHeap
import HandS.SortKw
import HandS.Keys
import HandS.Sort
import KE.KTupSum
import KE.KDictPairs
import KE.KDictWalk
import HandS.Strs
import HandS.Head0
import HandS.Head1
import HandS.Head2
import HandS.HeadHook2
import HandS.HeadHook3
import HandS.HeadWalk
import HandS.Small
import HandS.ExcOwn
import HandS.ExcInit
import HandS.Lambda
import HandS.ExcIs
import HandS.ExcField
import KE.KExcIs
import KE.KDflt
import KE.KDictDisplayH
import KE.KDictCopyH
import KE.DataCmp
import KE.DataMinMax
import KE.DataMinKey
import PyProof.DictTruth
import KE.KEqDict
import HandS.Records
import HandS.StrMore
import PyProof.StrBlock
import PySem.Challenge.RW_meltlibrary_k71_numbers_and_rows_refused
set_option Elab.async false
/-! ## GenX -/
section
set_option Elab.async false
set_option linter.all false
set_option maxRecDepth 100000
set_option maxHeartbeats 2500000
namespace Mg
open PySem PySem.Spec PyProof.Rows L2 GxR GenW
/-- the around of a generator expression that all or any (walked at A) wakes -/
abbrev gAr (A : Around) (e : Expr) (I : Addr) (env : Env) : Around := A.in1.in1.over (.compLoop e 0 (.ref I) .none env) []
/-- the context of a generator expression's frame -/
abbrev gblk (X : Cx) (Ag : Around) (s : Shared) (H : Hp) (ge : Env) (fp : List Addr) (pn : List (Addr × Obj)) : Cx :=
  { X with A := Ag, s_0 := s, H_0 := H, env := ge, outer := X.stack, stack := ge :: X.stack, ex := fp, fn := fun _ => false, pn := pn, xe := fun _ _ => False }
/-- a generator expression's names: none is a cell; ".0" is its own -/
structure GBlk (N : List Str) (sc scope : Scope) (own : List (Str × Nat)) : Prop where
  blk : BlkOk N sc scope own
  nocell : ∀ y ∈ scope.names, y.2 ≠ .cell
  co : scope.isCoroutine = false ∧ scope.names.lookup (".0" : Str) = some NameKind.local
section
variable {X : Cx} {pins : List (Addr × Obj)} {σ : L2.St} {H : Hp} {s : Shared} {scope : Scope} {own : List (Str × Nat)} {y : Str} {c : Addr}
/-- .. and the generator sees the same cell -/
theorem g_cell (I : Inv X pins σ H s) (S : GBlk X.N X.env.scope scope own) (h : (cloFrom X.env.cells scope.names []).lookup y = some c) : X.env.cells.lookup y = some c := by
  have h1 := (cloFrom_mem (PySem.mem_of_lookup h)).resolve_left (by simp)
  obtain ⟨d, hd⟩ : ∃ d, X.env.cells.lookup y = some d := I.ok.has y (S.blk.free (y, .free) h1.1 rfl)
  rw [h1.2, hd]
  rfl
theorem g_sees (I : Inv X pins σ H s) (S : GBlk X.N X.env.scope scope own) (h : scope.names.lookup y = some .free) : ∃ c, (cloFrom X.env.cells scope.names []).lookup y = some c ∧ X.env.cells.lookup y = some c :=
  (mem_lookup (cloFrom_has (acc := []) (PySem.mem_of_lookup h))).elim fun c e => ⟨c, e, g_cell I S e⟩
/-- a slot of the def that the generator may read holds a free name -/
theorem g_free {i : Nat} {av : V} (S : GBlk X.N X.env.scope scope own) (hN : X.N.Nodup) (hi : X.N[i]? = some y) (hw : (wipe σ (own.map (·.2)))[i]? = some (some av)) (hv : Vis scope y) : scope.names.lookup y = some .free := by
  have mine : ¬ scope.names.lookup y = some .local := fun h => by
    cases S.blk.own (y, .local) (PySem.mem_of_lookup h) (.inl rfl) with
    | inr q => exact q (List.mem_of_getElem? hi)
    | inl q =>
      obtain ⟨⟨z, j⟩, hp, rfl⟩ := List.mem_map.mp q
      have hj : i = j := nodup_ix hN hi (S.blk.ix _ hp)
      exact (wipe_some hw).2 (hj ▸ List.mem_map_of_mem (f := (·.2)) hp)
  exact (hv.resolve_left mine).resolve_left fun h => S.nocell _ (PySem.mem_of_lookup h) rfl
theorem g_seen (S : GBlk X.N X.env.scope scope own) (h : scope.names.lookup y = some .free) : Vis X.env.scope y := .inr (S.blk.free (y, .free) (PySem.mem_of_lookup h) rfl)
theorem gblock_start {fp : List Addr} {Ag : Around} {code : Value} {h' : Heap} {go : Obj} {nm qn it : Value} {tk : Nat} {gs : GenState} (I : Inv X pins σ H s) (ok : GBlk X.N X.env.scope scope own) (hN : X.N.Nodup)
    (hfp : ∀ b ∈ fp, FpOk X pins H b ∧ b < s.heap.objs.size) (hfr : Ag.frames = some (genEnv scope (cloFrom X.env.cells scope.names []) s.heap.objs.size code builtinsNs X.env :: X.stack)) (hhd : X.calm = true → Ag.handled = none)
    (hns : h'.Ns s.heap.objs.size (fun y => if y = ".0" then some it else none)) (hsb : Heap.SameBut s.heap.objs.size (s.heap.push { cls := .type "frame", data := .dict #[] }) h')
    (hgd : go.data = .fields #[.int s.gens.size 0, nm, qn]) (hb : gs.bare = true) (hgp : ∀ h : Heap, (h.push go).get? h.objs.size = some go) :
    Inv (gblk X Ag s H (genEnv scope (cloFrom X.env.cells scope.names []) s.heap.objs.size code builtinsNs X.env) fp [(h'.objs.size, go)]) [] (wipe σ (own.map (·.2))) H { s with gens := s.gens.push gs, toks := tk, heap := h'.push go } := by
  let n0 := s.heap.objs.size
  have hn : h'.objs.size = n0 + 1 := hsb.1.trans (Heap.size_push ..)
  -- all that was stands as before
  have kept : ∀ b o, s.heap.get? b = some o → (h'.push go).get? b = some o := fun b o e =>
    Heap.get?_push_of_some _ (hsb.extBut b o (Nat.ne_of_lt (Heap.lt_size e)) (Heap.get?_push_of_some _ e))
  have frame : ∀ b ∈ frs X.stack, b = X.env.locals ∨ b ∈ X.fs := fun b h => List.mem_cons.mp (I.stkSub b h)
  have ours : ∀ y c, (cloFrom X.env.cells scope.names []).lookup y = some c → X.env.cells.lookup y = some c := fun y c e => g_cell I ok e
  refine {
    ok := {
      mod := I.ok.mod, kind := ok.blk.kind, glob := I.ok.glob, blt := rfl, above := Nat.le_refl _, hd := hhd, frames := hfr, stk := .inr ⟨rfl, rfl⟩, bs := I.bs, bsz := Nat.le_trans I.ok.bsz I.sz, funs := I.stack, frf := I.stkFree
      inj := fun x z c e1 e2 => I.ok.inj x z c (ours x c e1) (ours z c e2)
      has := fun x h => ?has
      cab := fun _ _ z => nomatch z
      exf := fun b h => ⟨Nat.ne_of_lt (hfp b h).2, fun x c e => (hfp b h).1.2.2.2.2.1 x c (ours x c e)⟩
      noex := fun b o e h => ?noex
      exfs := fun b h z => (frame b z).elim (hfp b h).1.2.1 (hfp b h).1.2.2.1 }
    os := rfl
    bare := I.bare.push hb
    base := Un.kept kept
    loc := ⟨_, hns.push _, fun i y av hi hw hv => ?loc⟩
    cell := fun y c e => (I.cell y c (ours y c e)).elim fun w z => ⟨w, z.keeps kept⟩
    free := I.hok.fresh (Nat.le_refl _)
    freeC := fun y c e => I.freeC y c (ours y c e)
    pin := fun p h => ?pin
    hok := I.hok.kept kept
    len := (wipe_length σ _).trans I.len }
  case has =>
    have h : scope.names.lookup x = some .cell ∨ scope.names.lookup x = some .free := h
    have hf := h.resolve_left fun z => ok.nocell _ (PySem.mem_of_lookup z) rfl
    obtain ⟨c, hc, _⟩ := g_sees I ok hf
    exact ⟨c, hc⟩
  case noex =>
    have old := (hfp b h).1.2.2.2.1
    by_cases z : b ∈ X.ex
    · exact I.ok.noex b o e z
    · exact absurd (Nat.lt_of_lt_of_le (Heap.lt_size e) (Nat.le_trans I.ok.bsz (old.resolve_left z))) (Nat.lt_irrefl b)
  case loc =>
    have hf := g_free ok hN hi hw hv
    obtain ⟨m, _, look⟩ := I.loc
    obtain ⟨w, r, q⟩ := look i y av hi (wipe_some hw).1 (g_seen ok hf)
    obtain ⟨c, e1, e2⟩ := g_sees I ok hf
    refine ⟨w, r, .inr ⟨.inr hf, c, e1, ?_⟩⟩
    match q with
    | .inl ⟨k, _⟩ =>
      have k : X.env.scope.names.lookup y = some .local := k
      have two := ok.blk.free (y, .free) (PySem.mem_of_lookup hf) rfl
      simp only [k] at two
      exact absurd two (by simp)
    | .inr ⟨_, d, e3, z⟩ =>
      obtain rfl : c = d := Option.some.inj (e2.symm.trans e3)
      exact z.keeps kept
  case pin =>
    obtain rfl : p = (h'.objs.size, go) := List.mem_singleton.mp (by simpa using h)
    have up : n0 ≤ h'.objs.size := by omega
    refine ⟨hgp h', I.hok.fresh up, fun z => ?_, fun z => ?_, fun v q => by simp only [hgd] at q; cases q⟩
    · exact absurd (hn.symm.trans z) (Nat.succ_ne_self n0)
    · refine (frame _ z).elim (fun z => ?_) (I.nofs up)
      have hl : X.env.locals < n0 := I.lt
      exact absurd (Nat.lt_of_lt_of_le hl (z ▸ up)) (Nat.lt_irrefl _)
end
def gR (PT : Shared → Prop) : GenEnd := fun _ _ r s1 => r = .ok .next ∧ PT s1
def gY (go : Bool) (Kp PF : Shared → Prop) : Protocol := fun _ _ v s1 kap => ∃ b, v = .bool b ∧ Kp s1 ∧ if b = go then (∀ s2 : Shared, s2.heap = s1.heap → s2.os = s1.os → AllBare s2.gens → kap (.send .none) s2) else PF s1
/-- one run of the generator's loop -/
theorem seg_gx {Xg : Cx} {A2 : Around} {elt tg iter : Expr} {scope : Scope} {pos : Pos} {it : Addr} {fp : List Addr} {tn : Nat → Heap → Prop} {J : It} {g : TG} {te : TE} {vs : List Nat} {sw : L2.St} {go : Bool} {QT QF : Hp → Prop} {W : Nat → Nat → Hp → Prop}
    (hc : Xg.calm = true) (hA : A2.over (.compLoop (.GeneratorExp elt [⟨tg, iter, [], 0⟩] scope pos) 0 (.ref it) .none Xg.env) [] = Xg.A) (hco : Xg.env.scope.isCoroutine = false) (T : Turn Xg.prog Xg.w Xg.K tg J fp it tn)
    (hxe : ∀ e s, ¬ Xg.xe e s) (hex : Xg.ex = fp) (hpn : ∀ b ∈ fp, ∀ p ∈ Xg.pn, p.1 ≠ b) (pg : PG Xg tg g) (pe : PE Xg elt te) (hsw : wipe sw vs = sw)
    (turn : ∀ i m H, W i m H → (J.stop i H ∧ QT H) ∨ (J.go i H ∧ ∃ Nx : Hp → Prop, (∀ H', Nx H' → ∃ m', m' < m ∧ W (i + 1) m' H') ∧ ∀ x H', J.yld i H x H' → g x sw H' fun σ2 H2 => wipe σ2 vs = sw ∧ te σ2 H2 fun y H3 => ∃ b, y = .bl b ∧ if b = go then Nx H3 else QF H3)) :
    ∀ (m n i : Nat) (s₀ s : Shared) (H : Hp), m < n → Inv Xg [] sw H s → tn i s.heap → (∀ b ∈ fp, H b = none) → W i m H →
      Seg (model Xg.prog Xg.w) A2 (gR fun s1 => ∃ H, Inv Xg [] sw H s1 ∧ QT H) (gY go (fun s1 => ∃ H, Inv Xg [] sw H s1) fun s1 => ∃ H, Inv Xg [] sw H s1 ∧ QF H) n s₀
        (.compLoop (.GeneratorExp elt [⟨tg, iter, [], 0⟩] scope pos) 0 (.ref it) .none Xg.env)
        ((model Xg.prog Xg.w).den (.compLoop (.GeneratorExp elt [⟨tg, iter, [], 0⟩] scope pos) 0 (.ref it) .none Xg.env)) [] s := by
  have stat : ∀ {σ' : L2.St} {H' : Hp} {s' : Shared}, Inv Xg [] σ' H' s' → (∀ b ∈ fp, H' b = none) → ∀ b ∈ fp, FpOk Xg [] H' b := fun {σ' H' s'} I' hn b hb => by
    have hb' : b ∈ Xg.ex := by rw [hex]; exact hb
    refine ⟨hn b hb, (I'.ok.exf b hb').1, I'.ok.exfs b hb', .inl hb', fun x c e => (I'.ok.exf b hb').2 x c e, fun p hp => hpn b hb p ?_⟩
    simpa using hp
  intro m
  induction m using Nat.strongRecOn with | ind m ih =>
    intro n i s₀ s H hmn I st nf w
    show Seg _ A2 _ _ n s₀ _ ((compTurn (.GeneratorExp elt [⟨tg, iter, [], 0⟩] scope pos) 0 (.ref it) .none Xg.env).onRaise (leaving Xg.env)) [] s
    rw [compTurn_gen, Sem.onRaise_eq_wrap]; refine seg_bind_wrap (wpAny_standAt (seg_bind_wrap ?_)); rw [hA]
    rcases turn i m H w with ⟨stop, qt⟩ | ⟨hgo, Nx, hNx, step⟩
    · refine wpAny_mono (T.done Xg rfl rfl rfl hc i [] s sw H (fun _ _ => False) I (stat I nf) st stop) (fun r s1 ⟨hr, I1⟩ => ?_) fun _ _ z => z.elim
      subst hr
      exact seg_end (.ok .next) ⟨rfl, H, I1, qt⟩
    · refine wpAny_mono (T.item Xg rfl rfl rfl hc i [] s sw H (fun _ _ => False) I (stat I nf) st hgo) (fun r s1 ⟨u, hr, h1⟩ => ?_) fun _ _ z => z.elim
      subst hr
      refine seg_bind_wrap ?_
      rw [hA]
      refine wpAny_mono h1 (fun _ s2 ⟨x, H2, I2, r2, y2, st2, n2⟩ => ?_) fun _ _ z => z.elim
      have I2' := I2.pinned (stat I2 n2) (T.obj _ _ st2)
      refine seg_bind_wrap ?_
      rw [hA]
      refine wpAny_mono (pg.run _ s2 sw H2 x u _ I2' r2 (step x H2 y2)) (fun _ s3 ⟨σ3, H3, I3, hw3, q3⟩ => ?_) fun e s' z => (hxe e s' z).elim
      dsimp only
      rw [List.forIn_nil]
      refine seg_bind_wrap (wpAny_pure ?_)
      simp only [if_true]
      have hy : ∀ v, yieldOut Xg.env v = yieldValue v := fun v => by simp only [yieldOut, hco, Bool.false_eq_true, if_false]
      simp only [hy]
      simp only [Sem.bind_eq_wrap', Sem.wrap_wrap]; refine seg_wrap ?_; rw [hA]
      refine wpAny_mono (pe.run _ s3 σ3 H3 _ I3 q3) (fun u4 s4 ⟨y4, H4, I4, r4, b, e4, q4⟩ => ?_) fun e s' z => (hxe e s' z).elim
      subst e4
      have e5 : u4 = Value.bool b := r4
      subst e5
      obtain ⟨n, rfl⟩ : ∃ k, n = k + 1 := ⟨n - 1, by omega⟩
      have pin' : ∀ b ∈ fp, ∀ o, s2.heap.get? b = some o → s4.heap.get? b = some o ∧ H4 b = none := fun b hb o e =>
        let z := I4.pin (b, o) (List.mem_append_right _ (List.mem_append_right _ (mem_pinsAt hb e)))
        ⟨z.1, z.2.1⟩
      have hl : sw.length = σ3.length := by rw [← hw3, wipe_length]
      have I5 : Inv Xg [] sw H4 s4 := (I4.unpinned (pins := [])).weak hl (fun j v e => by
        rw [← hw3] at e
        exact (wipe_some e).1)
      have st5 : tn (i + 1) s4.heap := T.keep _ _ _ st2 fun b hb o e => (pin' b hb o e).1
      have n5 : ∀ b ∈ fp, H4 b = none := fun b hb => (T.obj _ _ st2 b hb).elim fun o q => (pin' b hb o q.1).2
      refine seg_at (seg_yield rfl rfl rfl ⟨b, rfl, ⟨H4, I5⟩, ?_⟩)
      by_cases hb : b = go
      · rw [if_pos hb] at q4 ⊢
        intro s6 eh eo hba
        obtain ⟨m', hm', w'⟩ := hNx _ q4
        refine seg_again rfl (ih m' hm' n (i + 1) s6 s6 H4 (by omega) ?_ (by rw [eh]; exact st5) n5 w')
        obtain ⟨h6, g6, d6, t6, o6⟩ := s6
        have eh : h6 = s4.heap := eh
        have eo : o6 = s4.os := eo
        subst eh eo
        exact I5.step (g' := g6) (t' := t6) (d' := d6) (ch := []) (fun b hb => absurd hb (by simp)) (fun b o _ _ _ e _ => e) (fun b o _ _ _ e _ => ⟨o.slots, e⟩) (fun b o _ _ e => e) (fun b o _ e => ⟨o, e⟩) (fun _ _ e => e) (fun _ _ _ e => e)
          (fun b ps e => ⟨#[], by rw [e]; simp⟩) (fun _ e => e) I5.hok hba
      · rw [if_neg hb] at q4 ⊢
        exact ⟨H4, I5, q4⟩
/-- .. from its beginning -/
theorem seg_gx0 {Xg : Cx} {A2 : Around} {elt tg iter : Expr} {scope : Scope} {pos : Pos} {it : Addr} {fp : List Addr} {tn : Nat → Heap → Prop} {J : It} {R : GenEnd} {Y : Protocol} {n : Nat} {s₀ s : Shared}
    (T : Turn Xg.prog Xg.w Xg.K tg J fp it tn) (st : tn 0 s.heap)
    (loop : Seg (model Xg.prog Xg.w) A2 R Y n s₀ (.compLoop (.GeneratorExp elt [⟨tg, iter, [], 0⟩] scope pos) 0 (.ref it) .none Xg.env) ((model Xg.prog Xg.w).den (.compLoop (.GeneratorExp elt [⟨tg, iter, [], 0⟩] scope pos) 0 (.ref it) .none Xg.env)) [] s) :
    Seg (model Xg.prog Xg.w) A2 R Y n s₀ (.compStart (.GeneratorExp elt [⟨tg, iter, [], 0⟩] scope pos) 0 (.ref it) .none Xg.env) ((model Xg.prog Xg.w).den (.compStart (.GeneratorExp elt [⟨tg, iter, [], 0⟩] scope pos) 0 (.ref it) .none Xg.env)) [] s := by
  show Seg _ A2 _ _ _ s₀ _ ((compStart (.GeneratorExp elt [⟨tg, iter, [], 0⟩] scope pos) 0 (.ref it) .none Xg.env).onRaise (leaving Xg.env)) [] s
  unfold compStart
  rw [Sem.onRaise_eq_wrap]
  show Seg _ A2 _ _ _ s₀ _ ((ask >>= _).wrap _ _ _ _) [] s
  refine seg_bind_wrap (wpAny_askSetting ?_); split
  · exact seg_again rfl loop
  · first
      | exact seg_bind_wrap (wpAny_rule (seg_bind_wrap (wpAny_standAt (seg_bind_wrap (T.self _ 0 s _ _ st (seg_again rfl loop))))))
      | (refine seg_bind_wrap (wpAny_rule ?_); show Seg _ A2 _ _ _ s₀ _ ((standAt iter.pos >>= _).wrap _ _ _ _) [] s; exact seg_bind_wrap (wpAny_standAt (seg_bind_wrap (T.self _ 0 s _ _ st (seg_again rfl loop)))))
section
variable {P : Program} {w : World} {A : Around} {Rr : Result → Shared → Prop} {a : Addr} {g : Nat} {PT PF Kp : Shared → Prop}
/-- all, any over a generator at a -/
theorem quant_step {go : Bool} {n : Nat} {gs : GenState} {s : Shared} {Q : Option Value → Shared → Prop} {E : Value → Shared → Prop} (hh : A.handled = none) (hroom : A.depth < recursionLimit)
    (hKp : ∀ s, Kp s → s.heap.IsGen a g ∧ s.heap.NoLimit ∧ AllBare s.gens) (hTb : ∀ s, PT s → AllBare s.gens)
    (hg : s.heap.IsGen a g) (hl : s.heap.NoLimit) (hgs : s.gens[g]? = some gs)
    (hgo : gs.Goes (model P w) A.in1 (gR PT) (gY go Kp PF) n (.send .none) (s.setGen g .running))
    (hT : ∀ s1, PT s1 → ∀ s', (∀ b o, s1.heap.get? b = some o → s'.heap.get? b = some o) → s'.os = s1.os → AllBare s'.gens → Q none s')
    (hF : ∀ s1, PF s1 → ∀ s', s'.heap = s1.heap → s'.os = s1.os → AllBare s'.gens → Q (some (.bool (!go))) s')
    (hN : ∀ s' gs' m, n = m + 1 → s'.heap.IsGen a g → s'.heap.NoLimit → s'.gens[g]? = some gs' → gs'.Goes (model P w) A.in1 (gR PT) (gY go Kp PF) m (.send .none) (s'.setGen g .running) → Q (some (.bool go)) s') :
    wpAny (model P w) A (pyNext (.ref a)) Q E s := by
  have hlt : g < s.gens.size := (Array.getElem?_eq_some_iff.mp hgs).1
  refine wpAny_gsz (n := g + 1) hlt ?_
  refine wpAny_pyNext_genexpQ (P := fun _ _ s1 => PT s1) hh hl hroom hg hgs hgo (fun v s1 gs' hb hv => ?_) (fun s1 hp h' hk => ?_)
  · obtain ⟨b, rfl, hk, hbr⟩ := hv
    obtain ⟨k1, k2, k3⟩ := hKp s1 hk
    intro hsz
    rw [setGen_size] at hsz
    by_cases hbg : b = go
    · rw [if_pos hbg] at hbr
      subst hbg
      cases n with
      | zero => exact (hbr s1 rfl rfl k3).elim
      | succ m =>
        refine hN _ gs' m rfl k1 k2 (setGen_at hsz) ?_
        exact hbr _ rfl rfl (allBare_setGen (allBare_setGen k3 hb) rfl)
    · rw [if_neg hbg] at hbr
      have eb : b = !go := by cases b <;> cases go <;> simp_all
      subst eb
      exact hF s1 hbr _ rfl rfl (allBare_setGen k3 hb)
  · intro _
    exact hT s1 hp _ hk rfl (allBare_setGen (s := s1) (hTb s1 hp) rfl)
theorem all_loop (hh : A.handled = none) (hroom : A.in1.depth < recursionLimit)
    (hKp : ∀ s, Kp s → s.heap.IsGen a g ∧ s.heap.NoLimit ∧ AllBare s.gens) (hTb : ∀ s, PT s → AllBare s.gens)
    (hT : ∀ s1, PT s1 → ∀ s', (∀ b o, s1.heap.get? b = some o → s'.heap.get? b = some o) → s'.os = s1.os → AllBare s'.gens → Rr (.ok (.ret (.bool true))) s')
    (hF : ∀ s1, PF s1 → ∀ s', s'.heap = s1.heap → s'.os = s1.os → AllBare s'.gens → Rr (.ok (.ret (.bool false))) s') :
    ∀ (n : Nat) (gs : GenState) (s : Shared), s.heap.IsGen a g → s.heap.NoLimit → s.gens[g]? = some gs → gs.Goes (model P w) A.in1.in1 (gR PT) (gY true Kp PF) n (.send .none) (s.setGen g .running) →
      codeAny (model P w) A (.builtin "all.loop" ⟨[.ref a], []⟩) Rr s := by
  intro n
  induction n with
  | zero =>
    intro gs s hg hl hgs hgo
    refine codeAny_builtin F.entry_all_loop ((Around.under_plainId F.plain_all_loop _).symm ▸ ?_)
    refine wpAny_bind (quant_step (A := A.in1) hh hroom hKp hTb hg hl hgs hgo (fun s1 h1 s' k o b => ?_) (fun s1 h1 s' k o b => ?_) (fun s' gs' m e => by cases e))
    · exact wpAny_bind (wpAny_rule (wpAny_pure (hT s1 h1 s' k o b)))
    · refine wpAny_bind (wpAny_holding (wpAny_truthy_bool (wpAny_bind (wpAny_letGo ?_))))
      exact wpAny_bind (wpAny_rule (wpAny_pure (hF s1 h1 s' k o b)))
  | succ n ih =>
    intro gs s hg hl hgs hgo
    refine codeAny_builtin F.entry_all_loop ((Around.under_plainId F.plain_all_loop _).symm ▸ ?_)
    refine wpAny_bind (quant_step (A := A.in1) hh hroom hKp hTb hg hl hgs hgo (fun s1 h1 s' k o b => ?_) (fun s1 h1 s' k o b => ?_) (fun s' gs' m e g1 l1 q1 go1 => ?_))
    · exact wpAny_bind (wpAny_rule (wpAny_pure (hT s1 h1 s' k o b)))
    · refine wpAny_bind (wpAny_holding (wpAny_truthy_bool (wpAny_bind (wpAny_letGo ?_))))
      exact wpAny_bind (wpAny_rule (wpAny_pure (hF s1 h1 s' k o b)))
    · cases e
      refine wpAny_bind (wpAny_holding (wpAny_truthy_bool (wpAny_bind (wpAny_letGo ?_))))
      simp only [if_true]
      exact wpAny_pure ⟨plainId_quiet F.plain_all_loop _, ih gs' s' g1 l1 q1 go1⟩
end
theorem gAr_frames {A : Around} {elt tg iter : Expr} {scope : Scope} {pos : Pos} {it : Addr} {ge : Env} {l : List Env} (h : A.frames = some l) : (gAr A (.GeneratorExp elt [⟨tg, iter, [], 0⟩] scope pos) it ge).frames = some (ge :: l) := by
  show pushEnvs [ge] (pushEnvs [] A.in1.in1.frames) = some (ge :: l)
  have e : A.in1.in1.frames = some l := h
  rw [e]; rfl
theorem gAr_room {A : Around} {elt tg iter : Expr} {scope : Scope} {pos : Pos} {it : Addr} {ge : Env} {k : Nat} (h : Room (k + 1) A) : Room k (gAr A (.GeneratorExp elt [⟨tg, iter, [], 0⟩] scope pos) it ge) := by
  refine ⟨h.hd, ?_, ?_⟩
  · have := h.dp
    show A.depth + 0 + 1 + 3 * k + 5 < _
    omega
  · have := h.un
    show A.units + 1 + 1 + 0 + 3 + 16 * k + 200 < _
    omega
/-- what a generator expression's reading asks: its items one by one, each a test -/
def tGen (P : Addr) (go : Bool) (wi : TI) (g : TG) (te : TE) (vs : List Nat) : TE := fun σ H Q => wi σ H fun J H1 => TabG H1 P ∧ ∀ H2, Tabbed P H1 H2 → ∃ W : Nat → Nat → Hp → Prop, (∃ m, W 0 m H2) ∧ ∀ i m H, W i m H →
  (J.stop i H ∧ Q (.bl go) H) ∨ (J.go i H ∧ ∃ Nx : Hp → Prop, (∀ H', Nx H' → ∃ m', m' < m ∧ W (i + 1) m' H') ∧ ∀ x H', J.yld i H x H' → g x (wipe σ vs) H' fun σ2 H2 => wipe σ2 vs = wipe σ vs ∧ te σ2 H2 fun y H3 => ∃ b, y = .bl b ∧ if b = go then Nx H3 else Q (.bl (!go)) H3)
theorem wipe_wipe (σ : L2.St) (vs : List Nat) : wipe (wipe σ vs) vs = wipe σ vs := by
  apply List.ext_getElem?
  intro i
  have key : ∀ (us : List Nat) (τ : L2.St), (∀ v ∈ us, τ[v]? = some none ∨ τ[v]? = none) → wipe τ us = τ := by
    intro us
    induction us with
    | nil => intro τ _; rfl
    | cons v us ih =>
      intro τ h
      show (wipe τ us).set v none = τ
      rw [ih τ fun u hu => h u (List.mem_cons_of_mem _ hu)]
      apply List.ext_getElem?
      intro j
      rcases h v List.mem_cons_self with e | e
      · by_cases hj : v = j
        · subst hj
          have hlt : v < τ.length := (List.getElem?_eq_some_iff.mp e).1
          rw [List.getElem?_set_self hlt, e]
        · rw [List.getElem?_set_ne hj]
      · by_cases hj : v = j
        · subst hj
          have hlt : τ.length ≤ v := List.getElem?_eq_none_iff.mp e
          rw [List.getElem?_eq_none (by rw [List.length_set]; exact hlt), e]
        · rw [List.getElem?_set_ne hj]
  have all : ∀ (us : List Nat) (τ : L2.St), ∀ v ∈ us, (wipe τ us)[v]? = some none ∨ (wipe τ us)[v]? = none := by
    intro us
    induction us with
    | nil => intro τ v hv; cases hv
    | cons u us ih =>
      intro τ v hv
      show ((wipe τ us).set u none)[v]? = _ ∨ ((wipe τ us).set u none)[v]? = _
      by_cases hu : u = v
      · subst hu
        by_cases hlt : u < (wipe τ us).length
        · rw [List.getElem?_set_self hlt]; exact .inl rfl
        · exact .inr (List.getElem?_eq_none (by rw [List.length_set]; omega))
      · rw [List.getElem?_set_ne hu]
        exact (List.mem_cons.mp hv).elim (fun e => absurd e.symm hu) (ih τ v)
  rw [key vs (wipe σ vs) (all vs σ)]
section
variable {X : Cx}
/-- the code of a generator expression, found in the def's table or laid there: then the table is longer -/
theorem gen_code {prog : Program} {w : World} {A : Around} {E : Value → Shared → Prop} {env : Env} {c P : Addr} {ps : Array Value} {pos : Pos} {qn : Str} {scope : Scope} {s : Shared} {Q : Value → Shared → Prop}
    (hc : env.code = .ref c) (cd : PySem.W.CodeHd s.heap c P) (hP : s.heap.get? P = some { cls := .none, data := .fields ps }) (ht : TriplesOk ps.toList)
    (k : ∀ (code : Value) (h3 : Heap) (tk : Nat) (more : Array Value), Heap.ExtBut P s.heap h3 → s.heap.objs.size ≤ h3.objs.size → h3.get? P = some { cls := .none, data := .fields (ps ++ more) } → TriplesOk (ps ++ more).toList → Q code { s with heap := h3, toks := tk }) :
    wpAny (model prog w) A (genexprCode env pos qn scope) Q E s := by
  by_cases hf : ∃ v, codeAmong pos ps.toList = some v
  · obtain ⟨v, hv⟩ := hf
    exact wpAny_genexprCode_hit hc (cd.code hP ht) hv (k v s.heap s.toks #[] (.refl _ _) (Nat.le_refl _) (by rw [Array.append_empty]; exact hP) (by rw [Array.append_empty]; exact ht))
  · refine wpAny_genexprCodeX hc (cd.code hP ht) (cd.tab hP) (Option.eq_none_iff_forall_ne_some.mpr fun v e => hf ⟨v, e⟩) fun c' h' tk hx lo hi whole _ tab _ => ?_
    have good : TriplesOk (ps ++ #[rawInt pos.line, rawInt pos.col, .ref c']).toList := whole.elim fun _ q => by
      obtain ⟨_, _, _, _, _, _, _, _, _, _, _, _, _, _, _, _, _, _, q, _⟩ := q
      exact q
    exact k (.ref c') h' tk _ hx (Nat.le_of_lt (Nat.lt_of_le_of_lt lo hi)) tab.2 good
theorem gen_x {go : Bool} {c P : Addr} {elt tg iter : Expr} {gpos : Pos} {scope : Scope} {own : List (Str × Nat)} {wi : TI} {g : TG} {te : TE} {k : Nat} {Q' : Value → Shared → Prop} {Q : VK} {pins : List (Addr × Obj)} {σ : L2.St} {H : Hp} {s : Shared}
    (hr : Room (k + 1) X.A) (hc : X.calm = true) (hN : X.N.Nodup) (TB : TabB X.base X.mg c P) (hcode : X.env.code = .ref c) (S : GBlk X.N X.env.scope scope own) (hi : PI X tg iter wi)
    (hg : ∀ (Ag : Around) (s : Shared) (H : Hp) (ge : Env) (fp : List Addr) (pn : List (Addr × Obj)), ge.scope = scope → Room k Ag → PG (gblk X Ag s H ge fp pn) tg g)
    (he : ∀ (Ag : Around) (s : Shared) (H : Hp) (ge : Env) (fp : List Addr) (pn : List (Addr × Obj)), ge.scope = scope → Room k Ag → PE (gblk X Ag s H ge fp pn) elt te)
    (hs : ∀ v, genFold iter X.env v = pure v) (I : Inv X pins σ H s) (h : tGen P go wi g te (own.map (·.2)) σ H Q)
    (hQ : ∀ (a : Addr) (gi n : Nat) (gs : GenState) (s5 : Shared) (PT PF Kp : Shared → Prop), (∀ s, Kp s → s.heap.IsGen a gi ∧ s.heap.NoLimit ∧ AllBare s.gens) → (∀ s, PT s → AllBare s.gens) →
      (∀ s1, PT s1 → ∀ s', (∀ b o, s1.heap.get? b = some o → s'.heap.get? b = some o) → s'.os = s1.os → AllBare s'.gens → ∃ H', Inv X pins σ H' s' ∧ Q (.bl go) H') →
      (∀ s1, PF s1 → ∀ s', s'.heap = s1.heap → s'.os = s1.os → AllBare s'.gens → ∃ H', Inv X pins σ H' s' ∧ Q (.bl (!go)) H') →
      s5.heap.IsGen a gi → s5.heap.NoLimit → s5.gens[gi]? = some gs → gs.Goes (model X.prog X.w) X.A.in1.in1 (gR PT) (gY go Kp PF) n (.send .none) (s5.setGen gi .running) → Q' (.ref a) s5) :
    wpAny (model X.prog X.w) X.A (eval (.GeneratorExp elt [⟨tg, iter, [], 0⟩] scope gpos) X.env) Q' X.xe s := by
  refine wpAny_GeneratorExp_make S.co.1 (closure_ok fun y hy e => I.ok.has y.1 (S.blk.free y hy e)) S.nocell S.co.2 S.blk.kind (by have := hr.dp; omega) ?_ hs
  refine thn (hi.run pins s σ H _ I h) fun xv s1 h1 => thn h1 fun itv s2 h2 => ?_
  obtain ⟨it, fp, tn, J, H1, rfl, I2, T, st2, f2, ⟨ps, hP, ht⟩, q⟩ := h2
  refine ⟨I2.nolimit, ?_⟩
  have hPs : s2.heap.get? P = some { cls := .none, data := .fields ps } := I2.hok P _ hP
  have nP : ∀ b ∈ fp, b ≠ P := fun b hb z => by
    have := (f2 b hb).1
    rw [z, hP] at this
    cases this
  refine gen_code hcode (TB.code.keeps fun b u e => I2.bk b u e) hPs ht fun code h3 tk more hx hsz hP3 ht3 => ?_
  obtain ⟨_, _, b1, b2, b3, b4, b5, b6, b7, b8⟩ := TB.bm
  refine wpAny_builtinsFor (m := X.mg) (by rw [I2.ok.glob]; exact (I2.mod.glob.keeps I2.bk).extBut hx TB.gP) b1 b2 (hx _ _ b4 (I2.bk _ _ b5)) b6 b7 b8 ?_
  have I4 : Inv X pins σ (upd H1 P (.tbl (ps ++ more))) { s2 with heap := h3, toks := tk } :=
    inv_tab (more := more) (h' := h3) (g' := s2.gens) (d' := s2.drawn) (t' := tk) I2 hP hx hP3 I2.bare
  have hTab : Tabbed P H1 (upd H1 P (.tbl (ps ++ more))) := ⟨⟨ps ++ more, upd_same, ht3⟩, fun b hb => upd_ne hb⟩
  obtain ⟨W, ⟨m0, w0⟩, turn⟩ := q _ hTab
  generalize hH4 : upd H1 P (.tbl (ps ++ more)) = H4 at I4 w0
  have n4 : ∀ b ∈ fp, H4 b = none := fun b hb => by rw [← hH4, upd_ne (nP b hb)]; exact (f2 b hb).1
  have st4 : tn 0 h3 := T.keep _ _ _ st2 fun b hb o e => hx b o (nP b hb) e
  generalize hs4 : ({ s2 with heap := h3, toks := tk } : Shared) = s4 at I4 ⊢
  have es4 : s4.heap = h3 := by rw [← hs4]
  intro h' hns hsb
  have f4 : ∀ b ∈ fp, FpOk X pins H4 b ∧ b < s4.heap.objs.size := fun b hb => by
    exact ⟨⟨n4 b hb, (f2 b hb).2⟩, (T.obj _ _ st2 b hb).elim fun o q => es4 ▸ Heap.lt_size (hx b o (nP b hb) q.1)⟩
  generalize hge : genEnv scope (cloFrom X.env.cells scope.names []) s4.heap.objs.size code builtinsNs X.env = ge
  have hgs : ge.scope = scope := by rw [← hge]; rfl
  generalize hgo : ({ cls := .type "generator", data := .fields #[.int s4.gens.size 0, .str "<genexpr>" (s4.toks + 1), .str (X.env.qual ++ "<genexpr>") (s4.toks + 1 + 1)] } : Obj) = gob
  have hgd : gob.data = .fields #[.int s4.gens.size 0, .str "<genexpr>" (s4.toks + 1), .str (X.env.qual ++ "<genexpr>") (s4.toks + 1 + 1)] := by rw [← hgo]
  have hgp : ∀ h : Heap, (h.push gob).get? h.objs.size = some gob := fun h => by rw [← hgo]; exact Heap.get?_push_size _ rfl
  have hgn : ∀ h : Heap, h.get? h'.objs.size = some gob → h.IsGen h'.objs.size s4.gens.size := fun h e => ⟨gob, _, _, e, by rw [← hgo], by rw [← hgo], by rw [← hgo]⟩
  generalize hAg : gAr X.A (.GeneratorExp elt [⟨tg, iter, [], 0⟩] scope gpos) it ge = Ag
  have hfr : Ag.frames = some (ge :: X.stack) := by rw [← hAg]; exact gAr_frames I4.ok.frames
  have hrm : Room k Ag := by rw [← hAg]; exact gAr_room hr
  have J5 := gblock_start (Ag := Ag) (code := code) (h' := h') (go := gob) (it := .ref it) (tk := s4.toks + 1 + 1 + 1) (gs := .fresh (.compStart (.GeneratorExp elt [⟨tg, iter, [], 0⟩] scope gpos) 0 (.ref it) .none ge)) I4 S hN f4 (by rw [hge]; exact hfr) (fun _ => hrm.hd) hns hsb hgd rfl hgp
  rw [hge] at J5
  have kp1 : ∀ b o, s4.heap.get? b = some o → h'.get? b = some o := fun b o e => hsb.extBut b o (Nat.ne_of_lt (Heap.lt_size e)) (Heap.get?_push_of_some _ e)
  have hsz' : h'.objs.size = s4.heap.objs.size + 1 := by rw [hsb.1, Heap.size_push]
  generalize hs5 : ({ s4 with gens := s4.gens.push (.fresh (.compStart (.GeneratorExp elt [⟨tg, iter, [], 0⟩] scope gpos) 0 (.ref it) .none ge)), toks := s4.toks + 1 + 1 + 1, heap := h'.push gob } : Shared) = s5 at J5 ⊢
  have hgens : s5.gens[s4.gens.size]? = some (.fresh (.compStart (.GeneratorExp elt [⟨tg, iter, [], 0⟩] scope gpos) 0 (.ref it) .none ge)) := by rw [← hs5]; exact Array.getElem?_push_size ..
  have st5 : tn 0 s5.heap := T.keep _ _ _ st4 fun b hb o e => by
    rw [← hs5]
    exact Heap.get?_push_of_some _ (kp1 b o (by rw [es4]; exact e))
  generalize hXg : gblk X Ag s4 H4 ge fp [(h'.objs.size, gob)] = Xg at J5
  have pinA : ∀ {σ' : L2.St} {H' : Hp} {s' : Shared}, Inv Xg [] σ' H' s' → s'.heap.IsGen h'.objs.size s4.gens.size := fun {σ' H' s'} I' => by
    subst hXg
    exact hgn _ (I'.pin (h'.objs.size, gob) (List.mem_append_left _ List.mem_cons_self)).1
  have back : ∀ {H' : Hp} {s1 s' : Shared}, Inv Xg [] (wipe σ (own.map (·.2))) H' s1 → (∀ b o, s1.heap.get? b = some o → s'.heap.get? b = some o) → s'.os = s1.os → AllBare s'.gens → Inv X pins σ H' s' := fun {H' s1 s'} I' kk ho hb => by
    subst hXg
    have I7 : Inv X pins σ H' s1 := I4.call' (ch := fp) I'.os I'.base I'.hok I'.bare fun b hb => ⟨(f4 b hb).1.2.2.2.1, (f4 b hb).1.2.1, (f4 b hb).1.2.2.2.2.1, (f4 b hb).1.2.2.2.2.2⟩
    exact I7.call' (ch := []) ho (Un.kept kk) (I7.hok.kept kk) hb fun b z => absurd z (by simp)
  have hnol : s5.heap.NoLimit := J5.nolimit
  refine hQ h'.objs.size s4.gens.size (m0 + 1) _ s5 (fun s1 => ∃ H, Inv Xg [] (wipe σ (own.map (·.2))) H s1 ∧ Q (.bl go) H) (fun s1 => ∃ H, Inv Xg [] (wipe σ (own.map (·.2))) H s1 ∧ Q (.bl (!go)) H) (fun s1 => ∃ H, Inv Xg [] (wipe σ (own.map (·.2))) H s1)
    (fun s' ⟨H', I'⟩ => ⟨pinA I', I'.nolimit, I'.bare⟩) (fun s' ⟨H', I', _⟩ => I'.bare) (fun s1 ⟨H', I', q'⟩ s' kk ho hb => ⟨H', back I' kk ho hb, q'⟩) (fun s1 ⟨H', I', q'⟩ s' eh ho hb => ⟨H', back I' (fun b o e => by rw [eh]; exact e) ho hb, q'⟩) (pinA J5) hnol hgens ⟨rfl, ?_⟩
  have hprog : Xg.prog = X.prog := by rw [← hXg]
  have hw : Xg.w = X.w := by rw [← hXg]
  have hK : Xg.K = X.K := by rw [← hXg]
  have henv : Xg.env = ge := by rw [← hXg]
  have J6 : Inv Xg [] (wipe σ (own.map (·.2))) H4 (s5.setGen s4.gens.size .running) := by
    have hb6 : AllBare (s5.setGen s4.gens.size .running).gens := allBare_setGen J5.bare rfl
    exact J5.call' (ch := []) rfl (Un.kept fun b o e => e) (J5.hok.kept fun b o e => e) hb6 fun b z => absurd z (by simp)
  have T' : Turn Xg.prog Xg.w Xg.K tg J fp it tn := by rw [hprog, hw, hK]; exact T
  rw [← hprog, ← hw, ← henv]
  refine seg_gx0 T' st5 ?_
  refine seg_gx (vs := own.map (·.2)) (g := g) (te := te) (go := go) (W := W) ?_ ?_ ?_ T' ?_ ?_ ?_ ?_ ?_ (wipe_wipe σ _) ?_ m0 (m0 + 1) 0 _ _ H4 (Nat.lt_succ_self _) J6 st5 n4 w0
  · rw [← hXg]; exact hc
  · rw [← hXg]; exact hAg
  · rw [henv, hgs]; exact S.co.1
  · intro e s; rw [← hXg]; exact fun z => z
  · rw [← hXg]
  · rw [← hXg]
    intro b hb p hp
    have hp : p ∈ [(h'.objs.size, gob)] := hp
    rw [List.mem_singleton] at hp
    subst hp
    have := (f4 b hb).2
    show h'.objs.size ≠ b
    rw [hsz']
    exact fun z => absurd (Nat.lt_of_lt_of_le this (Nat.le_of_lt (Nat.lt_succ_self s4.heap.objs.size))) (by rw [← z]; exact Nat.lt_irrefl _)
  · rw [← hXg]; exact hg Ag s4 H4 ge fp _ hgs hrm
  · rw [← hXg]; exact he Ag s4 H4 ge fp _ hgs hrm
  · exact turn
end
section
variable {X : Cx} {c P : Addr} {elt tg iter : Expr} {p pos gpos : Pos} {scope : Scope} {own : List (Str × Nat)} {wi : TI} {g : TG} {te : TE} {k : Nat}
/-- all(test for target in iter) -/
theorem pe_allG (hr : Room (k + 1) X.A) (hc : X.calm = true) (hN : X.N.Nodup) (hgl : Gl X "all") (hm : X.mg "all" = none) (hb : bootBuiltins "all" = some (.builtin "all")) (TB : TabB X.base X.mg c P) (hcode : X.env.code = .ref c) (S : GBlk X.N X.env.scope scope own) (hi : PI X tg iter wi)
    (hg : ∀ (Ag : Around) (s : Shared) (H : Hp) (ge : Env) (fp : List Addr) (pn : List (Addr × Obj)), ge.scope = scope → Room k Ag → PG (gblk X Ag s H ge fp pn) tg g)
    (he : ∀ (Ag : Around) (s : Shared) (H : Hp) (ge : Env) (fp : List Addr) (pn : List (Addr × Obj)), ge.scope = scope → Room k Ag → PE (gblk X Ag s H ge fp pn) elt te)
    (hs : ∀ v, genFold iter X.env v = pure v) (hse : starEach [.GeneratorExp elt [⟨tg, iter, [], 0⟩] scope gpos] X.env = (false, eval (.GeneratorExp elt [⟨tg, iter, [], 0⟩] scope gpos) X.env) :: starEach [] X.env := by rfl) :
    PE X (.Call (.Name "all" p) [.GeneratorExp elt [⟨tg, iter, [], 0⟩] scope gpos] [] pos) (tGen P true wi g te (own.map (·.2))) := by
  refine ⟨fun pins s σ H Q I h => wpAny_Call_Name_kw (ld_blt I hgl hm hb (PyProof.Rows.callWith_builtin1 ?_ hse (by rfl)))⟩
  rw [hse]
  show wpAny _ _ (spliced ((false, eval (.GeneratorExp elt [⟨tg, iter, [], 0⟩] scope gpos) X.env) :: backTo pos (starEach [] X.env))) _ _ s
  refine Calls.spliced_cons (gen_x (go := true) hr hc hN TB hcode S hi hg he hs I h fun a gi n gs s5 PT PF Kp hKp hTb hT hF hgen hl hgs hgo => ?_)
  refine Calls.spliced_nil ?_
  refine call_function_tree F.kind_all F.plain_all F.entry_all (F.args_all1 _) (wpAny_bind (m := oneArg "all" _) (wpAny_pure (wpAny_bind (wpAny_pyIter_gen hgen ?_))))
  refine wpAny_pure ⟨plainId_quiet F.plain_all_loop _, all_loop (A := X.A) hr.hd (by have := hr.dp; show X.A.depth < _; omega) hKp hTb (fun s1 h1 s' kk ho hb => ?_) (fun s1 h1 s' eh ho hb => ?_) n gs s5 hgen hl hgs hgo⟩
  · obtain ⟨H', I', q⟩ := hT s1 h1 s' kk ho hb
    exact ⟨.bl true, H', I', rfl, q⟩
  · obtain ⟨H', I', q⟩ := hF s1 h1 s' eh ho hb
    exact ⟨.bl false, H', I', rfl, q⟩
end
end Mg
end
/-! ## DCore -/
section
set_option autoImplicit false
/-! The data layer, plain Lean: Python's values as trees, statements and expressions as functions on them. -/
namespace Mg
/-- a value: a text is the list of its codes; box n: the n-th changeable object of the store; own d: in a frame, a list or dict that the name alone has -/
inductive D where
  | non | bl (b : Bool) | int (i : Int) | str (s : List Nat)
  | tup (l : List D) | lst (l : List D) | dic (t : Bool) (ks vs : List D) | st (l : List D) | box (n : Nat) | own (d : D)
  /-- an error in hand: its class, its fields; a lambda of the running def; one of a def that has ended, with what it holds -/
  | err (c : Nat) (fs : List D) | fo (k : Nat) | fn (k : Nat) (ds : List D)
/-- a class: its name and its instances' attributes, texts by their codes -/
structure Cid where
  nm : List Nat
  ats : List (List Nat)
  deriving DecidableEq
/-- a changeable object: a list, an instance of a class with its attributes (own d: a list or dict that the attribute alone has) -/
inductive Bx where
  | lst (l : List D) | ins (c : Cid) (fs : List (Option D)) | dic (t : Bool) (ks vs : List D)
abbrev Sto := List Bx
abbrev Env := List (Option D)
inductive Res (α : Type) where
  | ok (a : α) | exn (c : Nat) (fs : List D) (st : Sto) | bad
@[inline] def Res.bind {α β : Type} : Res α → (α → Res β) → Res β
  | .ok a, f => f a
  | .exn c fs st, _ => .exn c fs st
  | .bad, _ => .bad
/-- an operation that may not be served -/
def Res.of {α : Type} : Option α → Res α
  | some a => .ok a
  | none => .bad
@[simp] theorem Res.of_some {α : Type} (a : α) : Res.of (some a) = .ok a := id rfl
@[simp] theorem Res.of_none {α : Type} : Res.of (none : Option α) = .bad := id rfl
@[simp] theorem Res.ok_bind {α β : Type} (a : α) (f : α → Res β) : (Res.ok a).bind f = f a := id rfl
@[simp] theorem Res.exn_bind {α β : Type} (c : Nat) (fs : List D) (st : Sto) (f : α → Res β) : (Res.exn c fs st : Res α).bind f = .exn c fs st := id rfl
@[simp] theorem Res.bad_bind {α β : Type} (f : α → Res β) : (Res.bad : Res α).bind f = .bad := id rfl
abbrev Ex := Env → Sto → Res (D × Sto)
abbrev Tst := Env → Sto → Res (Bool × Sto)
abbrev Exs := Env → Sto → Res (List D × Sto)
inductive Flow where
  | nx | rt (d : D) | bk | ct
abbrev Stm := Env → Sto → Res (Flow × Env × Sto)
/-- the longest list that is let -/
def line : Nat := 16777216
def fit (l : List D) : Bool := l.length ≤ line
/-! ### values -/
mutual
/-- == of data (True is 1) -/
def D.eq : D → D → Bool
  | .non, .non => true
  | .bl a, .bl b => a == b
  | .int a, .int b => a == b
  | .bl a, .int b => cond a 1 0 == b
  | .int a, .bl b => a == cond b 1 0
  | .str a, .str b => a == b
  | .tup a, .tup b => D.eqs a b
  | .lst a, .lst b => D.eqs a b
  | _, _ => false
def D.eqs : List D → List D → Bool
  | [], [] => true
  | x :: xs, y :: ys => D.eq x y && D.eqs xs ys
  | _, _ => false
end
mutual
/-- None, bools, whole numbers, texts, tuples and lists of these -/
def D.pl : D → Bool
  | .tup l => D.pls l
  | .lst l => D.pls l
  | .dic _ _ _ => false
  | .st _ => false
  | .box _ => false
  | .own _ => false
  | .err _ _ => false
  | .fo _ => false
  | .fn _ _ => false
  | .str s => s.all fun c => decide (c < 0x110000)
  | .non => true
  | .bl _ => true
  | .int _ => true
def D.pls : List D → Bool
  | [] => true
  | x :: xs => D.pl x && D.pls xs
end
mutual
def D.dep : D → Nat
  | .tup l => D.deps l + 1
  | .lst l => D.deps l + 1
  | _ => 0
def D.deps : List D → Nat
  | [] => 0
  | x :: xs => max (D.dep x) (D.deps xs)
end
def D.plain (d : D) : Bool := d.pl && decide (d.dep ≤ 50)
def D.plains (l : List D) : Bool := D.pls l && decide (D.deps l ≤ 50)
def D.isDic : D → Bool
  | .dic _ _ _ => true
  | _ => false
def D.isInt : D → Bool
  | .int _ => true
  | _ => false
mutual
/-- < of data that are alike -/
def D.lt : D → D → Bool
  | .int a, .int b => decide (a < b)
  | .str a, .str b => decide (a < b)
  | .tup a, .tup b => D.lts a b
  | .lst a, .lst b => D.lts a b
  | _, _ => false
def D.lts : List D → List D → Bool
  | _, [] => false
  | [], _ :: _ => true
  | x :: xs, y :: ys => if D.eq x y then D.lts xs ys else D.lt x y
end
mutual
/-- they can be compared, place by place -/
def D.alike : D → D → Bool
  | .int _, .int _ => true
  | .str _, .str _ => true
  | .tup a, .tup b => D.alikes a b
  | .lst a, .lst b => D.alikes a b
  | _, _ => false
def D.alikes : List D → List D → Bool
  | x :: xs, y :: ys => D.alike x y && D.alikes xs ys
  | [], _ => true
  | _ :: _, [] => true
end
def D.le (a b : D) : Bool := !D.lt b a
/-- data that sort: alike, not too deep -/
def D.sorts (l : List D) : Bool := (l.all fun a => l.all fun b => D.alike a b) && l.all fun a => a.pl && decide (a.dep ≤ 50)
def D.mem (x : D) (l : List D) : Bool := l.any fun y => D.eq y x
/-- a dict's look-up, by two rows of one length -/
def D.look (k : D) : List D → List D → Option D
  | k' :: ks, v :: vs => if D.eq k k' then some v else D.look k ks vs
  | _, _ => none
def D.put (k v : D) : List D → List D → List D × List D
  | k' :: ks, v' :: vs => if D.eq k k' then (k' :: ks, v :: vs) else
      let r := D.put k v ks vs
      (k' :: r.1, v' :: r.2)
  | _, _ => ([k], [v])
mutual
/-- whole numbers and tuples of such -/
def D.hsh : D → Bool
  | .int _ => true
  | .tup l => D.hshs l
  | _ => false
def D.hshs : List D → Bool
  | [] => true
  | x :: xs => D.hsh x && D.hshs xs
end
/-- a key of a dict: of one with tuples as keys (t), of one with whole numbers -/
def D.keyOk : Bool → D → Bool
  | true, .tup l => D.hshs l && decide (D.deps l ≤ 7)
  | false, .int _ => true
  | _, _ => false
def D.truth : D → Option Bool
  | .non => some false
  | .bl b => some b
  | .int i => some (i != 0)
  | .str s => if s.length ≤ line then some (!s.isEmpty) else none
  | .tup l => some (!l.isEmpty)
  | .lst l => some (!l.isEmpty)
  | _ => none
/-! ### operators -/
def opAdd : D → D → Option D
  | .int a, .int b => some (.int (a + b))
  | .tup a, .tup b => if (a ++ b).length ≤ line then some (.tup (a ++ b)) else none
  | .lst a, .lst b => if (a ++ b).length ≤ line then some (.lst (a ++ b)) else none
  | .str a, .str b => if (a ++ b).length ≤ line then some (.str (a ++ b)) else none
  | _, _ => none
def opSub : D → D → Option D
  | .int a, .int b => some (.int (a - b))
  | _, _ => none
def small (i : Int) : Bool := i.natAbs < 18446744073709551616
def opMul : D → D → Option D
  | .int a, .int b => if small a || small b then some (.int (a * b)) else none
  | _, _ => none
/-- the divisor above 0 -/
def opDiv : D → D → Option D
  | .int a, .int b => if 0 < b ∧ b < 1073741824 then some (.int (a / b)) else none
  | _, _ => none
def opMod : D → D → Option D
  | .int a, .int b => if 0 < b then some (.int (a % b)) else none
  | _, _ => none
def opPow : D → D → Option D
  | .int a, .int b => if 0 ≤ b ∧ b ≤ 1000 ∧ small a = true then some (.int (a ^ b.toNat)) else none
  | _, _ => none
def opShl : D → D → Option D
  | .int a, .int b => if 0 ≤ b ∧ b ≤ 1000 ∧ small a = true then some (.int (a * 2 ^ b.toNat)) else none
  | _, _ => none
def opShr : D → D → Option D
  | .int a, .int b => if 0 ≤ b then some (.int (a / 2 ^ b.toNat)) else none
  | _, _ => none
/-- of numbers that aren't negative -/
def opAnd : D → D → Option D
  | .int a, .int b => if 0 ≤ a ∧ 0 ≤ b then some (.int ((a.toNat &&& b.toNat : Nat) : Int)) else none
  | _, _ => none
def opXor : D → D → Option D
  | .int a, .int b => if 0 ≤ a ∧ 0 ≤ b then some (.int ((a.toNat ^^^ b.toNat : Nat) : Int)) else none
  | _, _ => none
def opNeg : D → Option D
  | .int a => some (.int (-a))
  | _ => none
def cEq (a b : D) : Option D := if a.plain && b.plain then some (.bl (D.eq a b)) else none
def cNe (a b : D) : Option D := if a.plain && b.plain then some (.bl (!D.eq a b)) else none
def cInt (p : Int → Int → Bool) : D → D → Option D
  | .int a, .int b => some (.bl (p a b))
  | _, _ => none
/-- < of numbers or of tuples of numbers -/
def cLt : D → D → Option D
  | .int a, .int b => some (.bl (decide (a < b)))
  | .tup a, .tup b => if a.all D.isInt && b.all D.isInt then some (.bl (D.lts a b)) else none
  | _, _ => none
def cLe : D → D → Option D
  | .int a, .int b => some (.bl (decide (a ≤ b)))
  | .tup a, .tup b => if a.all D.isInt && b.all D.isInt then some (.bl (!D.lts b a)) else none
  | _, _ => none
abbrev cGt := cInt fun a b => decide (b < a)
abbrev cGe := cInt fun a b => decide (b ≤ a)
def cIn (x : D) : D → Option D
  | .tup l => if x.plain && D.plains l then some (.bl (D.mem x l)) else none
  | .lst l => if x.plain && D.plains l then some (.bl (D.mem x l)) else none
  | .dic t ks vs => if x.keyOk t then some (.bl (D.look x ks vs).isSome) else none
  | _ => none
def cNotIn (x : D) : D → Option D
  | .tup l => if x.plain && D.plains l then some (.bl (!D.mem x l)) else none
  | .lst l => if x.plain && D.plains l then some (.bl (!D.mem x l)) else none
  | .dic t ks vs => if x.keyOk t then some (.bl (!(D.look x ks vs).isSome)) else none
  | _ => none
/-- the place of an index -/
def place (n : Nat) (i : Int) : Option Nat := if 0 ≤ i then (if i < n then some i.toNat else none) else if -(n : Int) ≤ i then some (i + n).toNat else none
def atIx (l : List D) (i : Int) : Option D := (place l.length i).bind (l[·]?)
/-- a[i]; the objects of the store are read -/
def opIx (st : Sto) : D → D → Option D
  | .tup l, .int i => atIx l i
  | .lst l, .int i => atIx l i
  | .dic t ks vs, k => if k.keyOk t then (match D.look k ks vs with | some d => some d | none => none) else none
  | .str s, .int i => if s.length ≤ line then (match (place s.length i).bind (s[·]?) with
    | some c => some (.str [c])
    | none => none) else none
  | .box n, .int i => match st[n]? with
    | some (.lst l) => atIx l i
    | _ => none
  | _, _ => none
/-- an end of a slice -/
def endIx (n dflt : Nat) : Option Int → Nat
  | none => dflt
  | some i => if i < 0 then (i + n).toNat else min i.toNat n
def cutL {α : Type} (l : List α) (lo hi : Option Int) : List α := (l.drop (endIx l.length 0 lo)).take (endIx l.length l.length hi - endIx l.length 0 lo)
def opSl (lo hi : Option Int) : D → Option D
  | .tup l => some (.tup (cutL l lo hi))
  | .lst l => some (.lst (cutL l lo hi))
  | _ => none
/-! ### built-in functions -/
def bLen (st : Sto) : D → Option D
  | .tup l => some (.int l.length)
  | .lst l => some (.int l.length)
  | .str l => if l.length ≤ line then some (.int l.length) else none
  | .box n => match st[n]? with
    | some (.lst l) => some (.int l.length)
    | _ => none
  | _ => none
def D.val : D → Int
  | .int i => i
  | _ => 0
def bSum : D → Option D
  | .lst l => if l.all D.isInt then some (.int (l.map D.val).sum) else none
  | _ => none
/-! ### a merge sort by structure: what List.mergeSort does -/
def mrg {α : Type} (le : α → α → Bool) : Nat → List α → List α → List α
  | 0, xs, ys => xs ++ ys
  | _ + 1, [], ys => ys
  | _ + 1, xs, [] => xs
  | n + 1, x :: xs, y :: ys => if le x y then x :: mrg le n xs (y :: ys) else y :: mrg le n (x :: xs) ys
def msrt {α : Type} (le : α → α → Bool) : Nat → List α → List α
  | 0, xs => xs
  | _ + 1, [] => []
  | _ + 1, [a] => [a]
  | n + 1, a :: b :: xs =>
    let l := a :: b :: xs
    mrg le l.length (msrt le n (l.take ((l.length + 1) / 2))) (msrt le n (l.drop ((l.length + 1) / 2)))
def msort {α : Type} (l : List α) (le : α → α → Bool) : List α := msrt le l.length l
theorem mrg_eq {α : Type} (le : α → α → Bool) : ∀ (n : Nat) (xs ys : List α), xs.length + ys.length ≤ n → mrg le n xs ys = List.merge xs ys le
  | 0, [], [], _ => by simp [mrg]
  | 0, [], _ :: _, h => by simp at h
  | 0, _ :: _, _, h => by simp at h
  | n + 1, [], ys, _ => by simp [mrg]
  | n + 1, x :: xs, [], _ => by simp [mrg]
  | n + 1, x :: xs, y :: ys, h => by
    simp only [List.length_cons] at h
    rw [List.cons_merge_cons]
    show (if le x y then x :: mrg le n xs (y :: ys) else y :: mrg le n (x :: xs) ys) = _
    rw [mrg_eq le n xs (y :: ys) (by simp only [List.length_cons]; omega), mrg_eq le n (x :: xs) ys (by simp only [List.length_cons]; omega)]
theorem msrt_eq {α : Type} (le : α → α → Bool) : ∀ (n : Nat) (l : List α), l.length ≤ n → msrt le n l = l.mergeSort le
  | 0, [], _ => by simp [msrt]
  | 0, _ :: _, h => by simp at h
  | n + 1, [], _ => by simp [msrt]
  | n + 1, [a], _ => by simp [msrt]
  | n + 1, a :: b :: xs, h => by
    simp only [List.length_cons] at h
    rw [List.mergeSort]
    show mrg le (a :: b :: xs).length (msrt le n ((a :: b :: xs).take (((a :: b :: xs).length + 1) / 2))) (msrt le n ((a :: b :: xs).drop (((a :: b :: xs).length + 1) / 2))) = _
    rw [msrt_eq le n _ (by rw [List.length_take]; simp only [List.length_cons]; omega), msrt_eq le n _ (by rw [List.length_drop]; simp only [List.length_cons]; omega)]
    rw [mrg_eq le _ _ _ (by rw [List.length_mergeSort, List.length_mergeSort, List.length_take, List.length_drop]; omega)]
    simp [List.MergeSort.Internal.splitInTwo]
theorem msort_eq {α : Type} (l : List α) (le : α → α → Bool) : msort l le = l.mergeSort le := msrt_eq le l.length l (Nat.le_refl _)
def bSorted : D → Option D
  | .lst l => if D.sorts l && decide (l.length ≤ line) then some (.lst (msort l D.le)) else none
  | .tup l => if D.sorts l && decide (l.length ≤ line) then some (.lst (msort l D.le)) else none
  | _ => none
def bMin2 : D → D → Option D
  | .int a, .int b => some (.int (if b < a then b else a))
  | _, _ => none
def bInt : D → Option D
  | .int i => some (.int i)
  | .bl b => some (.int (if b then 1 else 0))
  | _ => none
/-- isinstance with a built-in class -/
inductive Ty where
  | int | bool | tup | lst | str
def D.isa (d : D) : Ty → Bool
  | .int => match d with | .int _ => true | .bl _ => true | _ => false
  | .bool => match d with | .bl _ => true | _ => false
  | .tup => match d with | .tup _ => true | _ => false
  | .lst => match d with | .lst _ => true | _ => false
  | .str => match d with | .str _ => true | _ => false
def bIsa (ts : List Ty) (d : D) : Option D := match d with
  | .box _ => none
  | .own _ => none
  | .err _ _ => none
  | .fo _ => none
  | .fn _ _ => none
  | .st _ => none
  | .dic _ _ _ => none
  | d => some (.bl (ts.any d.isa))
/-! ### expressions -/
/-- a name's value: data -/
def sVar (i : Nat) : Ex := fun r st => match r[i]? with
  | some (some (.own _)) => .bad
  | some (some d) => .ok (d, st)
  | _ => .bad
/-- a name's value, read at once -/
def sAny (i : Nat) : Ex := fun r st => match r[i]? with
  | some (some (.own d)) => .ok (d, st)
  | some (some d) => .ok (d, st)
  | _ => .bad
def sC (d : D) : Ex := fun _ st => .ok (d, st)
def sOp1 (f : D → Option D) (a : Ex) : Ex := fun r st => (a r st).bind fun x => (Res.of (f x.1)).bind fun d => .ok (d, x.2)
def sOpS1 (f : Sto → D → Option D) (a : Ex) : Ex := fun r st => (a r st).bind fun x => (Res.of (f x.2 x.1)).bind fun d => .ok (d, x.2)
def sOp2 (f : D → D → Option D) (a b : Ex) : Ex := fun r st => (a r st).bind fun x => (b r x.2).bind fun y => (Res.of (f x.1 y.1)).bind fun d => .ok (d, y.2)
def sOpS2 (f : Sto → D → D → Option D) (a b : Ex) : Ex := fun r st => (a r st).bind fun x => (b r x.2).bind fun y => (Res.of (f y.2 x.1 y.1)).bind fun d => .ok (d, y.2)
def sNil : Exs := fun _ st => .ok ([], st)
def sCons (a : Ex) (b : Exs) : Exs := fun r st => (a r st).bind fun x => (b r x.2).bind fun y => .ok (x.1 :: y.1, y.2)
def sTup (a : Exs) : Ex := fun r st => (a r st).bind fun x => .ok (.tup x.1, x.2)
def sLst (a : Exs) : Ex := fun r st => (a r st).bind fun x => .ok (.lst x.1, x.2)
/-- a test as a value -/
def sTst (t : Tst) : Ex := fun r st => (t r st).bind fun x => .ok (.bl x.1, x.2)
def sSl (a : Ex) (lo hi : Option Ex) : Ex := fun r st => (a r st).bind fun x =>
  (match lo with
   | none => Res.ok (none, x.2)
   | some e => (e r x.2).bind fun y => match y.1 with | .int i => .ok (some i, y.2) | _ => .bad).bind fun l =>
  (match hi with
   | none => Res.ok (none, l.2)
   | some e => (e r l.2).bind fun y => match y.1 with | .int i => .ok (some i, y.2) | _ => .bad).bind fun h =>
  (Res.of (opSl l.1 h.1 x.1)).bind fun d => .ok (d, h.2)
/-! tests -/
/-- a value's truth -/
def tTru (a : Ex) : Tst := fun r st => (a r st).bind fun x => match x.1.truth with
  | some b => .ok (b, x.2)
  | none => .bad
def tAnd (a b : Tst) : Tst := fun r st => (a r st).bind fun x => if x.1 then b r x.2 else .ok (false, x.2)
def tOr (a b : Tst) : Tst := fun r st => (a r st).bind fun x => if x.1 then .ok (true, x.2) else b r x.2
def tNot (a : Tst) : Tst := fun r st => (a r st).bind fun x => .ok (!x.1, x.2)
def sIte (c : Tst) (a b : Ex) : Ex := fun r st => (c r st).bind fun x => if x.1 then a r x.2 else b r x.2
/-- x and y, x or y as values (x of any kind) -/
def sAnd (a b : Ex) : Ex := fun r st => (a r st).bind fun x => match x.1.truth with
  | some true => b r x.2
  | some false => .ok x
  | none => .bad
def sOr (a b : Ex) : Ex := fun r st => (a r st).bind fun x => match x.1.truth with
  | some true => .ok x
  | some false => b r x.2
  | none => .bad
/-- a < b < c -/
def sChain (f g : D → D → Option D) (a b c : Ex) : Ex := fun r st => (a r st).bind fun x => (b r x.2).bind fun y => (Res.of (f x.1 y.1)).bind fun d => match d with
  | .bl true => (c r y.2).bind fun z => (Res.of (g y.1 z.1)).bind fun d => .ok (d, z.2)
  | .bl false => .ok (.bl false, y.2)
  | _ => .bad
/-! targets and walks -/
inductive Tg where
  | nm (i : Nat) | tup (l : List Tg)
mutual
def Tg.bind : Tg → D → Env → Option Env
  | .nm i, d, r => some (r.set i (some d))
  | .tup l, .tup ds, r => Tg.binds l ds r
  | _, _, _ => none
def Tg.binds : List Tg → List D → Env → Option Env
  | [], [], r => some r
  | t :: ts, d :: ds, r => (Tg.bind t d r).bind fun r' => Tg.binds ts ds r'
  | _, _, _ => none
end
/-- what a for walks: gives the items -/
abbrev Wk := Env → Sto → Res (List D × Sto)
def rngF (lo c : Int) : Nat → List D
  | 0 => []
  | n + 1 => .int lo :: rngF (lo + c) c n
def okEnd (i : Int) : Bool := decide (-1000000000 < i) && decide (i < 1000000000)
def wRng1 (a : Ex) : Wk := fun r st => (a r st).bind fun x => match x.1 with
  | .int n => if okEnd n then .ok (rngF 0 1 n.toNat, x.2) else .bad
  | _ => .bad
def wRng2 (a b : Ex) : Wk := fun r st => (a r st).bind fun x => (b r x.2).bind fun y => match x.1, y.1 with
  | .int m, .int n => if okEnd m && okEnd n then .ok (rngF m 1 (n - m).toNat, y.2) else .bad
  | _, _ => .bad
def enumF : Int → List D → List D
  | _, [] => []
  | i, x :: xs => .tup [.int i, x] :: enumF (i + 1) xs
def zipL : List D → List D → List D
  | x :: xs, y :: ys => .tup [x, y] :: zipL xs ys
  | _, _ => []
/-- in a comprehension nothing may be raised -/
def Res.nx {α : Type} : Res α → Res α
  | .exn _ _ _ => .bad
  | m => m
/-- what the names of a comprehension were told before is forgotten -/
def wipeE (r : Env) : List Nat → Env
  | [] => r
  | v :: vs => (wipeE r vs).set v none
/-- [e for t in .. if c]: from the items; r: the frame, the block's own names forgotten -/
def compL (t : Tg) (c : Tst) (e : Ex) (r : Env) : List D → List D → Sto → Res (List D × Sto)
  | acc, [], st => .ok (acc, st)
  | acc, d :: ds, st => match Tg.bind t d r with
    | none => .bad
    | some r' => (c r' st).nx.bind fun x => if x.1 then (e r' x.2).nx.bind fun y => if acc.length < line then compL t c e r (acc ++ [y.1]) ds y.2 else .bad else compL t c e r acc ds x.2
def tYes : Tst := fun _ st => .ok (true, st)
def sComp (vs : List Nat) (t : Tg) (w : Wk) (c : Tst) (e : Ex) : Ex := fun r st => (w r st).bind fun x => (compL t c e (wipeE r vs) [] x.1 x.2).bind fun y => .ok (.lst y.1, y.2)
/-- .. with a second clause -/
def compL2 (t : Tg) (c1 : Tst) (w2 : Wk) (vs1 : List Nat) (t2 : Tg) (c : Tst) (e : Ex) (r : Env) : List D → List D → Sto → Res (List D × Sto)
  | acc, [], st => .ok (acc, st)
  | acc, d :: ds, st => match Tg.bind t d r with
    | none => .bad
    | some r' => (c1 r' st).nx.bind fun b => if b.1 then (w2 r' b.2).nx.bind fun x => (compL t2 c e (wipeE r' vs1) acc x.1 x.2).bind fun y => compL2 t c1 w2 vs1 t2 c e r y.1 ds y.2 else compL2 t c1 w2 vs1 t2 c e r acc ds b.2
def sComp2 (vs : List Nat) (t : Tg) (w : Wk) (c1 : Tst) (vs1 : List Nat) (t2 : Tg) (w2 : Wk) (c : Tst) (e : Ex) : Ex := fun r st => (w r st).bind fun x => (compL2 t c1 w2 vs1 t2 c e (wipeE r vs) [] x.1 x.2).bind fun y => .ok (.lst y.1, y.2)
def dcompL (kt : Bool) (t : Tg) (c : Tst) (k v : Ex) (r : Env) : List D → List D → List D → Sto → Res ((List D × List D) × Sto)
  | ks, vs, [], st => .ok ((ks, vs), st)
  | ks, vs, d :: ds, st => match Tg.bind t d r with
    | none => .bad
    | some r' => (c r' st).nx.bind fun x => if x.1 then (k r' x.2).nx.bind fun y => (v r' y.2).nx.bind fun z => if y.1.keyOk kt && decide (ks.length < line) then
        let p := D.put y.1 z.1 ks vs
        dcompL kt t c k v r p.1 p.2 ds z.2 else .bad else dcompL kt t c k v r ks vs ds x.2
def sDComp (kt : Bool) (vs : List Nat) (t : Tg) (w : Wk) (c : Tst) (k v : Ex) : Ex := fun r st => (w r st).bind fun x => (dcompL kt t c k v (wipeE r vs) [] [] x.1 x.2).bind fun y => .ok (.dic kt y.1.1 y.1.2, y.2)
/-- all(..), any(..) of a generator expression: go on while the items are so -/
def quantL (go : Bool) (t : Tg) (e : Ex) (r : Env) : List D → Sto → Res (D × Sto)
  | [], st => .ok (.bl go, st)
  | d :: ds, st => match Tg.bind t d r with
    | none => .bad
    | some r' => (e r' st).nx.bind fun x => match x.1 with
      | .bl b => if b = go then quantL go t e r ds x.2 else .ok (.bl (!go), x.2)
      | _ => .bad
def sQuant (go : Bool) (vs : List Nat) (t : Tg) (w : Wk) (e : Ex) : Ex := fun r st => (w r st).bind fun x => quantL go t e (wipeE r vs) x.1 x.2
/-! calls -/
/-- of a def that reads and writes no object of the store -/
def sCallP (f : List D → Res D) (a : Exs) : Ex := fun r st => (a r st).bind fun x => match f x.1 with
  | .ok d => .ok (d, x.2)
  | .exn c fs _ => .exn c fs x.2
  | .bad => .bad
def sCallE (f : List D → Sto → Res (D × Sto)) (a : Exs) : Ex := fun r st => (a r st).bind fun x => f x.1 x.2
/-! ### statements -/
def stPass : Stm := fun r st => .ok (.nx, r, st)
def stSeq (a b : Stm) : Stm := fun r st => (a r st).bind fun x => match x.1 with
  | .nx => b x.2.1 x.2.2
  | _ => .ok x
def stAsg (t : Tg) (a : Ex) : Stm := fun r st => (a r st).bind fun x => match Tg.bind t x.1 r with
  | some r' => .ok (.nx, r', x.2)
  | none => .bad
/-- a value that is a new list or dict -/
def sOwn (a : Ex) : Ex := fun r st => (a r st).bind fun x => .ok (.own x.1, x.2)
def setAll : List Nat → List D → Env → Env
  | i :: is, d :: ds, r => setAll is ds (r.set i (some d))
  | _, _, r => r
/-- x, y = a, b -/
def stPar (is : List Nat) (a : Exs) : Stm := fun r st => (a r st).bind fun x => .ok (.nx, setAll is x.1 r, x.2)
/-- y = x, where x is a list of this def's own that is given away -/
def stMove (i j : Nat) : Stm := fun r st => match r[j]? with
  | some (some (.own d)) => .ok (.nx, (r.set j none).set i (some (.own d)), st)
  | _ => .bad
/-- from here on x's list is data -/
def stFrz (i : Nat) : Stm := fun r st => match r[i]? with
  | some (some (.own d)) => .ok (.nx, r.set i (some d), st)
  | some (some d) => .ok (.nx, r, st)
  | _ => .bad
/-- x = a new list or dict -/
def stNew (i : Nat) (a : Ex) : Stm := fun r st => (a r st).bind fun x => .ok (.nx, r.set i (some (.own x.1)), x.2)
def stRet (a : Ex) : Stm := fun r st => (a r st).bind fun x => .ok (.rt x.1, r, x.2)
def stIf (c : Tst) (a b : Stm) : Stm := fun r st => (c r st).bind fun x => if x.1 then a r x.2 else b r x.2
def stExpr (a : Ex) : Stm := fun r st => (a r st).bind fun x => .ok (.nx, r, x.2)
def stBad : Stm := fun _ _ => .bad
/-- x op= e -/
def stAug (i : Nat) (f : D → D → Option D) (a : Ex) : Stm := fun r st => match r[i]? with
  | some (some (.own _)) => .bad
  | some (some d) => (a r st).bind fun x => (Res.of (f d x.1)).bind fun z => .ok (.nx, r.set i (some z), x.2)
  | _ => .bad
/-- x.append(e), x a list of this def's own -/
def stApp (i : Nat) (a : Ex) : Stm := fun r st => match r[i]? with
  | some (some (.own (.lst l))) => (a r st).bind fun x => if l.length < line then .ok (.nx, r.set i (some (.own (.lst (l ++ [x.1])))), x.2) else .bad
  | _ => .bad
/-- x += e, x a list of this def's own -/
def stExt (i : Nat) (a : Ex) : Stm := fun r st => match r[i]? with
  | some (some (.own (.lst l))) => (a r st).bind fun x => match x.1 with
    | .lst m => if (l ++ m).length ≤ line then .ok (.nx, r.set i (some (.own (.lst (l ++ m)))), x.2) else .bad
    | _ => .bad
  | _ => .bad
/-- x[k] = e, x a dict of this def's own -/
def stPut (i : Nat) (k a : Ex) : Stm := fun r st => (a r st).bind fun x => match r[i]? with
  | some (some (.own (.dic t ks vs))) => (k r x.2).bind fun y => if y.1.keyOk t && decide (ks.length < line) then
      let p := D.put y.1 x.1 ks vs
      .ok (.nx, r.set i (some (.own (.dic t p.1 p.2))), y.2) else .bad
  | _ => .bad
/-- x = y.pop(), y a list of this def's own -/
def stPop (i j : Nat) : Stm := fun r st => match r[j]? with
  | some (some (.own (.lst l))) => match l.getLast? with
    | some d => .ok (.nx, (r.set j (some (.own (.lst l.dropLast)))).set i (some d), st)
    | none => .bad
  | _ => .bad
/-- x = [..], a list in the store -/
def stBox (i : Nat) (a : Exs) : Stm := fun r st => (a r st).bind fun x => .ok (.nx, r.set i (some (.box x.2.length)), x.2 ++ [.lst x.1])
/-- x[k] = e, x a list in the store -/
def stPutB (o k a : Ex) : Stm := fun r st => (a r st).bind fun x => (o r x.2).bind fun y => (k r y.2).bind fun z => match y.1, z.1 with
  | .box n, .int i => match z.2[n]? with
    | some (.lst l) => match place l.length i with
      | some j => .ok (.nx, r, z.2.set n (.lst (l.set j x.1)))
      | none => .bad
    | _ => .bad
  | _, _ => .bad
def loopF (t : Tg) (b : Stm) : List D → Stm
  | [], r, st => .ok (.nx, r, st)
  | d :: ds, r, st => match Tg.bind t d r with
    | none => .bad
    | some r' => (b r' st).bind fun x => match x.1 with
      | .nx => loopF t b ds x.2.1 x.2.2
      | .ct => loopF t b ds x.2.1 x.2.2
      | .bk => .ok (.nx, x.2)
      | .rt d => .ok (.rt d, x.2)
def stFor (t : Tg) (w : Wk) (b : Stm) : Stm := fun r st => (w r st).bind fun x => loopF t b x.1 r x.2
def runE (n : Nat) (b : Stm) (ds : List D) (st : Sto) : Res (D × Sto) := (b (ds.map some ++ List.replicate (n - ds.length) none) st).bind fun x => match x.1 with
  | .rt d => .ok (d, x.2.2)
  | .nx => .ok (.non, x.2.2)
  | _ => .bad
end Mg
end
/-! ## DLex -/
section
set_option autoImplicit false
set_option linter.all false
/-! Rows of whole numbers in Python's order; sets of such rows. -/
namespace Mg
/-- a < b of rows of numbers -/
def ltL : List Int → List Int → Bool
  | _, [] => false
  | [], _ :: _ => true
  | x :: xs, y :: ys => if x = y then ltL xs ys else decide (x < y)
def tupI (k : List Int) : D := .tup (k.map .int)
def D.row : D → List Int
  | .tup l => l.map D.val
  | _ => []
/-- what is known of a set of tuples -/
structure SetOk (ks ls : List (List Int)) : Prop where
  mem : ∀ z, z ∈ ks ↔ z ∈ ls
  pw : ls.Pairwise (fun a b => ltL a b = true)
  ln : ∃ d, (1 ≤ d ∨ ls.length ≤ 1) ∧ ∀ z ∈ ls, z.length = d ∧ ∀ i ∈ z, 0 ≤ i ∧ i < 64
end Mg
end
/-! ## DRel -/
section
set_option Elab.async false
set_option linter.all false
set_option maxRecDepth 100000
set_option maxHeartbeats 2500000
/-! The data layer: how a tree is borne by the heap. -/
namespace Mg
open PySem PySem.Spec PyProof.Rows L2 GxR
/-- what an address is to the def that runs: data that stays; the own list or dict of a name; an object of the store, an attribute's own -/
inductive Role where
  | fz | sl (i : Nat) | bx (n : Nat) | fd (n i : Nat)
  deriving DecidableEq
structure Gh where
  rl : Addr → Option Role
  bx : Nat → Addr
  nb : Nat
/-- the world's fixed part -/
structure LamC where
  params : Arguments
  body : Expr
  scope : Scope
/-- the def that runs and makes lambdas: its cells, its lambdas' name, the lambdas -/
structure MeT where
  cells : List (Str × Addr)
  q : Str
  lam : List LamC
/-- the error in hand: where it stands, its class, its dict, its attributes -/
structure ErT where
  a : Addr
  c : Nat
  d : Option Addr
  ns : List Str
/-- the tables of code objects (of generator expressions; of lambdas, with their name); who makes lambdas; the error in hand; lambdas of defs that ended, with what they hold; values that the caller's lambdas hold -/
structure TbT where
  tb : List Addr
  lt : List (Addr × Str) := []
  me : Option MeT := none
  er : Option ErT := none
  cl : Nat → Option (Str × LamC × List Str) := fun _ => none
  keep : List (V × D) := []
instance : Membership Addr TbT := ⟨fun T P => P ∈ T.tb ∧ ∀ p ∈ T.lt, p.1 ≠ P⟩
structure Wo where
  P : Program
  w : World
  K : PySem.W.Frag
  Tb : TbT
/-- the default of a lambda's one parameter -/
def DfAt (H : Hp) (params : Arguments) (dV : Value) : Prop := (params.defaults = [] ∧ dV = .none) ∨ ∃ t u x, (params.defaults ≠ [] ∧ dV = .ref t) ∧ H t = some (.frz (PySem.W.kdv_tup [u]) x)
/-- a lambda stands at f -/
def FnAt (H : Hp) (f : Addr) (q : Str) (L : LamC) (clos : List (Str × Addr)) : Prop := ∃ (dV doc pm ctv : Value) (c' : Addr) (oc : Obj) (vs : Array Value) (t : Tok) (u1 u2 : HO),
  H f = some (.frz (PySem.W.kdv_obj "<lambda>" q L.params (.expr L.body) L.scope clos dV doc pm c' ctv) u1) ∧ H c' = some (.frz oc u2) ∧ oc.data = .fields vs ∧ vs[1]? = some (.str q t) ∧ DfAt H L.params dV
/-- cells that are known -/
def CellsAt (H : Hp) (cs : List Addr) (vs : List V) : Prop := Paired (fun c v => ∃ (oc : Obj) (u : Value) (x : HO), H c = some (.frz oc x) ∧ oc.data = .cell (some u) ∧ RelV v u) cs vs
/-- the dict of the error in hand -/
def ErAt (G : Gh) (H : Hp) (E : ErT) (kvs : List (Str × V)) : Prop := (E.d = none ∧ kvs = []) ∨ ∃ d, E.d = some d ∧ G.rl d = some .fz ∧ H d = some (.xd kvs)
/-- a table of lambdas' code objects: each is known -/
def TabL (H : Hp) (P : Addr) (q : Str) : Prop := ∃ ps : Array Value, H P = some (.tbl ps) ∧ TriplesOk ps.toList ∧ ∀ (pos : Pos) (cv : Value), codeAmong pos ps.toList = some cv →
  ∃ (c : Addr) (oc : Obj) (vs : Array Value) (t : Tok) (x : HO), cv = .ref c ∧ H c = some (.frz oc x) ∧ oc.data = .fields vs ∧ vs[1]? = some (.str q t)
mutual
def nk : D → NestedKey
  | .int i => .num i
  | .bl b => .num (if b then 1 else 0)
  | .str s => .text ⟨s.toArray⟩
  | .tup l => .tup (nks l)
  | _ => .none
def nks : List D → List NestedKey
  | [] => []
  | x :: xs => nk x :: nks xs
end
/-- a dict with tuples as keys, at a -/
def kdO (W : Wo) (a : Addr) (xs : List (NestedKey × Addr × Value)) : HO :=
  .ext fun h => (a == sysModules) = false ∧ ∃ o es ep, h.get? a = some o ∧ o.ExactDict ∧ o.data = .dict es ep ∧ es.toList = xs.map (entryOfKey (nestedKind W.P W.w))
mutual
inductive R (W : Wo) (G : Gh) (H : Hp) : V → D → Prop
  | non : R W G H .non .non
  | bl (b : Bool) : R W G H (.bl b) (.bl b)
  | int (i : Int) : R W G H (.int i) (.int i)
  | str (s : List Nat) : R W G H (.str ⟨s.toArray⟩) (.str s)
  | tup {a : Addr} {xs : List V} {ds : List D} : SqT W.K H a xs → Rs W G H xs ds → R W G H (.ref a) (.tup ds)
  | obj {a : Addr} {o : HO} {d : D} : G.rl a = some .fz → Rd H a o → Ob W G H a o d → d.isDic = false → R W G H (.ref a) d
  /-- a dict that is data is locked -/
  | dic {a : Addr} {q : Obj} {o : HO} {t : Bool} {ks vs : List D} : G.rl a = some .fz → H a = some (.frz q o) → Ob W G H a o (.dic t ks vs) → R W G H (.ref a) (.dic t ks vs)
  | box (n : Nat) : n < G.nb → R W G H (.ref (G.bx n)) (.box n)
  /-- a list that the written part holds -/
  | kl {a : Addr} {xs : List V} {ds : List D} : SqL W.K (fun _ => none) a xs → Rs W G H xs ds → R W G H (.ref a) (.lst ds)
  /-- a set of tuples of ints, never changed -/
  | st {a : Addr} {L : List (Addr × List Int)} {ls : List (List Int)} : G.rl a = some .fz → H a = some (SetTO W.P W.w a L) → (∀ p ∈ L, SqT W.K H p.1 (p.2.map V.int)) → SetOk (L.map (·.2)) ls → R W G H (.ref a) (.st (ls.map tupI))
  | fo {a : Addr} {M : MeT} {L : LamC} {k : Nat} : W.Tb.me = some M → M.lam[k]? = some L → FnAt H a M.q L (cloFrom M.cells L.scope.names []) → R W G H (.ref a) (.fo k)
  | fn {a : Addr} {q : Str} {L : LamC} {ns : List Str} {k : Nat} {clos : List (Str × Addr)} {vs : List V} {ds : List D} : W.Tb.cl k = some (q, L, ns) → FnAt H a q L clos → clos.map (·.1) = ns → CellsAt H (clos.map (·.2)) vs → Rs W G H vs ds → R W G H (.ref a) (.fn k ds)
  | er {E : ErT} {kvs : List (Str × V)} {vs : List V} {fs : List D} : W.Tb.er = some E → ErAt G H E kvs → (∀ (i : Nat) (n : Str), E.ns[i]? = some n → ∃ v, vs[i]? = some v ∧ kvs.lookup n = some v) → Rs W G H vs fs → R W G H (.ref E.a) (.err E.c fs)
inductive Ob (W : Wo) (G : Gh) (H : Hp) : Addr → HO → D → Prop
  | lst {a : Addr} {xs : List V} {ds : List D} : Rs W G H xs ds → Ob W G H a (.lst xs) (.lst ds)
  | dI {a : Addr} {kvs : List (Key × V)} {ks : List Int} {vs : List D} : kvs.map (·.1) = ks.map Sum.inl → ks.Nodup → Rs W G H (kvs.map (·.2)) vs → Ob W G H a (.dK kvs) (.dic false (ks.map .int) vs)
  | dT {a : Addr} {xs : List (NestedKey × Addr × Value)} {ws : List V} {ks vs : List D} : Rs W G H (xs.map fun x => .ref x.2.1) ks → xs.map (·.1) = nks ks → (xs.map (·.1)).Nodup → ks.all (D.keyOk true) = true → Vals ws (xs.map (·.2.2)) → Rs W G H ws vs →
      Ob W G H a (kdO W a xs) (.dic true ks vs)
inductive Rs (W : Wo) (G : Gh) (H : Hp) : List V → List D → Prop
  | nil : Rs W G H [] []
  | cons {v : V} {vs : List V} {d : D} {ds : List D} : R W G H v d → Rs W G H vs ds → Rs W G H (v :: vs) (d :: ds)
end
/-- what stays as it is: the tuples, what is frozen by the walk, data that stays; the store's objects are where they were -/
structure St1 (G : Gh) (H : Hp) (G' : Gh) (H' : Hp) : Prop where
  tup : ∀ a xs, H a = some (.tup xs) → H' a = some (.tup xs)
  frz : ∀ a o u, H a = some (.frz o u) → H' a = some (.frz o u)
  fz : ∀ a o, G.rl a = some .fz → H a = some o → (∀ ps, o ≠ .tbl ps) → H' a = some o
  rl : ∀ a, G.rl a = some .fz → G'.rl a = some .fz
  nb : G.nb ≤ G'.nb
  bx : ∀ n, n < G.nb → G'.bx n = G.bx n
  up : ∀ a, H a ≠ none → H' a ≠ none
theorem St1.refl {G : Gh} {H : Hp} : St1 G H G H := ⟨fun _ _ h => h, fun _ _ _ h => h, fun _ _ _ h _ => h, fun _ h => h, Nat.le_refl _, fun _ _ => rfl, fun _ h => h⟩
theorem St1.trans {G G1 G2 : Gh} {H H1 H2 : Hp} (a : St1 G H G1 H1) (b : St1 G1 H1 G2 H2) : St1 G H G2 H2 :=
  ⟨fun x xs h => b.tup x xs (a.tup x xs h), fun x o u h => b.frz x o u (a.frz x o u h), fun x o r h nt => b.fz x o (a.rl x r) (a.fz x o r h nt) nt, fun x h => b.rl x (a.rl x h), Nat.le_trans a.nb b.nb,
    fun n hn => (b.bx n (Nat.lt_of_lt_of_le hn a.nb)).trans (a.bx n hn), fun x h => b.up x (a.up x h)⟩
theorem St1.free {G G' : Gh} {H H' : Hp} (s : St1 G H G' H') {a : Addr} (h : H' a = none) : H a = none := by
  cases q : H a with
  | none => rfl
  | some o => exact absurd h (s.up a (by rw [q]; simp))
theorem St1.sqT {G G' : Gh} {H H' : Hp} (s : St1 G H G' H') {K : PySem.W.Frag} {a : Addr} {xs : List V} (h : SqT K H a xs) : SqT K H' a xs := by
  rcases h with (h | ⟨o, h⟩) | h
  · exact .inl (.inl (s.tup _ _ h))
  · exact .inl (.inr ⟨o, s.frz _ _ _ h⟩)
  · exact .inr h
theorem St1.fnAt {G G' : Gh} {H H' : Hp} (s : St1 G H G' H') {f : Addr} {q : Str} {L : LamC} {clos : List (Str × Addr)} (h : FnAt H f q L clos) : FnAt H' f q L clos := by
  obtain ⟨dV, doc, pm, ctv, c', oc, vs, t, u1, u2, h1, h2, h3, h4, h5⟩ := h
  refine ⟨dV, doc, pm, ctv, c', oc, vs, t, u1, u2, s.frz _ _ _ h1, s.frz _ _ _ h2, h3, h4, ?_⟩
  rcases h5 with h5 | ⟨a, u, x, e, h5⟩
  · exact .inl h5
  · exact .inr ⟨a, u, x, e, s.frz _ _ _ h5⟩
theorem St1.cells {G G' : Gh} {H H' : Hp} (s : St1 G H G' H') {cs : List Addr} {vs : List V} (h : CellsAt H cs vs) : CellsAt H' cs vs := Paired.mapP h fun _ _ ⟨oc, u, x, h1, h2, h3⟩ => ⟨oc, u, x, s.frz _ _ _ h1, h2, h3⟩
theorem St1.erAt {G G' : Gh} {H H' : Hp} (s : St1 G H G' H') {E : ErT} {kvs : List (Str × V)} (h : ErAt G H E kvs) : ErAt G' H' E kvs := by
  rcases h with h | ⟨d, e, h1, h2⟩
  · exact .inl h
  · exact .inr ⟨d, e, s.rl _ h1, s.fz _ _ h1 h2 fun _ z => by cases z⟩
theorem St1.tabL {G G' : Gh} {H H' : Hp} (s : St1 G H G' H') {P : Addr} {q : Str} (h : TabL H P q) (k : ∀ ps, H P = some (.tbl ps) → H' P = some (.tbl ps)) : TabL H' P q := by
  obtain ⟨ps, h1, h2, h3⟩ := h
  refine ⟨ps, k _ h1, h2, fun pos cv e => ?_⟩
  obtain ⟨c, oc, vs, t, x, e1, e2, e3⟩ := h3 pos cv e
  exact ⟨c, oc, vs, t, x, e1, s.frz _ _ _ e2, e3⟩
theorem Ob.ntbl {W : Wo} {G : Gh} {H : Hp} {a : Addr} {o : HO} {d : D} (h : Ob W G H a o d) : ∀ ps, o ≠ .tbl ps := by
  intro ps e
  cases h <;> cases e
theorem St1.rd {G G' : Gh} {H H' : Hp} (s : St1 G H G' H') {a : Addr} {o : HO} (hf : G.rl a = some .fz) (nt : ∀ ps, o ≠ .tbl ps) (h : Rd H a o) : Rd H' a o := by
  rcases h with h | ⟨q, h⟩
  · exact .inl (s.fz _ _ hf h nt)
  · exact .inr ⟨q, s.frz _ _ _ h⟩
mutual
theorem R.mono {W : Wo} {G G' : Gh} {H H' : Hp} (s : St1 G H G' H') : ∀ {v : V} {d : D}, R W G H v d → R W G' H' v d
  | _, _, .non => .non
  | _, _, .bl b => .bl b
  | _, _, .int i => .int i
  | _, _, .str x => .str x
  | _, _, .tup h r => .tup (s.sqT h) (Rs.mono s r)
  | _, _, .obj f h o n => .obj (s.rl _ f) (s.rd f o.ntbl h) (Ob.mono s o) n
  | _, _, .dic f h o => .dic (s.rl _ f) (s.frz _ _ _ h) (Ob.mono s o)
  | _, _, .box n h => by
    rw [← s.bx n h]
    exact .box n (Nat.lt_of_lt_of_le h s.nb)
  | _, _, .kl h r => .kl h (Rs.mono s r)
  | _, _, .st f h t o => .st (s.rl _ f) (s.fz _ _ f h fun _ z => by cases z) (fun p hp => s.sqT (t p hp)) o
  | _, _, .fo m l h => .fo m l (s.fnAt h)
  | _, _, .fn m h n c r => .fn m (s.fnAt h) n (s.cells c) (Rs.mono s r)
  | _, _, .er m h l r => .er m (s.erAt h) l (Rs.mono s r)
theorem Ob.mono {W : Wo} {G G' : Gh} {H H' : Hp} (s : St1 G H G' H') : ∀ {a : Addr} {o : HO} {d : D}, Ob W G H a o d → Ob W G' H' a o d
  | _, _, _, .lst r => .lst (Rs.mono s r)
  | _, _, _, .dI e n r => .dI e n (Rs.mono s r)
  | _, _, _, .dT k e n h v r => .dT (Rs.mono s k) e n h v (Rs.mono s r)
theorem Rs.mono {W : Wo} {G G' : Gh} {H H' : Hp} (s : St1 G H G' H') : ∀ {vs : List V} {ds : List D}, Rs W G H vs ds → Rs W G' H' vs ds
  | _, _, .nil => .nil
  | _, _, .cons h r => .cons (R.mono s h) (Rs.mono s r)
end
abbrev Wo.nE (W : Wo) : Wo := ⟨W.P, W.w, W.K, { W.Tb with er := none }⟩
/-- the tables, the values kept -/
structure Wo.Ok (W : Wo) (G : Gh) (H : Hp) : Prop where
  tb : ∀ P ∈ W.Tb.tb, TabG H P
  lt : ∀ p ∈ W.Tb.lt, TabL H p.1 p.2
  kp : ∀ p ∈ W.Tb.keep, R W.nE G H p.1 p.2
/-- the tables are as they were -/
theorem St1.tbs {G G' : Gh} {H H' : Hp} (s : St1 G H G' H') {W : Wo} (h : W.Ok G H) (k : ∀ P ps, H P = some (.tbl ps) → H' P = some (.tbl ps)) : W.Ok G' H' :=
  ⟨fun P hP => let ⟨ps, e, q⟩ := h.tb P hP; ⟨ps, k _ _ e, q⟩, fun p hp => s.tabL (h.lt p hp) fun ps e => k _ ps e, fun p hp => R.mono s (h.kp p hp)⟩
theorem Rs.length {W : Wo} {G : Gh} {H : Hp} : ∀ {vs : List V} {ds : List D}, Rs W G H vs ds → vs.length = ds.length
  | _, _, .nil => rfl
  | _, _, .cons _ r => congrArg (· + 1) (Rs.length r)
theorem Rs.get {W : Wo} {G : Gh} {H : Hp} : ∀ {vs : List V} {ds : List D} {i : Nat} {d : D}, Rs W G H vs ds → ds[i]? = some d → ∃ v, vs[i]? = some v ∧ R W G H v d
  | _, _, _, _, .nil, e => by simp at e
  | _, _, 0, _, .cons h _, e => by simp at e; subst e; exact ⟨_, rfl, h⟩
  | _, _, i + 1, _, .cons _ r, e => by
    obtain ⟨v, h1, h2⟩ := Rs.get (i := i) r (by simpa using e)
    exact ⟨v, by simpa using h1, h2⟩
theorem Rs.get' {W : Wo} {G : Gh} {H : Hp} : ∀ {vs : List V} {ds : List D} {i : Nat} {v : V}, Rs W G H vs ds → vs[i]? = some v → ∃ d, ds[i]? = some d ∧ R W G H v d
  | _, _, _, _, .nil, e => by simp at e
  | _, _, 0, _, .cons h _, e => by simp at e; subst e; exact ⟨_, rfl, h⟩
  | _, _, i + 1, _, .cons _ r, e => by
    obtain ⟨d, h1, h2⟩ := Rs.get' (i := i) r (by simpa using e)
    exact ⟨d, by simpa using h1, h2⟩
theorem Rs.append {W : Wo} {G : Gh} {H : Hp} : ∀ {vs ws : List V} {ds es : List D}, Rs W G H vs ds → Rs W G H ws es → Rs W G H (vs ++ ws) (ds ++ es)
  | _, _, _, _, .nil, q => q
  | _, _, _, _, .cons h r, q => .cons h (Rs.append r q)
theorem Rs.take {W : Wo} {G : Gh} {H : Hp} : ∀ (n : Nat) {vs : List V} {ds : List D}, Rs W G H vs ds → Rs W G H (vs.take n) (ds.take n)
  | 0, _, _, _ => .nil
  | _ + 1, _, _, .nil => .nil
  | n + 1, _, _, .cons h r => .cons h (Rs.take n r)
theorem Rs.drop {W : Wo} {G : Gh} {H : Hp} : ∀ (n : Nat) {vs : List V} {ds : List D}, Rs W G H vs ds → Rs W G H (vs.drop n) (ds.drop n)
  | 0, _, _, r => r
  | _ + 1, _, _, .nil => .nil
  | n + 1, _, _, .cons _ r => Rs.drop n r
theorem Rs.set {W : Wo} {G : Gh} {H : Hp} {v : V} {d : D} (q : R W G H v d) : ∀ (n : Nat) {vs : List V} {ds : List D}, Rs W G H vs ds → Rs W G H (vs.set n v) (ds.set n d)
  | _, _, _, .nil => .nil
  | 0, _, _, .cons _ r => .cons q r
  | n + 1, _, _, .cons h r => .cons h (Rs.set q n r)
theorem Rs.reverse {W : Wo} {G : Gh} {H : Hp} : ∀ {vs : List V} {ds : List D}, Rs W G H vs ds → Rs W G H vs.reverse ds.reverse
  | _, _, .nil => .nil
  | _, _, .cons h r => by
    rw [List.reverse_cons, List.reverse_cons]
    exact Rs.append (Rs.reverse r) (.cons h .nil)
/-! ### the frame -/
/-- an address that the def that runs has for its own: a name's list or dict -/
def At (W : Wo) (G : Gh) (H : Hp) (a : Addr) (d : D) : Prop := ∃ o, H a = some o ∧ Ob W G H a o d
/-- a text of codes -/
def txt (s : List Nat) : Str := ⟨s.toArray⟩
/-- the i-th attribute's name -/
def Cid.at (c : Cid) (i : Nat) : Option Str := (c.ats[i]?).map txt
/-- what an instance's attributes bear -/
structure FsAt (W : Wo) (G : Gh) (H : Hp) (n : Nat) (c : Cid) (kvs : List (Str × V)) (fs : List (Option D)) : Prop where
  len : fs.length = c.ats.length
  few : kvs.length ≤ fs.countP Option.isSome
  nm : ∀ x v, kvs.lookup x = some v → ∃ i d, c.at i = some x ∧ fs[i]? = some (some d)
  vl : ∀ i d, fs[i]? = some (some d) → (∀ e, d ≠ .own e) → ∃ x v, c.at i = some x ∧ kvs.lookup x = some v ∧ R W G H v d
  ow : ∀ i d, fs[i]? = some (some (.own d)) → ∃ x b, c.at i = some x ∧ kvs.lookup x = some (.ref b) ∧ G.rl b = some (.fd n i) ∧ At W G H b d
/-- what an object of the store bears -/
inductive BxAt (W : Wo) (G : Gh) (H : Hp) (n : Nat) (a : Addr) : Bx → Prop
  | lst {xs : List V} {ds : List D} : H a = some (.lst xs) → Rs W G H xs ds → BxAt W G H n a (.lst ds)
  | ins {c : Cid} {dx : Addr} {kvs : List (Str × V)} {fs : List (Option D)} : H a = some (.ins (He.ga W.K (txt c.nm)) dx kvs) → FsAt W G H n c kvs fs → BxAt W G H n a (.ins c fs)
  | dic {o : HO} {t : Bool} {ks vs : List D} : H a = some o → Ob W G H a o (.dic t ks vs) → BxAt W G H n a (.dic t ks vs)
/-- the def's fixed part: the world, the code tables -/
structure Fx where
  W : Wo
  ex : Nat → List D → Sto → Gh → L2.St → Hp → Prop
abbrev Fx.Tb (F : Fx) : TbT := F.W.Tb
structure Rel (F : Fx) (G : Gh) (r : Env) (st : Sto) (σ : L2.St) (H : Hp) : Prop where
  len : σ.length = r.length
  vl : ∀ (i : Nat) (d : D), r[i]? = some (some d) → (∀ e, d ≠ .own e) → ∃ v, σ[i]? = some (some v) ∧ R F.W G H v d
  ow : ∀ (i : Nat) (d : D), r[i]? = some (some (.own d)) → ∃ a, σ[i]? = some (some (.ref a)) ∧ G.rl a = some (.sl i) ∧ At F.W G H a d
  nb : G.nb = st.length
  bx : ∀ n b, st[n]? = some b → G.rl (G.bx n) = some (.bx n) ∧ BxAt F.W G H n (G.bx n) b
  tb : F.W.Ok G H
  on : ∀ a r, G.rl a = some r → H a ≠ none
/-- between two states of an expression: only the store's objects may have changed (p: not even these) -/
structure Ev (p : Bool) (G : Gh) (H : Hp) (G' : Gh) (H' : Hp) : Prop where
  s1 : St1 G H G' H'
  sl : ∀ a o, (∀ n, G.rl a ≠ some (.bx n)) → (∀ n i, G.rl a ≠ some (.fd n i)) → H a = some o → (∀ ps, o ≠ .tbl ps) → H' a = some o ∧ G'.rl a = G.rl a
  eq : p = true → ∀ a o, H a = some o → (∀ ps, o ≠ .tbl ps) → H' a = some o ∧ G'.rl a = G.rl a
theorem Ev.refl {p : Bool} {G : Gh} {H : Hp} : Ev p G H G H := ⟨.refl, fun _ _ _ _ h _ => ⟨h, rfl⟩, fun _ _ _ h _ => ⟨h, rfl⟩⟩
theorem Ev.trans {p : Bool} {G G1 G2 : Gh} {H H1 H2 : Hp} (a : Ev p G H G1 H1) (b : Ev p G1 H1 G2 H2) : Ev p G H G2 H2 :=
  ⟨a.s1.trans b.s1, fun x o q1 q2 h nt => by
      obtain ⟨h1, e1⟩ := a.sl x o q1 q2 h nt
      obtain ⟨h2, e2⟩ := b.sl x o (fun n => by rw [e1]; exact q1 n) (fun n i => by rw [e1]; exact q2 n i) h1 nt
      exact ⟨h2, e2.trans e1⟩,
    fun e x o h nt => by
      obtain ⟨h1, e1⟩ := a.eq e x o h nt
      obtain ⟨h2, e2⟩ := b.eq e x o h1 nt
      exact ⟨h2, e2.trans e1⟩⟩
theorem Ev.low {p : Bool} {G G' : Gh} {H H' : Hp} (a : Ev true G H G' H') : Ev p G H G' H' := ⟨a.s1, a.sl, fun _ => a.eq rfl⟩
/-- the store only grows, or its objects change: a state that came back is the first -/
structure Evs (G : Gh) (H : Hp) (G' : Gh) (H' : Hp) : Prop where
  s1 : St1 G H G' H'
  no : ∀ a o, G.rl a = none → H a = some o → (∀ ps, o ≠ .tbl ps) → H' a = some o ∧ G'.rl a = none
theorem Evs.refl {G : Gh} {H : Hp} : Evs G H G H := ⟨.refl, fun _ _ q h _ => ⟨h, q⟩⟩
theorem Evs.trans {G G1 G2 : Gh} {H H1 H2 : Hp} (a : Evs G H G1 H1) (b : Evs G1 H1 G2 H2) : Evs G H G2 H2 :=
  ⟨a.s1.trans b.s1, fun x o q h nt => let ⟨h1, q1⟩ := a.no x o q h nt; b.no x o q1 h1 nt⟩
theorem Ev.evs {p : Bool} {G G' : Gh} {H H' : Hp} (e : Ev p G H G' H') : Evs G H G' H' :=
  ⟨e.s1, fun a o q h nt => let ⟨h1, h2⟩ := e.sl a o (fun n => by rw [q]; simp) (fun n i => by rw [q]; simp) h nt; ⟨h1, h2.trans q⟩⟩
end Mg
end
/-! ## DExpr -/
section
set_option Elab.async false
set_option linter.all false
set_option maxRecDepth 100000
set_option maxHeartbeats 2500000
/-! The data layer: expressions. -/
namespace L2
open PySem PySem.Spec PyProof.Rows
theorem PE.mimp {X : Cx} {e : Expr} {t t' : TE} (h : PE X e t) (k : ∀ σ H Q, t' σ H Q → t σ H Q) : PE X e t' := ⟨fun pins s σ H Q I q => h.run pins s σ H Q I (k σ H Q q)⟩
theorem PT.mimp {X : Cx} {e : Expr} {t t' : TT} (h : PT X e t) (k : ∀ σ H Q, t' σ H Q → t σ H Q) : PT X e t' := ⟨fun pins s σ H Q I q => h.run pins s σ H Q I (k σ H Q q)⟩
theorem PW.mimp {X : Cx} {e : Expr} {t t' : TT} (h : PW X e t) (k : ∀ σ H Q, t' σ H Q → t σ H Q) : PW X e t' := ⟨fun wh pins s σ H Q I q => h.run wh pins s σ H Q I (k σ H Q q)⟩
theorem PA.mimp {X : Cx} {es : List Expr} {t t' : TA} (h : PA X es t) (k : ∀ σ H Q, t' σ H Q → t σ H Q) : PA X es t' := ⟨fun pos pins s σ H Q I q => h.run pos pins s σ H Q I (k σ H Q q)⟩
end L2
namespace Mg
open PySem PySem.Spec PyProof.Rows L2 GxR
/-- what is known behind an expression -/
def Post (F : Fx) (p : Bool) (r : Env) (σ : L2.St) (G : Gh) (H : Hp) (m : Res (D × Sto)) (Q : VK) : Prop := match m with
  | .ok x => ∀ v H' G', Rel F G' r x.2 σ H' → Ev p G H G' H' → R F.W G' H' v x.1 → Q v H'
  | .exn c fs st' => ∀ H' G', Rel F G' r st' σ H' → Ev p G H G' H' → F.ex c fs st' G' σ H'
  | .bad => False
def tD (F : Fx) (p : Bool) (φ : Ex) : TE := fun σ H Q => ∃ G r st, Rel F G r st σ H ∧ Post F p r σ G H (φ r st) Q
/-- the same of a thing that is read at once: it may be a name's own list -/
def RV (F : Fx) (p : Bool) (G : Gh) (H : Hp) (v : V) (d : D) : Prop := R F.W G H v d ∨ ∃ a q, v = .ref a ∧ At F.W G H a d ∧ G.rl a = some q ∧ (p = false → ∃ i, q = .sl i)
def PostV (F : Fx) (p : Bool) (r : Env) (σ : L2.St) (G : Gh) (H : Hp) (m : Res (D × Sto)) (Q : VK) : Prop := match m with
  | .ok x => ∀ v H' G', Rel F G' r x.2 σ H' → Ev p G H G' H' → RV F p G' H' v x.1 → Q v H'
  | .exn c fs st' => ∀ H' G', Rel F G' r st' σ H' → Ev p G H G' H' → F.ex c fs st' G' σ H'
  | .bad => False
def tV (F : Fx) (p : Bool) (φ : Ex) : TE := fun σ H Q => ∃ G r st, Rel F G r st σ H ∧ PostV F p r σ G H (φ r st) Q
/-- a list or dict that is new -/
def PostF (F : Fx) (p : Bool) (r : Env) (σ : L2.St) (G : Gh) (H : Hp) (m : Res (D × Sto)) (Q : VK) : Prop := match m with
  | .ok x => ∀ a H' G', Rel F G' r x.2 σ H' → Ev p G H G' H' → H a = none → G'.rl a = none → At F.W G' H' a x.1 → Q (.ref a) H'
  | .exn c fs st' => ∀ H' G', Rel F G' r st' σ H' → Ev p G H G' H' → F.ex c fs st' G' σ H'
  | .bad => False
def tF (F : Fx) (p : Bool) (φ : Ex) : TE := fun σ H Q => ∃ G r st, Rel F G r st σ H ∧ PostF F p r σ G H (φ r st) Q
/-- a test -/
def PostT (F : Fx) (p : Bool) (r : Env) (σ : L2.St) (G : Gh) (H : Hp) (m : Res (Bool × Sto)) (Q : Bool → Hp → Prop) : Prop := match m with
  | .ok x => ∀ H' G', Rel F G' r x.2 σ H' → Ev p G H G' H' → Q x.1 H'
  | .exn c fs st' => ∀ H' G', Rel F G' r st' σ H' → Ev p G H G' H' → F.ex c fs st' G' σ H'
  | .bad => False
def tT (F : Fx) (p : Bool) (φ : Tst) : TT := fun σ H Q => ∃ G r st, Rel F G r st σ H ∧ PostT F p r σ G H (φ r st) Q
def PostA (F : Fx) (p : Bool) (r : Env) (σ : L2.St) (G : Gh) (H : Hp) (m : Res (List D × Sto)) (Q : List V → Hp → Prop) : Prop := match m with
  | .ok x => ∀ vs H' G', Rel F G' r x.2 σ H' → Ev p G H G' H' → Rs F.W G' H' vs x.1 → Q vs H'
  | .exn c fs st' => ∀ H' G', Rel F G' r st' σ H' → Ev p G H G' H' → F.ex c fs st' G' σ H'
  | .bad => False
def tA (F : Fx) (p : Bool) (φ : Exs) : TA := fun σ H Q => ∃ G r st, Rel F G r st σ H ∧ PostA F p r σ G H (φ r st) Q
section
variable {F : Fx} {p : Bool} {r : Env} {σ : L2.St} {G G1 : Gh} {H H1 : Hp}
theorem Post.adv {m : Res (D × Sto)} {Q : VK} (h : Post F p r σ G H m Q) (e : Ev p G H G1 H1) : Post F p r σ G1 H1 m Q := by
  cases m with
  | ok x => exact fun v H' G' a b c => h v H' G' a (e.trans b) c
  | exn c fs st => exact fun H' G' a b => h H' G' a (e.trans b)
  | bad => exact h
theorem PostT.adv {m : Res (Bool × Sto)} {Q : Bool → Hp → Prop} (h : PostT F p r σ G H m Q) (e : Ev p G H G1 H1) : PostT F p r σ G1 H1 m Q := by
  cases m with
  | ok x => exact fun H' G' a b => h H' G' a (e.trans b)
  | exn c fs st => exact fun H' G' a b => h H' G' a (e.trans b)
  | bad => exact h
theorem PostA.adv {m : Res (List D × Sto)} {Q : List V → Hp → Prop} (h : PostA F p r σ G H m Q) (e : Ev p G H G1 H1) : PostA F p r σ G1 H1 m Q := by
  cases m with
  | ok x => exact fun vs H' G' a b c => h vs H' G' a (e.trans b) c
  | exn c fs st => exact fun H' G' a b => h H' G' a (e.trans b)
  | bad => exact h
theorem PostF.adv {m : Res (D × Sto)} {Q : VK} (h : PostF F p r σ G H m Q) (e : Ev p G H G1 H1) : PostF F p r σ G1 H1 m Q := by
  cases m with
  | ok x => exact fun a H' G' q1 q2 q3 => h a H' G' q1 (e.trans q2) (e.s1.free q3)
  | exn c fs st => exact fun H' G' a b => h H' G' a (e.trans b)
  | bad => exact h
end
/-! ### new objects -/
section
variable {F : Fx} {r : Env} {st : Sto} {σ : L2.St} {G : Gh} {H : Hp} {a : Addr} {o : HO}
/-- a new object laid -/
theorem St1.lay (h : H a = none) : St1 G H G (upd H a o) :=
  ⟨fun x xs e => by rw [upd_ne (ne_of_none e h)]; exact e, fun x q u e => by rw [upd_ne (ne_of_none e h)]; exact e, fun x q _ e _ => by rw [upd_ne (ne_of_none e h)]; exact e, fun _ e => e, Nat.le_refl _, fun _ _ => rfl,
    fun x e => by
      by_cases hx : x = a
      · subst hx; rw [upd_same]; simp
      · rw [upd_ne hx]; exact e⟩
theorem Ev.lay {p : Bool} (h : H a = none) : Ev p G H G (upd H a o) :=
  ⟨.lay h, fun x q _ _ e _ => ⟨by rw [upd_ne (ne_of_none e h)]; exact e, rfl⟩, fun _ x q e _ => ⟨by rw [upd_ne (ne_of_none e h)]; exact e, rfl⟩⟩
theorem Rel.noRole (L : Rel F G r st σ H) (h : H a = none) : G.rl a = none := by
  cases q : G.rl a with
  | none => rfl
  | some x => exact absurd h (L.on a x q)
/-- what a name's own list says, carried over -/
theorem At.mono {W : Wo} {G' : Gh} {H' : Hp} {d : D} (s : St1 G H G' H') (h : At W G H a d) (k : ∀ o, H a = some o → (∀ ps, o ≠ .tbl ps) → H' a = some o) : At W G' H' a d := by
  obtain ⟨o, e, q⟩ := h
  exact ⟨o, k o e q.ntbl, Ob.mono s q⟩
theorem FsAt.mono {W : Wo} {G' : Gh} {H' : Hp} {n : Nat} {c : Cid} {kvs : List (Str × V)} {fs : List (Option D)} (s : St1 G H G' H') (h : FsAt W G H n c kvs fs) (kf : ∀ x i o, G.rl x = some (.fd n i) → H x = some o → (∀ ps, o ≠ .tbl ps) → H' x = some o ∧ G'.rl x = some (.fd n i)) : FsAt W G' H' n c kvs fs :=
  ⟨h.len, h.few, h.nm, fun i d e ho => let ⟨x, v, h1, h2, h3⟩ := h.vl i d e ho; ⟨x, v, h1, h2, R.mono s h3⟩, fun i d e => by
    obtain ⟨x, b, h1, h2, h3, o, ho, hq⟩ := h.ow i d e
    obtain ⟨k1, k2⟩ := kf b i o h3 ho hq.ntbl
    exact ⟨x, b, h1, h2, k2, o, k1, Ob.mono s hq⟩⟩
theorem BxAt.mono {W : Wo} {G' : Gh} {H' : Hp} {n : Nat} {b : Bx} (s : St1 G H G' H') (h : BxAt W G H n a b) (k : ∀ o, H a = some o → (∀ ps, o ≠ .tbl ps) → H' a = some o)
    (kf : ∀ x i o, G.rl x = some (.fd n i) → H x = some o → (∀ ps, o ≠ .tbl ps) → H' x = some o ∧ G'.rl x = some (.fd n i)) : BxAt W G' H' n a b := by
  cases h with
  | lst e q => exact .lst (k _ e fun _ z => by cases z) (Rs.mono s q)
  | ins e q => exact .ins (k _ e fun _ z => by cases z) (q.mono s kf)
  | dic e q => exact .dic (k _ e q.ntbl) (Ob.mono s q)
/-- the frame is carried over where all that was is kept -/
theorem Rel.mono {G' : Gh} {H' : Hp} (L : Rel F G r st σ H) (s : St1 G H G' H') (k : ∀ x q, H x = some q → (∀ ps, q ≠ .tbl ps) → H' x = some q ∧ G'.rl x = G.rl x) (hb : G'.nb = G.nb) (ht : F.W.Ok G' H')
    (on : ∀ x q, G'.rl x = some q → H' x ≠ none) : Rel F G' r st σ H' := by
  refine ⟨L.len, fun i d e hi => ?_, fun i d e => ?_, hb.trans L.nb, fun n b e => ?_, ht, on⟩
  · obtain ⟨v, h1, h2⟩ := L.vl i d e hi
    exact ⟨v, h1, R.mono s h2⟩
  · obtain ⟨a, h1, h2, h3⟩ := L.ow i d e
    obtain ⟨o, ho, hq⟩ := id h3
    obtain ⟨k1, k2⟩ := k a o ho hq.ntbl
    exact ⟨a, h1, k2.trans h2, h3.mono s fun o' e' nt => (k a o' e' nt).1⟩
  · obtain ⟨h1, h2⟩ := L.bx n b e
    have hn : n < G.nb := by rw [L.nb]; exact (List.getElem?_eq_some_iff.mp e).1
    rw [s.bx n hn]
    refine ⟨?_, h2.mono s (fun o' e' nt => (k _ o' e' nt).1) fun x i o hx e' nt => ⟨(k x o e' nt).1, (k x o e' nt).2.trans hx⟩⟩
    cases h2 with
    | lst e' q => rw [(k _ _ e' fun _ z => by cases z).2]; exact h1
    | ins e' q => rw [(k _ _ e' fun _ z => by cases z).2]; exact h1
    | dic e' q => rw [(k _ _ e' q.ntbl).2]; exact h1
theorem TabG.lay {P : Addr} (h : H a = none) (t : TabG H P) : TabG (upd H a o) P := by
  obtain ⟨ps, e, q⟩ := t
  exact ⟨ps, by rw [upd_ne (ne_of_none e h)]; exact e, q⟩
theorem Rel.lay (L : Rel F G r st σ H) (h : H a = none) : Rel F G r st σ (upd H a o) :=
  L.mono (.lay h) (fun x q e _ => ⟨by rw [upd_ne (ne_of_none e h)]; exact e, rfl⟩) rfl ((St1.lay (G := G) (o := o) h).tbs L.tb fun P ps e => by rw [upd_ne (ne_of_none e h)]; exact e) fun x q e => (St1.lay (G := G) (o := o) h).up x (L.on x q e)
/-- an address gets a role -/
def Gh.give (G : Gh) (a : Addr) (q : Role) : Gh := { G with rl := fun x => if x = a then some q else G.rl x }
theorem Gh.give_same {q : Role} : (G.give a q).rl a = some q := by simp [Gh.give]
theorem Gh.give_ne {x : Addr} {q : Role} (h : x ≠ a) : (G.give a q).rl x = G.rl x := by simp [Gh.give, h]
theorem St1.give {q : Role} (h : G.rl a = none) : St1 G H (G.give a q) H :=
  ⟨fun _ _ e => e, fun _ _ _ e => e, fun _ _ _ e _ => e, fun x e => by
    have hx : x ≠ a := fun z => by rw [z, h] at e; cases e
    rw [Gh.give_ne hx]; exact e, Nat.le_refl _, fun _ _ => rfl, fun _ e => e⟩
theorem Rel.give {q : Role} (L : Rel F G r st σ H) (h : G.rl a = none) (ha : H a ≠ none) : Rel F (G.give a q) r st σ H := by
  refine ⟨L.len, fun i d e hi => ?_, fun i d e => ?_, L.nb, fun n b e => ?_, (St1.give h).tbs L.tb (fun _ _ e => e), fun x z e => ?_⟩
  · obtain ⟨v, h1, h2⟩ := L.vl i d e hi
    exact ⟨v, h1, R.mono (.give h) h2⟩
  · obtain ⟨x, h1, h2, h3⟩ := L.ow i d e
    have hx : x ≠ a := fun z => by rw [z, h] at h2; cases h2
    exact ⟨x, h1, (Gh.give_ne hx).trans h2, h3.mono (.give h) fun _ e _ => e⟩
  · obtain ⟨h1, h2⟩ := L.bx n b e
    have hx : G.bx n ≠ a := fun z => by rw [z, h] at h1; cases h1
    exact ⟨(Gh.give_ne hx).trans h1, h2.mono (.give h) (fun _ e _ => e) fun y i o hy e _ => ⟨e, (Gh.give_ne fun z => by rw [z, h] at hy; cases hy).trans hy⟩⟩
  · by_cases hx : x = a
    · subst hx; exact ha
    · rw [Gh.give_ne hx] at e; exact L.on x z e
/-- a new object laid and frozen: it is data from now on -/
theorem fresh_fz {F : Fx} {p : Bool} {G' : Gh} {H' : Hp} {d : D} {Q : VK} (L : Rel F G' r st σ H') (e : Ev p G H G' H') (hn : H a = none) (hr : G'.rl a = none) (ha : At F.W G' H' a d) (nd : d.isDic = false)
    (k : ∀ v H' G', Rel F G' r st σ H' → Ev p G H G' H' → R F.W G' H' v d → Q v H') : Q (.ref a) H' := by
  obtain ⟨o, ho, hq⟩ := ha
  refine k (.ref a) H' (G'.give a .fz) (L.give hr (by rw [ho]; simp)) ⟨e.s1.trans (.give hr), fun x q z1 z2 h1 nt => ?_, fun hp x q h1 nt => ?_⟩ (.obj Gh.give_same (.inl ho) (Ob.mono (.give hr) hq) nd)
  · have hx : x ≠ a := fun z => by rw [z, hn] at h1; cases h1
    rw [Gh.give_ne hx]
    exact e.sl x q z1 z2 h1 nt
  · have hx : x ≠ a := fun z => by rw [z, hn] at h1; cases h1
    rw [Gh.give_ne hx]
    exact e.eq hp x q h1 nt
end
/-! ### from one reading to another -/
section
variable {X : Cx} {F : Fx} {p : Bool} {e : Expr} {φ : Ex}
/-- a new dict becomes data: it is locked -/
theorem Rel.lockNew {G : Gh} {r : Env} {st : Sto} {σ : L2.St} {H : Hp} {a : Addr} {q : Obj} {o : HO} {t : Bool} {ks vs : List D} (L : Rel F G r st σ H) (hr : G.rl a = none) (ho : H a = some o) (hq : Ob F.W G H a o (.dic t ks vs)) :
    St1 G H (G.give a .fz) (upd H a (.frz q o)) ∧ Rel F (G.give a .fz) r st σ (upd H a (.frz q o)) ∧ R F.W (G.give a .fz) (upd H a (.frz q o)) (.ref a) (.dic t ks vs) := by
  have nt := hq.ntbl
  have n1 : ∀ xs, o ≠ .tup xs := fun xs z => by subst z; cases hq
  have n2 : ∀ q u, o ≠ .frz q u := fun q u z => by subst z; cases hq
  have s : St1 G H (G.give a .fz) (upd H a (.frz q o)) := ⟨fun x xs e => by rw [upd_ne fun z => by rw [z, ho] at e; cases e; exact n1 _ rfl]; exact e, fun x q' u e => by rw [upd_ne fun z => by rw [z, ho] at e; cases e; exact n2 _ _ rfl]; exact e,
    fun x q' e h _ => by rw [upd_ne fun z => by rw [z, hr] at e; cases e]; exact h, fun x e => (Gh.give_ne fun z => by rw [z, hr] at e; cases e).trans e, Nat.le_refl _, fun _ _ => rfl, fun x e => by
      by_cases hx : x = a
      · subst hx; rw [upd_same]; simp
      · rw [upd_ne hx]; exact e⟩
  have far : ∀ {x z}, G.rl x = some z → x ≠ a := fun hx z => by rw [z, hr] at hx; cases hx
  refine ⟨s, ⟨L.len, fun i d e hi => ?_, fun i d e => ?_, L.nb, fun n b e => ?_, ?_, fun x z e => ?_⟩, .dic Gh.give_same upd_same (Ob.mono s hq)⟩
  · obtain ⟨v, h1, h2⟩ := L.vl i d e hi
    exact ⟨v, h1, R.mono s h2⟩
  · obtain ⟨x, h1, h2, h3⟩ := L.ow i d e
    exact ⟨x, h1, (Gh.give_ne (far h2)).trans h2, h3.mono s fun _ e _ => by rw [upd_ne (far h2)]; exact e⟩
  · obtain ⟨h1, h2⟩ := L.bx n b e
    exact ⟨(Gh.give_ne (far h1)).trans h1, h2.mono s (fun _ e _ => by rw [upd_ne (show (G.give a .fz).bx n ≠ a from far h1)]; exact e) fun y i o hy e _ => ⟨by rw [upd_ne (far hy)]; exact e, (Gh.give_ne (far hy)).trans hy⟩⟩
  · exact s.tbs L.tb fun P ps e => by rw [upd_ne fun z => by rw [z, ho] at e; cases e; exact nt _ rfl]; exact e
  · by_cases hx : x = a
    · subst hx; rw [upd_same]; simp
    · rw [Gh.give_ne hx] at e
      rw [upd_ne hx]
      exact L.on x z e
theorem Ob.mut {W : Wo} {G : Gh} {H : Hp} {a : Addr} {o : HO} {d : D} (h : Ob W G H a o d) : Mut (some o) := by cases h <;> trivial
theorem _root_.L2.PE.frz (h : PE X e (tF F p φ)) : PE X e (tD F p φ) := ⟨fun pins s σ H Q I ⟨G, r, st, L, k⟩ => by
  refine thn (h.run pins s σ H (fun v H' => Q v H' ∨ ∃ a G' x, v = .ref a ∧ Rel F G' r x.2 σ H' ∧ Ev p G H G' H' ∧ H a = none ∧ G'.rl a = none ∧ At F.W G' H' a x.1 ∧ x.1.isDic = true ∧ φ r st = .ok x) I ⟨G, r, st, L, ?_⟩) fun u s1 ⟨v, H1, I1, rv, q⟩ => ?_
  · unfold PostF; unfold Post at k
    cases q : φ r st with
    | ok x =>
      rw [q] at k
      intro a H' G' L' ev hn hr ha
      by_cases nd : x.1.isDic = false
      · exact .inl (fresh_fz L' ev hn hr ha nd k)
      · exact .inr ⟨a, G', x, rfl, L', ev, hn, hr, ha, by simpa using nd, rfl⟩
    | exn c fs st' => rw [q] at k; exact k
    | bad => rw [q] at k; exact k
  · rcases q with q | ⟨a, G1, x, rfl, L1, ev, hn, hr, ⟨o, ho, hq⟩, nd, qm⟩
    · exact ⟨v, H1, I1, rv, q⟩
    · unfold Post at k
      rw [qm] at k
      obtain ⟨d, st1⟩ := x
      cases d <;> (try (cases nd; done))
      obtain ⟨od, I2⟩ := I1.lock ho hq.mut
      obtain ⟨s1', L2, rr⟩ := L1.lockNew (q := od) hr ho hq
      refine ⟨.ref a, _, I2, rv, k _ _ _ L2 ⟨ev.s1.trans s1', fun y q z1 z2 h1 nt => ?_, fun hp y q h1 nt => ?_⟩ rr⟩
      · have hx : y ≠ a := fun z => by rw [z, hn] at h1; cases h1
        rw [Gh.give_ne hx, upd_ne hx]
        exact ev.sl y q z1 z2 h1 nt
      · have hx : y ≠ a := fun z => by rw [z, hn] at h1; cases h1
        rw [Gh.give_ne hx, upd_ne hx]
        exact ev.eq hp y q h1 nt⟩
theorem _root_.L2.PE.weak (h : PE X e (tD F p φ)) : PE X e (tV F p φ) := h.mimp fun σ H Q ⟨G, r, st, L, k⟩ => ⟨G, r, st, L, by
  unfold Post; unfold PostV at k
  cases q : φ r st with
  | ok x => rw [q] at k; exact fun v H' G' L' ev hr => k v H' G' L' ev (.inl hr)
  | exn c fs st' => rw [q] at k; exact k
  | bad => rw [q] at k; exact k⟩
theorem _root_.L2.PE.low (h : PE X e (tD F true φ)) : PE X e (tD F p φ) := h.mimp fun σ H Q ⟨G, r, st, L, k⟩ => ⟨G, r, st, L, by
  unfold Post at k ⊢
  cases q : φ r st with
  | ok x => rw [q] at k; exact fun v H' G' L' ev hr => k v H' G' L' ev.low hr
  | exn c fs st' => rw [q] at k; exact fun H' G' L' ev => k H' G' L' ev.low
  | bad => rw [q] at k; exact k⟩
theorem _root_.L2.PT.low {t : Tst} (h : PT X e (tT F true t)) : PT X e (tT F p t) := h.mimp fun σ H Q ⟨G, r, st, L, k⟩ => ⟨G, r, st, L, by
  unfold PostT at k ⊢
  cases q : t r st with
  | ok x => rw [q] at k; exact fun H' G' L' ev => k H' G' L' ev.low
  | exn c fs st' => rw [q] at k; exact fun H' G' L' ev => k H' G' L' ev.low
  | bad => rw [q] at k; exact k⟩
end
/-! ### names, constants -/
section
variable {X : Cx} {F : Fx} {p : Bool} {pos : Pos}
theorem de_var (i : Nat) {x : Str} (hN : X.N[i]? = some x := by rfl) (hv : Vis X.env.scope x := by first | exact Or.inl rfl | exact Or.inr (Or.inl rfl) | exact Or.inr (Or.inr rfl)) (hd : (x == ("__debug__" : Str)) = false := by decide)
    (hcd : (x == ("__classdict__" : Str)) = false := by decide) : PE X (.Name x pos) (tD F p (sVar i)) := (pe_var hN hv hd hcd).mimp fun σ H Q ⟨G, r, st, L, k⟩ => by
  unfold sVar at k
  split at k
  · exact k.elim
  · rename_i d ho e
    obtain ⟨v, h1, h2⟩ := L.vl i d e fun z q => ho z q
    exact ⟨v, h1, k v H G L .refl h2⟩
  · exact k.elim
/-- a name's value, read at once -/
theorem de_any (i : Nat) {x : Str} (hN : X.N[i]? = some x := by rfl) (hv : Vis X.env.scope x := by first | exact Or.inl rfl | exact Or.inr (Or.inl rfl) | exact Or.inr (Or.inr rfl)) (hd : (x == ("__debug__" : Str)) = false := by decide)
    (hcd : (x == ("__classdict__" : Str)) = false := by decide) : PE X (.Name x pos) (tV F p (sAny i)) := (pe_var hN hv hd hcd).mimp fun σ H Q ⟨G, r, st, L, k⟩ => by
  unfold sAny at k
  split at k
  · rename_i d e
    obtain ⟨a, h1, h2, h3⟩ := L.ow i d e
    exact ⟨.ref a, h1, k (.ref a) H G L .refl (.inr ⟨a, _, rfl, h3, h2, fun _ => ⟨_, rfl⟩⟩)⟩
  · rename_i d ho e
    obtain ⟨v, h1, h2⟩ := L.vl i d e fun z q => ho z q
    exact ⟨v, h1, k v H G L .refl (.inl h2)⟩
  · exact k.elim
theorem de_int {i : Int} {j} : PE X (.Constant (.int i) j pos) (tD F p (sC (.int i))) := pe_int.mimp fun σ H Q ⟨G, r, st, L, k⟩ => k _ H G L .refl (.int i)
theorem de_bl {b : Bool} {j} : PE X (.Constant (.bool b) j pos) (tD F p (sC (.bl b))) := pe_bl.mimp fun σ H Q ⟨G, r, st, L, k⟩ => k _ H G L .refl (.bl b)
theorem de_non {j} : PE X (.Constant .none j pos) (tD F p (sC .non)) := pe_non.mimp fun σ H Q ⟨G, r, st, L, k⟩ => k _ H G L .refl .non
theorem de_str {x : Str} {s : List Nat} {j} (e : x = ⟨s.toArray⟩ := by rfl) : PE X (.Constant (.str x) j pos) (tD F p (sC (.str s))) := by
  subst e
  exact pe_str.mimp fun σ H Q ⟨G, r, st, L, k⟩ => k _ H G L .refl (.str s)
/-- a module's constant -/
theorem de_gint {x : Str} {i : Int} {t : Tok} (hg : Gl X x) (hm : X.mg x = some (.int i t)) (hd : (x == ("__debug__" : Str)) = false := by decide) : PE X (.Name x pos) (tD F p (sC (.int i))) :=
  (pe_glob (v := .int i) hg hm ⟨t, rfl⟩ hd).mimp fun σ H Q ⟨G, r, st, L, k⟩ => k _ H G L .refl (.int i)
end
end Mg
end
/-! ## DOps -/
section
set_option Elab.async false
set_option linter.all false
set_option maxRecDepth 100000
set_option maxHeartbeats 2500000
/-! The data layer: operators. -/
namespace Mg
open PySem PySem.Spec PyProof.Rows L2 GxR
/-- the context: what every rule wants of it -/
class CtxW (F : Fx) (X : Cx) : Prop where
  P : F.W.P = X.prog
  w : F.W.w = X.w
  K : F.W.K = X.K
  un : X.A.units + 100 < cLine
/-- .. where no exception is in hand -/
class Ctx (F : Fx) (X : Cx) : Prop extends CtxW F X where
  calm : X.calm = true
  hd : X.A.handled = none
theorem Ctx.of {F : Fx} {X : Cx} (P : F.W.P = X.prog) (w : F.W.w = X.w) (K : F.W.K = X.K) (calm : X.calm = true) (un : X.A.units + 100 < cLine) (hd : X.A.handled = none) : Ctx F X := { P := P, w := w, K := K, un := un, calm := calm, hd := hd }
/-! ### what stands for what -/
section
variable {F : Fx} {p : Bool} {G : Gh} {H : Hp} {v : V}
theorem RV.mono {F : Fx} {p : Bool} {G G' : Gh} {H H' : Hp} {v : V} {d : D} (h : RV F p G H v d) (e : Ev p G H G' H') : RV F p G' H' v d := by
  rcases h with h | ⟨a, q, rfl, ⟨o, ho, hq⟩, h3, h4⟩
  · exact .inl (R.mono e.s1 h)
  · refine .inr ⟨a, q, rfl, ?_⟩
    have : H' a = some o ∧ G'.rl a = G.rl a := by
      cases p with
      | true => exact e.eq rfl a o ho hq.ntbl
      | false =>
        obtain ⟨i, rfl⟩ := h4 rfl
        exact e.sl a o (fun n => by rw [h3]; simp) (fun n i => by rw [h3]; simp) ho hq.ntbl
    exact ⟨⟨o, this.1, Ob.mono e.s1 hq⟩, this.2.trans h3, h4⟩
theorem RV.int {i : Int} (h : RV F p G H v (.int i)) : v = .int i := by
  rcases h with h | ⟨a, q, rfl, ⟨o, _, h⟩, _⟩
  · cases h with
    | int => rfl
    | obj _ _ q => cases q
  · cases h
theorem RV.bl {i : Bool} (h : RV F p G H v (.bl i)) : v = .bl i := by
  rcases h with h | ⟨a, q, rfl, ⟨o, _, h⟩, _⟩
  · cases h with
    | bl => rfl
    | obj _ _ q => cases q
  · cases h
theorem RV.non (h : RV F p G H v .non) : v = .non := by
  rcases h with h | ⟨a, q, rfl, ⟨o, _, h⟩, _⟩
  · cases h with
    | non => rfl
    | obj _ _ q => cases q
  · cases h
theorem RV.str {s : List Nat} (h : RV F p G H v (.str s)) : v = .str ⟨s.toArray⟩ := by
  rcases h with h | ⟨a, q, rfl, ⟨o, _, h⟩, _⟩
  · cases h with
    | str => rfl
    | obj _ _ q => cases q
  · cases h
theorem RV.tup {l : List D} (h : RV F p G H v (.tup l)) : ∃ a xs, v = .ref a ∧ SqT F.W.K H a xs ∧ Rs F.W G H xs l := by
  rcases h with h | ⟨a, q, rfl, ⟨o, _, h⟩, _⟩
  · cases h with
    | tup h r => exact ⟨_, _, rfl, h, r⟩
    | obj _ _ q => cases q
  · cases h
theorem sqL_k {K : PySem.W.Frag} {a : Addr} {xs : List V} (h : SqL K (fun _ => none) a xs) : SqL K H a xs := by
  rcases h with (h | ⟨_, h⟩) | h
  · cases h
  · cases h
  · exact .inr h
theorem RV.seq {l : List D} (h : RV F p G H v (.lst l)) : ∃ a xs, v = .ref a ∧ SqL F.W.K H a xs ∧ Rs F.W G H xs l := by
  rcases h with h | ⟨a, q, rfl, ⟨o, h0, h⟩, _⟩
  · cases h with
    | obj _ h q => cases q with | lst r => exact ⟨_, _, rfl, .inl h, r⟩
    | kl h r => exact ⟨_, _, rfl, sqL_k h, r⟩
  · cases h with | lst r => exact ⟨_, _, rfl, .inl (.inl h0), r⟩
theorem RV.dic {t : Bool} {ks vs : List D} (h : RV F p G H v (.dic t ks vs)) : ∃ a o, v = .ref a ∧ Rd H a o ∧ Ob F.W G H a o (.dic t ks vs) := by
  rcases h with h | ⟨a, q, rfl, ⟨o, h0, h⟩, _⟩
  · cases h with
    | obj _ h q => exact ⟨_, _, rfl, h, q⟩
    | dic _ h q => exact ⟨_, _, rfl, .inr ⟨_, h⟩, q⟩
  · exact ⟨_, _, rfl, .inl h0, h⟩
theorem RV.box {n : Nat} (h : RV F p G H v (.box n)) : v = .ref (G.bx n) ∧ n < G.nb := by
  rcases h with h | ⟨a, q, rfl, ⟨o, h0, h⟩, _⟩
  · cases h with
    | obj _ h q => cases q
    | box _ h => exact ⟨rfl, h⟩
  · cases h
theorem RV.noOwn {d : D} (h : RV F p G H v (.own d)) : False := by
  rcases h with h | ⟨a, q, rfl, ⟨o, h0, h⟩, _⟩
  · cases h with
    | obj _ h q => cases q
  · cases h
theorem RV.st {l : List D} (h : RV F p G H v (.st l)) : ∃ a L ls, v = .ref a ∧ l = ls.map tupI ∧ H a = some (SetTO F.W.P F.W.w a L) ∧ (∀ p ∈ L, SqT F.W.K H p.1 (p.2.map V.int)) ∧ SetOk (L.map (·.2)) ls := by
  rcases h with h | ⟨a, q, rfl, ⟨o, h0, h⟩, _⟩
  · generalize e : D.st l = d at h
    cases h with
    | st h1 h2 h3 h4 =>
      cases e
      exact ⟨_, _, _, rfl, rfl, h2, h3, h4⟩
    | obj _ _ q => subst e; cases q
    | _ => cases e
  · cases h
end
/-! ### == -/
mutual
def D.py : D → PyData
  | .non => .none
  | .bl b => .bool b
  | .int i => .int i
  | .str s => .str ⟨s.toArray⟩
  | .tup l => .tuple (D.pys l)
  | .lst l => .list (D.pys l)
  | _ => .none
def D.pys : List D → List PyData
  | [] => []
  | x :: xs => D.py x :: D.pys xs
end
mutual
theorem dp_of {W : Wo} {G : Gh} {H : Hp} : ∀ {v : V} {d : D}, R W G H v d → d.pl = true → Dp W.K H v d.py
  | _, _, .non, _ => .non
  | _, _, .bl b, _ => .bl b
  | _, _, .int i, _ => .int i
  | _, _, .str s, _ => .str _
  | _, _, .tup h r, e => .tup h (dps_of r (by rw [D.pl] at e; exact e))
  | _, _, .dic _ _ _, e => by rw [D.pl] at e; cases e
  | _, _, .obj _ h o _, e => by
    cases o with
    | lst r => exact .lst (.inl h) (dps_of r (by rw [D.pl] at e; exact e))
    | dI => rw [D.pl] at e; cases e
    | dT => rw [D.pl] at e; cases e
  | _, _, .box _ _, e => by rw [D.pl] at e; cases e
  | _, _, .kl h r, e => .lst (sqL_k h) (dps_of r (by rw [D.pl] at e; exact e))
  | _, _, .st _ _ _ _, e => by rw [D.pl] at e; cases e
  | _, _, .fo _ _ _, e => by rw [D.pl] at e; cases e
  | _, _, .fn _ _ _ _ _, e => by rw [D.pl] at e; cases e
  | _, _, .er _ _ _ _, e => by rw [D.pl] at e; cases e
theorem dps_of {W : Wo} {G : Gh} {H : Hp} : ∀ {vs : List V} {ds : List D}, Rs W G H vs ds → D.pls ds = true → DpAll W.K H vs (D.pys ds)
  | _, _, .nil, _ => .nil
  | _, _, .cons h r, e => .cons (dp_of h (Bool.and_eq_true_iff.mp e).1) (dps_of r (Bool.and_eq_true_iff.mp e).2)
end
theorem plain_pl {d : D} (e : d.plain = true) : d.pl = true := (Bool.and_eq_true_iff.mp e).1
theorem plains_pls {d : List D} (e : D.plains d = true) : D.pls d = true := (Bool.and_eq_true_iff.mp e).1
theorem RV.dp {F : Fx} {p : Bool} {G : Gh} {H : Hp} {v : V} {d : D} (h : RV F p G H v d) (e : d.pl = true) : Dp F.W.K H v d.py := by
  rcases h with h | ⟨a, q, rfl, ⟨o, ho, h⟩, _⟩
  · exact dp_of h e
  · cases h with
    | lst r => exact .lst (.inl (.inl ho)) (dps_of r e)
    | dI => cases e
    | dT => cases e
mutual
theorem py_lay : ∀ (d : D), d.pl = true → d.py.canLay0 = true
  | .non, _ => rfl
  | .bl _, _ => rfl
  | .int _, _ => rfl
  | .str s, e => by
    have e : (s.all fun c => decide (c < 0x110000)) = true := e
    simp only [D.py, PyData.canLay0, PyData.strOk]
    simpa using e
  | .tup l, e => by
    rw [D.py, PyData.canLay0]
    exact pys_lay l e
  | .lst l, e => by
    rw [D.py, PyData.canLay0]
    exact pys_lay l e
  | .dic _ _ _, e => by cases e
  | .st _, e => by cases e
  | .box _, e => by cases e
  | .own _, e => by cases e
  | .err _ _, e => by cases e
  | .fo _, e => by cases e
  | .fn _ _, e => by cases e
theorem pys_lay : ∀ (l : List D), D.pls l = true → PyData.canLayAll0 (D.pys l) = true
  | [], _ => rfl
  | x :: xs, e => by
    rw [D.pys, PyData.canLayAll0, Bool.and_eq_true]
    exact ⟨py_lay x (Bool.and_eq_true_iff.mp e).1, pys_lay xs (Bool.and_eq_true_iff.mp e).2⟩
end
mutual
theorem py_depth : ∀ (d : D), d.py.depth ≤ d.dep
  | .non => Nat.le_refl _
  | .bl _ => Nat.le_refl _
  | .int _ => Nat.le_refl _
  | .str _ => Nat.le_refl _
  | .tup l => by
    rw [D.py, PyData.depth, D.dep]
    exact Nat.succ_le_succ (pys_depth l)
  | .lst l => by
    rw [D.py, PyData.depth, D.dep]
    exact Nat.succ_le_succ (pys_depth l)
  | .dic _ _ _ => Nat.le_refl _
  | .st _ => Nat.le_refl _
  | .box _ => Nat.le_refl _
  | .own _ => Nat.le_refl _
  | .err _ _ => Nat.le_refl _
  | .fo _ => Nat.le_refl _
  | .fn _ _ => Nat.le_refl _
theorem pys_depth : ∀ (l : List D), PyData.depthAll (D.pys l) ≤ D.deps l
  | [] => Nat.le_refl _
  | x :: xs => by
    rw [D.pys, PyData.depthAll, D.deps]
    have := py_depth x
    have := pys_depth xs
    omega
end
theorem py_shaped {d : D} (e : d.plain = true) : SeqAt.shaped d.py = true := by
  unfold SeqAt.shaped
  rw [Bool.and_eq_true]
  refine ⟨py_lay d (plain_pl e), decide_eq_true ?_⟩
  have := py_depth d
  have := of_decide_eq_true (Bool.and_eq_true_iff.mp e).2
  omega
theorem pys_shaped {l : List D} (e : D.plains l = true) : SeqAt.shaped (.list (D.pys l)) = true := by
  unfold SeqAt.shaped
  rw [Bool.and_eq_true]
  refine ⟨by rw [PyData.canLay0]; exact pys_lay l (plains_pls e), decide_eq_true ?_⟩
  rw [PyData.depth]
  have := pys_depth l
  have := of_decide_eq_true (Bool.and_eq_true_iff.mp e).2
  omega
theorem pys_shapedT {l : List D} (e : D.plains l = true) : SeqAt.shaped (.tuple (D.pys l)) = true := by
  unfold SeqAt.shaped
  rw [Bool.and_eq_true]
  refine ⟨by rw [PyData.canLay0]; exact pys_lay l (plains_pls e), decide_eq_true ?_⟩
  rw [PyData.depth]
  have := pys_depth l
  have := of_decide_eq_true (Bool.and_eq_true_iff.mp e).2
  omega
theorem str_eq (s t : List Nat) : ((⟨s.toArray⟩ : Str) == ⟨t.toArray⟩) = (s == t) := by
  rw [Bool.eq_iff_iff]
  simp [Str.mk.injEq]
mutual
theorem py_eqv : ∀ (a b : D), a.pl = true → b.pl = true → PyData.eqv a.py b.py = D.eq a b
  | .dic _ _ _, _, e, _ => by cases e
  | .st _, _, e, _ => by cases e
  | .box _, _, e, _ => by cases e
  | .own _, _, e, _ => by cases e
  | .err _ _, _, e, _ => by cases e
  | .fo _, _, e, _ => by cases e
  | .fn _ _, _, e, _ => by cases e
  | .non, b, _, h => by cases b <;> first | rfl | cases h
  | .bl a, b, _, h => by cases b <;> first | rfl | (cases a <;> rfl) | cases h
  | .int a, b, _, h => by cases b <;> first | rfl | (rename_i b; cases b <;> rfl) | cases h
  | .str a, b, _, h => by cases b <;> first | rfl | exact str_eq _ _ | cases h
  | .tup xs, b, ha, hb => by
    cases b with
    | tup ys =>
      rw [D.py, D.py, PyData.eqv, D.eq]
      exact pys_eqv xs ys ha hb
    | _ => first | rfl | cases hb
  | .lst xs, b, ha, hb => by
    cases b with
    | lst ys =>
      rw [D.py, D.py, PyData.eqv, D.eq]
      exact pys_eqv xs ys ha hb
    | _ => first | rfl | cases hb
theorem pys_eqv : ∀ (a b : List D), D.pls a = true → D.pls b = true → PyData.eqvAll (D.pys a) (D.pys b) = D.eqs a b
  | [], [], _, _ => rfl
  | [], _ :: _, _, _ => rfl
  | _ :: _, [], _, _ => rfl
  | x :: xs, y :: ys, ha, hb => by
    rw [D.pys, D.pys, PyData.eqvAll, D.eqs, py_eqv x y (Bool.and_eq_true_iff.mp ha).1 (Bool.and_eq_true_iff.mp hb).1, pys_eqv xs ys (Bool.and_eq_true_iff.mp ha).2 (Bool.and_eq_true_iff.mp hb).2]
end
theorem pys_any {d : D} (hd : d.pl = true) : ∀ {l : List D}, D.pls l = true → ((D.pys l).any fun z => PyData.eqv z d.py) = l.any fun y => D.eq y d
  | [], _ => rfl
  | x :: xs, e => by
    rw [D.pys, List.any_cons, List.any_cons, py_eqv x d (Bool.and_eq_true_iff.mp e).1 hd, pys_any hd (Bool.and_eq_true_iff.mp e).2]
end Mg
end
/-! ## DOp2 -/
section
set_option Elab.async false
set_option linter.all false
set_option maxRecDepth 100000
set_option maxHeartbeats 2500000
namespace Mg
open PySem PySem.Spec PyProof.Rows L2 GxR
theorem line_eq : line = sizeLine := by rw [sizeLine_eq]; rfl
/-! ### new tuples and lists -/
section
variable {F : Fx} {G : Gh} {r : Env} {st : Sto} {σ : L2.St} {H : Hp} {a : Addr} {xs : List V} {ds : List D} {Q : VK}
theorem new_tup (L : Rel F G r st σ H) (hn : H a = none) (q : Rs F.W G H xs ds) (k : ∀ v H' G', Rel F G' r st σ H' → Ev true G H G' H' → R F.W G' H' v (.tup ds) → Q v H') : Q (.ref a) (upd H a (.tup xs)) :=
  k (.ref a) _ G (L.lay hn) (Ev.lay hn) (.tup (.inl (.inl (upd_same))) (Rs.mono (.lay hn) q))
theorem new_lst (L : Rel F G r st σ H) (hn : H a = none) (q : Rs F.W G H xs ds) (k : ∀ v H' G', Rel F G' r st σ H' → Ev true G H G' H' → R F.W G' H' v (.lst ds) → Q v H') : Q (.ref a) (upd H a (.lst xs)) :=
  fresh_fz (L.lay hn) (Ev.lay hn) hn (L.noRole hn) ⟨_, upd_same, .lst (Rs.mono (.lay hn) q)⟩ rfl k
end
/-- the values' operation r serves f -/
def OpD (F : Fx) (f : Sto → D → D → Option D) (r : R2) : Prop :=
  ∀ {p : Bool} {G : Gh} {rr : Env} {st : Sto} {σ : L2.St} {H : Hp} {x y : V} {dx dy d : D} {Q : VK}, Rel F G rr st σ H → RV F p G H x dx → RV F p G H y dy → f st dx dy = some d →
    (∀ v H' G', Rel F G' rr st σ H' → Ev true G H G' H' → R F.W G' H' v d → Q v H') → r x y H Q
def UnD (F : Fx) (f : Sto → D → Option D) (r : V → Hp → VK → Prop) : Prop :=
  ∀ {p : Bool} {G : Gh} {rr : Env} {st : Sto} {σ : L2.St} {H : Hp} {x : V} {dx d : D} {Q : VK}, Rel F G rr st σ H → RV F p G H x dx → f st dx = some d →
    (∀ v H' G', Rel F G' rr st σ H' → Ev true G H G' H' → R F.W G' H' v d → Q v H') → r x H Q
section
variable {X : Cx} {F : Fx} {p : Bool} {a b : Expr} {φ ψ : Ex} {pos : Pos}
/-- tV's first step -/
theorem postV_bind {r : Env} {σ : L2.St} {G : Gh} {H : Hp} {m : Res (D × Sto)} {f : D × Sto → Res (D × Sto)} {Q Q' : VK} (h : Post F p r σ G H (m.bind f) Q)
    (k : ∀ x v H' G', m = .ok x → Rel F G' r x.2 σ H' → Ev p G H G' H' → RV F p G' H' v x.1 → Post F p r σ G' H' (f x) Q → Q' v H') : PostV F p r σ G H m Q' := by
  cases m with
  | ok x => exact fun v H' G' L' e hv => k x v H' G' rfl L' e hv (Post.adv h e)
  | exn c fs st => exact h
  | bad => exact h
theorem post_of {r : Env} {σ : L2.St} {G : Gh} {H : Hp} {o : Option D} {st : Sto} {Q : VK} (h : Post F p r σ G H ((Res.of o).bind fun d => .ok (d, st)) Q) : ∃ d, o = some d ∧ Post F p r σ G H (.ok (d, st)) Q := by
  cases o with
  | none => exact h.elim
  | some d => exact ⟨d, rfl, h⟩
theorem bin_ok {f : Sto → D → D → Option D} {r : R2} (hd : OpD F f r) {σ : L2.St} {H : Hp} {Q : VK} (h : tD F p (sOpS2 f φ ψ) σ H Q) : tOp r (tV F p φ) (tV F p ψ) σ H Q := by
  obtain ⟨G, rr, st, L, k⟩ := h
  refine ⟨G, rr, st, L, postV_bind k fun x v H1 G1 e1 L1 ev1 hx k1 => ?_⟩
  refine ⟨G1, rr, x.2, L1, postV_bind k1 fun y u H2 G2 e2 L2 ev2 hy k2 => ?_⟩
  obtain ⟨d, e, k2⟩ := post_of k2
  exact hd L2 (hx.mono ev2) hy e fun v' H' G' L' ev hr => k2 v' H' G' L' ev.low hr
theorem un_ok {f : Sto → D → Option D} {r : V → Hp → VK → Prop} (hd : UnD F f r) {σ : L2.St} {H : Hp} {Q : VK} (h : tD F p (sOpS1 f φ) σ H Q) : tUn r (tV F p φ) σ H Q := by
  obtain ⟨G, rr, st, L, k⟩ := h
  refine ⟨G, rr, st, L, postV_bind k fun x v H1 G1 e1 L1 ev1 hx k1 => ?_⟩
  obtain ⟨d, e, k2⟩ := post_of k1
  exact hd L1 hx e fun v' H' G' L' ev hr => k2 v' H' G' L' ev.low hr
theorem de_op {op : Operator} {f : D → D → Option D} {r : R2} (ho : OpR X (binaryOp op) r) (hd : OpD F (fun _ => f) r) (ha : PE X a (tV F p φ)) (hb : PE X b (tV F p ψ)) : PE X (.BinOp a op b pos) (tD F p (sOp2 f φ ψ)) :=
  (pe_op ho ha hb).mimp fun _ _ _ h => bin_ok (f := fun _ => f) hd h
theorem de_un {op : UnaryOp} {f : D → Option D} {r : V → Hp → VK → Prop} (ho : UnR X (unaryOp op) r) (hd : UnD F (fun _ => f) r) (ha : PE X a (tV F p φ)) : PE X (.UnaryOp op a pos) (tD F p (sOp1 f φ)) :=
  (pe_un ho ha).mimp fun _ _ _ h => un_ok (f := fun _ => f) hd h
theorem de_cmp {op : CmpOp} {f : D → D → Option D} {r : R2} (ho : OpR X (compareOp op) r) (hd : OpD F (fun _ => f) r) (ha : PE X a (tV F p φ)) (hb : PE X b (tV F p ψ)) (hm : behindInMarks op b = false := by with_unfolding_all rfl) : PE X (.Compare a [op] [b] pos) (tD F p (sOp2 f φ ψ)) :=
  (pe_cmpR ho ha hb hm).mimp fun _ _ _ h => bin_ok (f := fun _ => f) hd h
theorem de_ix {f : Sto → D → D → Option D} {r : R2} (ho : IxR X r) (hd : OpD F f r) (ha : PE X a (tV F p φ)) (hb : PE X b (tV F p ψ)) (hs : PlainIx b := by intro _ _; rfl) : PE X (.Subscript a b pos) (tD F p (sOpS2 f φ ψ)) :=
  (pe_ix ho ha hb hs).mimp fun _ _ _ h => bin_ok hd h
/-- an operation that tells a bool, as a test -/
def BlF (f : Sto → D → D → Option D) : Prop := ∀ st x y d, f st x y = some d → ∃ b, d = .bl b
theorem tst_ok {f : Sto → D → D → Option D} {r : R2} (hb : BlF f) (hd : OpD F f r) {σ : L2.St} {H : Hp} {Q : Bool → Hp → Prop} (h : tT F p (tTru (sOpS2 f φ ψ)) σ H Q) : tTest (tOp r (tV F p φ) (tV F p ψ)) σ H Q := by
  obtain ⟨G, rr, st, L, k⟩ := h
  refine bin_ok hd ⟨G, rr, st, L, ?_⟩
  unfold tTru at k
  revert k
  generalize hm : sOpS2 f φ ψ rr st = m
  intro k
  cases m with
  | bad => exact k
  | exn c fs st' => exact k
  | ok x =>
    intro v H' G' L' ev hr
    have hx : ∃ b, x.1 = .bl b := by
      unfold sOpS2 at hm
      generalize φ rr st = m1 at hm
      cases m1 with
      | bad => cases hm
      | exn => cases hm
      | ok x1 =>
        simp only [Res.ok_bind] at hm
        generalize ψ rr x1.2 = m2 at hm
        cases m2 with
        | bad => cases hm
        | exn => cases hm
        | ok x2 =>
          simp only [Res.ok_bind] at hm
          cases ho : f x2.2 x1.1 x2.1 with
          | none => rw [ho] at hm; cases hm
          | some d =>
            rw [ho] at hm
            cases hm
            exact hb _ _ _ _ ho
    obtain ⟨b, eb⟩ := hx
    obtain ⟨d, st'⟩ := x
    simp only at eb
    subst eb
    exact ⟨b, RV.bl (F := F) (p := p) (.inl hr), k H' G' L' ev⟩
theorem dt_cmp {op : CmpOp} {f : D → D → Option D} {r : R2} (ho : OpR X (compareOp op) r) (hd : OpD F (fun _ => f) r) (hB : BlF fun _ => f) (ha : PE X a (tV F p φ)) (hb : PE X b (tV F p ψ)) (hm : behindInMarks op b = false := by with_unfolding_all rfl) :
    PT X (.Compare a [op] [b] pos) (tT F p (tTru (sOp2 f φ ψ))) :=
  (pt_cmpR ho ha hb hm).mimp fun _ _ _ h => tst_ok (f := fun _ => f) hB hd h
end
/-! ### the links -/
section
variable {F : Fx}
/-- list + list, data -/
def rCatR (K : PySem.W.Frag) : R2 := fun x y H Q => ∃ l b xs zs, x = .ref l ∧ y = .ref b ∧ SqL K H l xs ∧ SqL K H b zs ∧ xs.length + zs.length ≤ sizeLine ∧ ∀ p, H p = none → Q (.ref p) (upd H p (.lst (xs ++ zs)))
theorem op_catR {X : Cx} : OpR X (binaryOp .Add) (rCatR X.K) := fun pins s σ H x y v u Q I rx ry ⟨l, b, xs, zs, ex, ey, h1, h2, hz, q⟩ => by
  subst ex ey
  cases rx
  cases ry
  obtain ⟨us, r, p, _⟩ := I.list h1
  obtain ⟨ws, r', p', _⟩ := I.list h2
  obtain ⟨⟨_, d, _, sl⟩, o, rfl, n, rfl⟩ := p.isList
  obtain ⟨⟨_, d', _, sl'⟩, o', rfl, n', rfl⟩ := p'.isList
  have fit : us.toArray.size + ws.toArray.size ≤ sizeLine := by rw [List.size_toArray, List.size_toArray, ← r.length, ← r'.length]; exact hz
  have new := I.lnew (t' := s.toks) (r.append r') (by rw [List.length_append]; exact hz)
  refine concat_meets ⟨_, o, rfl⟩ ⟨_, o', rfl⟩ noFill_list_add seq_list_add PySem.F.slot_list_add PySem.F.entry_list_add (PySem.F.args_list_add_2 _ _) (list_addW l b us.toArray ws.toArray n n' d d' sl sl' fit) ⟨o, o', ?_⟩
  rw [List.append_toArray]
  exact ⟨.ref _, _, new, rfl, q _ I.fresh⟩
/-- the four kinds of + -/
def rAddD (K : PySem.W.Frag) : R2 := fun x y H Q => rI0 (fun i j => .int (i + j)) x y H Q ∨ rCatA K x y H Q ∨ rCatR K x y H Q ∨ ∃ i j, x = .str i ∧ y = .str j ∧ i.length + j.length ≤ sizeLine ∧ Q (.str (i ++ j)) H
theorem op_addD {X : Cx} : OpR X (binaryOp .Add) (rAddD X.K) := op_add.or (op_catA.or (op_catR.or op_add_str))
theorem str_app (s t : List Nat) : (⟨s.toArray⟩ : Str) ++ (⟨t.toArray⟩ : Str) = ⟨(s ++ t).toArray⟩ := by
  show (⟨s.toArray ++ t.toArray⟩ : Str) = _
  simp
theorem str_len (s : List Nat) : (⟨s.toArray⟩ : Str).length = s.length := by
  show s.toArray.size = _
  simp
theorem link_add : OpD F (fun _ => opAdd) (rAddD F.W.K) := by
  intro p G rr st σ H x y dx dy d Q L hx hy e q
  cases dx <;> cases dy <;> (try (simp [opAdd] at e; done))
  · obtain rfl := hx.int; obtain rfl := hy.int
    simp only [opAdd, Option.some.injEq] at e
    subst e
    exact .inl ⟨_, _, rfl, rfl, q _ _ _ L .refl (.int _)⟩
  · obtain rfl := hx.str; obtain rfl := hy.str
    simp only [opAdd] at e
    split at e
    · rename_i hl
      cases e
      rw [List.length_append, line_eq] at hl
      refine .inr (.inr (.inr ⟨_, _, rfl, rfl, by rw [str_len, str_len]; exact hl, ?_⟩))
      rw [str_app]
      exact q _ _ _ L .refl (.str _)
    · cases e
  · obtain ⟨a, xs, rfl, h1, r1⟩ := hx.tup
    obtain ⟨b, ys, rfl, h2, r2⟩ := hy.tup
    simp only [opAdd] at e
    split at e
    · rename_i hl
      cases e
      rw [List.length_append, line_eq] at hl
      refine .inr (.inl ⟨a, b, xs, ys, rfl, rfl, h1, h2, by rw [r1.length, r2.length]; exact hl, fun h => ?_, fun _ h => ?_, fun _ _ pp hp => new_tup L hp (r1.append r2) q⟩)
      · subst h
        cases r1
        exact q _ _ _ L .refl (.tup h2 r2)
      · subst h
        cases r2
        exact q _ _ _ L .refl (.tup h1 (by rw [List.append_nil]; exact r1))
    · cases e
  · obtain ⟨a, xs, rfl, h1, r1⟩ := hx.seq
    obtain ⟨b, ys, rfl, h2, r2⟩ := hy.seq
    simp only [opAdd] at e
    split at e
    · rename_i hl
      cases e
      rw [List.length_append, line_eq] at hl
      exact .inr (.inr (.inl ⟨a, b, xs, ys, rfl, rfl, h1, h2, by rw [r1.length, r2.length]; exact hl, fun pp hp => new_lst L hp (r1.append r2) q⟩))
    · cases e
/-- operations on two whole numbers -/
theorem link_I {C : Int → Int → Prop} {g : Int → Int → Int} {f : D → D → Option D} (h : ∀ x y d, f x y = some d → ∃ i j, x = .int i ∧ y = .int j ∧ C i j ∧ d = .int (g i j)) : OpD F (fun _ => f) (rI C fun i j => .int (g i j)) := by
  intro p G rr st σ H x y dx dy d Q L hx hy e q
  obtain ⟨i, j, rfl, rfl, hc, rfl⟩ := h _ _ _ e
  obtain rfl := hx.int; obtain rfl := hy.int
  exact ⟨i, j, rfl, rfl, hc, q _ _ _ L .refl (.int _)⟩
theorem link_I0 {g : Int → Int → Int} {f : D → D → Option D} (h : ∀ x y d, f x y = some d → ∃ i j, x = .int i ∧ y = .int j ∧ d = .int (g i j)) : OpD F (fun _ => f) (rI0 fun i j => .int (g i j)) := by
  intro p G rr st σ H x y dx dy d Q L hx hy e q
  obtain ⟨i, j, rfl, rfl, rfl⟩ := h _ _ _ e
  obtain rfl := hx.int; obtain rfl := hy.int
  exact ⟨i, j, rfl, rfl, q _ _ _ L .refl (.int _)⟩
theorem link_B0 {g : Int → Int → Bool} {f : D → D → Option D} (h : ∀ x y d, f x y = some d → ∃ i j, x = .int i ∧ y = .int j ∧ d = .bl (g i j)) : OpD F (fun _ => f) (rI0 fun i j => .bl (g i j)) := by
  intro p G rr st σ H x y dx dy d Q L hx hy e q
  obtain ⟨i, j, rfl, rfl, rfl⟩ := h _ _ _ e
  obtain rfl := hx.int; obtain rfl := hy.int
  exact ⟨i, j, rfl, rfl, q _ _ _ L .refl (.bl _)⟩
theorem small_lt {i : Int} (h : small i = true) : i.natAbs < 2 ^ 64 := of_decide_eq_true h
theorem link_sub : OpD F (fun _ => opSub) (rI0 fun i j => .int (i - j)) := link_I0 (g := fun i j => i - j) fun x y d e => by
  cases x <;> cases y <;> (try (simp [opSub] at e; done))
  simp only [opSub, Option.some.injEq] at e
  exact ⟨_, _, rfl, rfl, e.symm⟩
theorem link_div : OpD F (fun _ => opDiv) (rI CDiv fun i j => .int (i / j)) := link_I (g := fun i j => i / j) fun x y d e => by
  cases x <;> cases y <;> (try (simp [opDiv] at e; done))
  simp only [opDiv] at e
  split at e
  · rename_i h
    exact ⟨_, _, rfl, rfl, h, (Option.some.inj e).symm⟩
  · cases e
theorem link_mod : OpD F (fun _ => opMod) (rI (fun _ j => 0 < j) fun i j => .int (i % j)) := link_I (g := fun i j => i % j) fun x y d e => by
  cases x <;> cases y <;> (try (simp [opMod] at e; done))
  simp only [opMod] at e
  split at e
  · rename_i h
    exact ⟨_, _, rfl, rfl, h, (Option.some.inj e).symm⟩
  · cases e
theorem link_pow : OpD F (fun _ => opPow) (rI CPow fun i j => .int (i ^ j.toNat)) := link_I (g := fun i j => i ^ j.toNat) fun x y d e => by
  cases x <;> cases y <;> (try (simp [opPow] at e; done))
  simp only [opPow] at e
  split at e
  · rename_i h
    exact ⟨_, _, rfl, rfl, ⟨h.1, by have := h.2.1; omega, small_lt h.2.2⟩, (Option.some.inj e).symm⟩
  · cases e
theorem link_shl : OpD F (fun _ => opShl) (rI CPow fun i j => .int (i * 2 ^ j.toNat)) := link_I (g := fun i j => i * 2 ^ j.toNat) fun x y d e => by
  cases x <;> cases y <;> (try (simp [opShl] at e; done))
  simp only [opShl] at e
  split at e
  · rename_i h
    exact ⟨_, _, rfl, rfl, ⟨h.1, by have := h.2.1; omega, small_lt h.2.2⟩, (Option.some.inj e).symm⟩
  · cases e
theorem link_shr : OpD F (fun _ => opShr) (rI (fun _ j => 0 ≤ j) fun i j => .int (i / 2 ^ j.toNat)) := link_I (g := fun i j => i / 2 ^ j.toNat) fun x y d e => by
  cases x <;> cases y <;> (try (simp [opShr] at e; done))
  simp only [opShr] at e
  split at e
  · rename_i h
    exact ⟨_, _, rfl, rfl, h, (Option.some.inj e).symm⟩
  · cases e
theorem bitAnd_pp {x y : Int} (hx : 0 ≤ x) (hy : 0 ≤ y) : Builtin.bitAnd x y = ((x.toNat &&& y.toNat : Nat) : Int) := by
  unfold Builtin.bitAnd
  simp [hx, hy]
theorem link_and : OpD F (fun _ => opAnd) (rI0 fun i j => .int (Builtin.bitAnd i j)) := link_I0 (g := Builtin.bitAnd) fun x y d e => by
  cases x <;> cases y <;> (try (simp [opAnd] at e; done))
  simp only [opAnd] at e
  split at e
  · rename_i h
    exact ⟨_, _, rfl, rfl, by rw [bitAnd_pp h.1 h.2]; exact (Option.some.inj e).symm⟩
  · cases e
theorem link_xor : OpD F (fun _ => opXor) (rI0 fun i j => .int (Builtin.bitXor i j)) := link_I0 (g := Builtin.bitXor) fun x y d e => by
  cases x <;> cases y <;> (try (simp [opXor] at e; done))
  simp only [opXor] at e
  split at e
  · rename_i h
    exact ⟨_, _, rfl, rfl, by rw [Bits.bitXor_pp h.1 h.2]; exact (Option.some.inj e).symm⟩
  · cases e
theorem link_neg : UnD F (fun _ => opNeg) (rU fun i => .int (-i)) := by
  intro p G rr st σ H x dx d Q L hx e q
  cases dx <;> (try (simp [opNeg] at e; done))
  obtain rfl := hx.int
  simp only [opNeg, Option.some.injEq] at e
  subst e
  exact ⟨_, rfl, q _ _ _ L .refl (.int _)⟩
theorem link_cInt {g : Int → Int → Bool} : OpD F (fun _ => cInt g) (rI0 fun i j => .bl (g i j)) := link_B0 fun x y d e => by
  cases x <;> cases y <;> (try (simp [cInt] at e; done))
  simp only [cInt, Option.some.injEq] at e
  exact ⟨_, _, rfl, rfl, e.symm⟩
theorem small_mul {a b : Int} (h : (small a || small b) = true) : CMul a b := by
  rw [Bool.or_eq_true] at h
  rcases h with h | h
  · have := small_lt h
    exact .inl (by omega)
  · have := small_lt h
    exact .inr (by omega)
theorem link_mul : OpD F (fun _ => opMul) (rI CMul fun i j => .int (i * j)) := link_I (g := fun i j => i * j) fun x y d e => by
  cases x <;> cases y <;> (try (simp [opMul] at e; done))
  simp only [opMul] at e
  split at e
  · rename_i h
    exact ⟨_, _, rfl, rfl, small_mul h, (Option.some.inj e).symm⟩
  · cases e
theorem link_eq : OpD F (fun _ => cEq) (rEqD F.W.K) := by
  intro p G rr st σ H x y dx dy d Q L hx hy e q
  simp only [cEq] at e
  split at e
  · rename_i h
    rw [Bool.and_eq_true] at h
    cases e
    exact ⟨_, _, hx.dp (plain_pl h.1), hy.dp (plain_pl h.2), py_shaped h.1, py_shaped h.2, by rw [py_eqv _ _ (plain_pl h.1) (plain_pl h.2)]; exact q _ _ _ L .refl (.bl _)⟩
  · cases e
theorem link_ne : OpD F (fun _ => cNe) (rNeD F.W.K) := by
  intro p G rr st σ H x y dx dy d Q L hx hy e q
  simp only [cNe] at e
  split at e
  · rename_i h
    rw [Bool.and_eq_true] at h
    cases e
    exact ⟨_, _, hx.dp (plain_pl h.1), hy.dp (plain_pl h.2), py_shaped h.1, py_shaped h.2, by rw [py_eqv _ _ (plain_pl h.1) (plain_pl h.2)]; exact q _ _ _ L .refl (.bl _)⟩
  · cases e
end
end Mg
end
/-! ## DOp3 -/
section
set_option Elab.async false
set_option linter.all false
set_option maxRecDepth 100000
set_option maxHeartbeats 2500000
namespace Mg
open PySem PySem.Spec PyProof.Rows L2 GxR
theorem isInt_of {d : D} (h : d.isInt = true) : ∃ i, d = .int i := by
  cases d <;> first | exact ⟨_, rfl⟩ | cases h
theorem rs_ints {W : Wo} {G : Gh} {H : Hp} : ∀ {xs : List V} {ds : List D}, Rs W G H xs ds → ds.all D.isInt = true → ∃ ns : List Int, xs = ns.map V.int ∧ ds = ns.map D.int
  | _, _, .nil, _ => ⟨[], rfl, rfl⟩
  | _, _, .cons h r, e => by
    rw [List.all_cons, Bool.and_eq_true] at e
    obtain ⟨i, rfl⟩ := isInt_of e.1
    obtain ⟨ns, rfl, rfl⟩ := rs_ints r e.2
    cases h with
    | int => exact ⟨i :: ns, rfl, rfl⟩
    | obj _ _ q => cases q
theorem lts_ints : ∀ ns ms : List Int, D.lts (ns.map D.int) (ms.map D.int) = HT.lexLt ns ms
  | [], [] => rfl
  | [], _ :: _ => rfl
  | _ :: _, [] => rfl
  | n :: ns, m :: ms => by
    show (if (n == m) = true then D.lts (ns.map D.int) (ms.map D.int) else decide (n < m)) = _
    rw [HT.lexLt_cons, lts_ints ns ms]
    by_cases h : n = m <;> simp [h]
theorem lexLe_lt : ∀ ns ms : List Int, lexLeI ns ms = !HT.lexLt ms ns
  | [], [] => rfl
  | [], _ :: _ => rfl
  | _ :: _, [] => rfl
  | n :: ns, m :: ms => by
    rw [HT.lexLt_cons]
    show (if n = m then lexLeI ns ms else decide (n ≤ m)) = _
    rw [lexLe_lt ns ms]
    by_cases h : n = m
    · simp [h]
    · have h' : m ≠ n := fun e => h e.symm
      simp only [h, h', if_false]
      by_cases q : n ≤ m
      · have : ¬ m < n := by omega
        simp [q, this]
      · have : m < n := by omega
        simp [q, this]
theorem lexAt_shift (e r : Nat → Bool) (z : Bool) : ∀ (k i : Nat), Ob.lexAt e r z (i + 1) k = Ob.lexAt (fun j => e (j + 1)) (fun j => r (j + 1)) z i k
  | 0, _ => rfl
  | k + 1, i => by
    rw [Ob.lexAt_succ, Ob.lexAt_succ, lexAt_shift e r z k (i + 1)]
theorem lexAt_le : ∀ ns ms : List Int, Ob.lexAt (fun j => decide (ns.getD j 0 = ms.getD j 0)) (fun j => decide (ns.getD j 0 ≤ ms.getD j 0)) (decide (ns.length ≤ ms.length)) 0 (min ns.length ms.length) = lexLeI ns ms
  | [], ms => by
    rw [show min ([] : List Int).length ms.length = 0 from Nat.zero_min _]
    show decide (0 ≤ ms.length) = true
    simp
  | n :: ns, [] => by
    show decide (ns.length + 1 ≤ 0) = false
    simp
  | n :: ns, m :: ms => by
    rw [show min (n :: ns).length (m :: ms).length = min ns.length ms.length + 1 from Nat.succ_min_succ _ _, Ob.lexAt_succ, lexAt_shift]
    have h := lexAt_le ns ms
    have hz : decide ((n :: ns).length ≤ (m :: ms).length) = decide (ns.length ≤ ms.length) := by simp
    rw [hz]
    show (if decide (n = m) = true then _ else decide (n ≤ m)) = if n = m then lexLeI ns ms else decide (n ≤ m)
    by_cases q : n = m
    · rw [if_pos (decide_eq_true q), if_pos q]
      exact h
    · rw [if_neg (by simp [q]), if_neg q]
section
variable {F : Fx} {X : Cx}
def rLtD (K : PySem.W.Frag) : R2 := fun x y H Q => rI0 (fun i j => .bl (decide (i < j))) x y H Q ∨ rLtT K x y H Q
theorem op_ltD [C : CtxW F X] : OpR X (compareOp .Lt) (rLtD X.K) := op_lt.or (op_ltT (by have := C.un; omega))
theorem link_lt : OpD F (fun _ => cLt) (rLtD F.W.K) := by
  intro p G rr st σ H x y dx dy d Q L hx hy e q
  cases dx <;> cases dy <;> (try (simp [cLt] at e; done))
  · obtain rfl := hx.int; obtain rfl := hy.int
    simp only [cLt, Option.some.injEq] at e
    subst e
    exact .inl ⟨_, _, rfl, rfl, q _ _ _ L .refl (.bl _)⟩
  · obtain ⟨a, xs, rfl, h1, r1⟩ := hx.tup
    obtain ⟨b, ys, rfl, h2, r2⟩ := hy.tup
    simp only [cLt] at e
    split at e
    · rename_i hl
      rw [Bool.and_eq_true] at hl
      cases e
      obtain ⟨ns, rfl, rfl⟩ := rs_ints r1 hl.1
      obtain ⟨ms, rfl, rfl⟩ := rs_ints r2 hl.2
      exact .inr ⟨a, b, ns, ms, rfl, rfl, h1, h2, by rw [← lts_ints]; exact q _ _ _ L .refl (.bl _)⟩
    · cases e
def rLeD (K : PySem.W.Frag) : R2 := fun x y H Q => rI0 (fun i j => .bl (decide (i ≤ j))) x y H Q ∨ rLeT K x y H Q
theorem op_leD [C : CtxW F X] : OpR X (compareOp .LtE) (rLeD X.K) := op_le.or (op_leT (by have := C.un; omega))
theorem link_le : OpD F (fun _ => cLe) (rLeD F.W.K) := by
  intro p G rr st σ H x y dx dy d Q L hx hy e q
  cases dx <;> cases dy <;> (try (simp [cLe] at e; done))
  · obtain rfl := hx.int; obtain rfl := hy.int
    simp only [cLe, Option.some.injEq] at e
    subst e
    exact .inl ⟨_, _, rfl, rfl, q _ _ _ L .refl (.bl _)⟩
  · obtain ⟨a, xs, rfl, h1, r1⟩ := hx.tup
    obtain ⟨b, ys, rfl, h2, r2⟩ := hy.tup
    simp only [cLe] at e
    split at e
    · rename_i hl
      rw [Bool.and_eq_true] at hl
      cases e
      obtain ⟨ns, rfl, rfl⟩ := rs_ints r1 hl.1
      obtain ⟨ms, rfl, rfl⟩ := rs_ints r2 hl.2
      exact .inr ⟨a, b, ns, ms, rfl, rfl, h1, h2, by rw [lexAt_le, lexLe_lt, ← lts_ints]; exact q _ _ _ L .refl (.bl _)⟩
    · cases e
end
/-! ### slices -/
theorem sIx_end (n d : Nat) (o : Option Int) : HT.sIx n d o = endIx n d o := by
  cases o with
  | none => rfl
  | some i =>
    unfold HT.sIx endIx
    by_cases h : i < 0
    · simp only [h, if_true]
      try omega
    · simp only [h, if_false]
      try omega
theorem place_ix (n : Nat) (i : Int) : place n i = ixN n i := rfl
section
variable {F : Fx} {W : Wo} {G : Gh} {H : Hp}
theorem Rs.cut {xs : List V} {ds : List D} (r : Rs W G H xs ds) (lo hi : Option Int) : Rs W G H (cutV xs lo hi) (cutL ds lo hi) := by
  unfold cutV cutL
  rw [sIx_end, sIx_end, r.length]
  exact Rs.take _ (Rs.drop _ r)
theorem Rs.at {xs : List V} {ds : List D} {i : Int} {d : D} (r : Rs W G H xs ds) (e : atIx ds i = some d) : ∃ v, atI xs i = some v ∧ R W G H v d := by
  unfold atIx at e
  unfold atI
  rw [← r.length, place_ix] at e
  cases h : ixN xs.length i with
  | none => rw [h] at e; cases e
  | some j =>
    rw [h] at e
    exact Rs.get r e
end
section
variable {F : Fx} {X : Cx} {p : Bool} {φ ψ χ : Ex} {e : Expr} {pos p2 : Pos}
def rSlD (K : PySem.W.Frag) : V → Option Int → Option Int → Hp → VK → Prop := fun x lo hi H Q => rSlA K x lo hi H Q ∨ rSlL K x lo hi H Q
theorem sl_D : SlR X (rSlD X.K) := sl_tupA.or sl_list
theorem cutL_whole {ds : List D} {lo hi : Option Int} (h1 : endIx ds.length 0 lo = 0) (h2 : endIx ds.length ds.length hi = ds.length) : cutL ds lo hi = ds := by
  unfold cutL
  rw [h1, h2]
  simp
theorem link_sl {G : Gh} {rr : Env} {st : Sto} {σ : L2.St} {H : Hp} {x : V} {dx d : D} {lo hi : Option Int} {Q : VK} (L : Rel F G rr st σ H) (hx : RV F p G H x dx) (e : opSl lo hi dx = some d)
    (q : ∀ v H' G', Rel F G' rr st σ H' → Ev true G H G' H' → R F.W G' H' v d → Q v H') : rSlD F.W.K x lo hi H Q := by
  cases dx <;> (try (simp [opSl] at e; done))
  · obtain ⟨a, xs, rfl, h1, r1⟩ := hx.tup
    simp only [opSl, Option.some.injEq] at e
    subst e
    refine .inl ⟨a, xs, rfl, h1, fun ⟨z1, z2⟩ => ?_, fun _ pp hp => new_tup L hp (r1.cut lo hi) q⟩
    rw [sIx_end, r1.length] at z1 z2
    exact q _ _ _ L .refl (.tup h1 (by rw [cutL_whole z1 z2]; exact r1))
  · obtain ⟨a, xs, rfl, h1, r1⟩ := hx.seq
    simp only [opSl, Option.some.injEq] at e
    subst e
    exact .inr ⟨a, xs, rfl, h1, fun pp hp => new_lst L hp (r1.cut lo hi) q⟩
/-- the ends of a slice -/
abbrev Pt := Env → Sto → Res (Option Int × Sto)
def sEnd0 : Pt := fun _ st => .ok (none, st)
def sEnd (a : Ex) : Pt := fun r st => (a r st).bind fun y => match y.1 with | .int i => .ok (some i, y.2) | _ => .bad
def sSlice (a : Ex) (lo hi : Pt) : Ex := fun r st => (a r st).bind fun x => (lo r x.2).bind fun l => (hi r l.2).bind fun h => (Res.of (opSl l.1 h.1 x.1)).bind fun d => .ok (d, h.2)
def PostO (F : Fx) (p : Bool) (r : Env) (σ : L2.St) (G : Gh) (H : Hp) (m : Res (Option Int × Sto)) (Q : Option Int → Hp → Prop) : Prop := match m with
  | .ok x => ∀ H' G', Rel F G' r x.2 σ H' → Ev p G H G' H' → Q x.1 H'
  | .exn c fs st' => ∀ H' G', Rel F G' r st' σ H' → Ev p G H G' H' → F.ex c fs st' G' σ H'
  | .bad => False
def tO (F : Fx) (p : Bool) (φ : Pt) : TO := fun σ H Q => ∃ G r st, Rel F G r st σ H ∧ PostO F p r σ G H (φ r st) Q
theorem _root_.L2.PO.mimp {X : Cx} {e : Option Expr} {t t' : TO} (h : PO X e t) (k : ∀ σ H Q, t' σ H Q → t σ H Q) : PO X e t' := ⟨fun pins s σ H Q I q => h.run pins s σ H Q I (k σ H Q q)⟩
theorem do_none : PO X none (tO F p sEnd0) := po_none.mimp fun σ H Q ⟨G, r, st, L, k⟩ => k H G L .refl
theorem do_some (h : PE X e (tV F p φ)) : PO X (some e) (tO F p (sEnd φ)) := (po_some h).mimp fun σ H Q ⟨G, r, st, L, k⟩ => by
  refine ⟨G, r, st, L, ?_⟩
  unfold sEnd at k
  revert k
  generalize φ r st = m
  intro k
  cases m with
  | bad => exact k
  | exn c fs st' => exact k
  | ok x =>
    intro v H' G' L' ev hv
    obtain ⟨d, st'⟩ := x
    cases d with
    | int i => exact ⟨i, hv.int, k H' G' L' ev⟩
    | _ => exact k.elim
theorem de_slice {lo hi : Option Expr} {l h : Pt} [C : CtxW F X] (he : PE X e (tV F p φ)) (hl : PO X lo (tO F p l)) (hh : PO X hi (tO F p h)) : PE X (.Subscript e (.Slice lo hi none p2) pos) (tD F p (sSlice φ l h)) :=
  (pe_slice sl_D he hl hh).mimp fun σ H Q ⟨G, r, st, L, k⟩ => by
  refine ⟨G, r, st, L, postV_bind k fun x v H1 G1 e1 L1 ev1 hx k1 => ?_⟩
  refine ⟨G1, r, x.2, L1, ?_⟩
  revert k1
  generalize l r x.2 = m
  intro k1
  cases m with
  | bad => exact k1
  | exn c fs st' => exact k1
  | ok y =>
    intro H2 G2 L2' ev2
    refine ⟨G2, r, y.2, L2', ?_⟩
    have k2 := Post.adv k1 ev2
    revert k2
    simp only [Res.ok_bind]
    generalize h r y.2 = m
    intro k2
    cases m with
    | bad => exact k2
    | exn c fs st' => exact k2
    | ok z =>
      intro H3 G3 L3 ev3
      obtain ⟨d, e, k3⟩ := post_of (Post.adv k2 ev3)
      rw [← C.K]
      exact link_sl L3 ((hx.mono ev2).mono ev3) e fun v' H' G' L' ev hr => k3 v' H' G' L' ev.low hr
end
end Mg
end
/-! ## DDict -/
section
set_option Elab.async false
set_option linter.all false
set_option maxRecDepth 100000
set_option maxHeartbeats 2500000
/-! The data layer: dicts. -/
namespace Mg
open PySem PySem.Spec PyProof.Rows L2 GxR
mutual
theorem nk_eq : ∀ (a b : D), a.hsh = true → b.hsh = true → NestedKey.beq (nk a) (nk b) = D.eq a b
  | .int a, b, _, h => by
    cases b with
    | int b => exact (by rw [nk, nk, NestedKey.beq, D.eq]; by_cases e : a = b <;> simp [e])
    | tup l => rw [nk, nk, NestedKey.beq, D.eq] <;> intros <;> simp_all
    | _ => cases h
  | .tup xs, b, ha, h => by
    cases b with
    | tup ys =>
      rw [nk, nk, NestedKey.beq, D.eq]
      exact nks_eq xs ys ha h
    | int b => rw [nk, nk, NestedKey.beq, D.eq] <;> intros <;> simp_all
    | _ => cases h
  | .non, _, h, _ => by cases h
  | .bl _, _, h, _ => by cases h
  | .str _, _, h, _ => by cases h
  | .lst _, _, h, _ => by cases h
  | .dic _ _ _, _, h, _ => by cases h
  | .st _, _, h, _ => by cases h
  | .box _, _, h, _ => by cases h
  | .own _, _, h, _ => by cases h
  | .err _ _, _, h, _ => by cases h
  | .fo _, _, h, _ => by cases h
  | .fn _ _, _, h, _ => by cases h
theorem nks_eq : ∀ (a b : List D), D.hshs a = true → D.hshs b = true → NestedKey.beqAll (nks a) (nks b) = D.eqs a b
  | [], [], _, _ => rfl
  | [], _ :: _, _, _ => rfl
  | _ :: _, [], _, _ => rfl
  | x :: xs, y :: ys, ha, hb => by
    rw [nks, nks, NestedKey.beqAll, D.eqs, nk_eq x y (Bool.and_eq_true_iff.mp ha).1 (Bool.and_eq_true_iff.mp hb).1, nks_eq xs ys (Bool.and_eq_true_iff.mp ha).2 (Bool.and_eq_true_iff.mp hb).2]
end
mutual
theorem nk_depth : ∀ d : D, d.hsh = true → (nk d).depth = d.dep
  | .int _, _ => rfl
  | .tup l, h => by
    rw [nk, NestedKey.depth, D.dep, nks_depth l h]
  | .non, h => by cases h
  | .bl _, h => by cases h
  | .str _, h => by cases h
  | .lst _, h => by cases h
  | .dic _ _ _, h => by cases h
  | .st _, h => by cases h
  | .box _, h => by cases h
  | .own _, h => by cases h
  | .err _ _, h => by cases h
  | .fo _, h => by cases h
  | .fn _ _, h => by cases h
theorem nks_depth : ∀ l : List D, D.hshs l = true → NestedKey.depthAll (nks l) = D.deps l
  | [], _ => rfl
  | x :: xs, h => by
    rw [nks, NestedKey.depthAll, D.deps, nk_depth x (Bool.and_eq_true_iff.mp h).1, nks_depth xs (Bool.and_eq_true_iff.mp h).2]
end
theorem nk_decide {a b : D} (ha : a.hsh = true) (hb : b.hsh = true) : decide (nk a = nk b) = D.eq a b := by
  rw [NestedKey.decide_eq, nk_eq a b ha hb]
theorem keyOk_t {k : D} (h : k.keyOk true = true) : ∃ l, k = .tup l ∧ k.hsh = true ∧ k.dep ≤ 8 := by
  cases k <;> (try (cases h; done))
  rename_i l
  have h : (D.hshs l && decide (D.deps l ≤ 7)) = true := h
  rw [Bool.and_eq_true, decide_eq_true_eq] at h
  exact ⟨l, rfl, h.1, by rw [D.dep]; omega⟩
theorem keyOk_f {k : D} (h : k.keyOk false = true) : ∃ i, k = .int i := by
  cases k <;> first | exact ⟨_, rfl⟩ | cases h
section
variable {X : Cx} {F : Fx} [C : CtxW F X] {pins : List (Addr × Obj)} {σ : L2.St} {G : Gh} {H : Hp} {s : Shared}
mutual
theorem nested_of (I : Inv X pins σ H s) : ∀ (d : D) {v : V} {u : Value}, R F.W G H v d → d.hsh = true → RelV v u → NestedIs s.heap (nk d) u
  | .int i, v, u, h, _, r => by
    obtain rfl := RV.int (F := F) (p := true) (.inl h)
    obtain ⟨t, rfl⟩ := r
    exact .int _ _
  | .tup ds, v, u, h, e, r => by
    obtain ⟨a, xs, rfl, q, rs⟩ := RV.tup (F := F) (p := true) (.inl h)
    cases r
    obtain ⟨its, r, ⟨o, h1, h2, n, h3⟩, _⟩ := I.tuple (C.K ▸ q)
    exact .tup h1 h2 h3 (by simpa using nesteds_of I ds rs e r)
  | .non, _, _, _, h, _ => by cases h
  | .bl _, _, _, _, h, _ => by cases h
  | .str _, _, _, _, h, _ => by cases h
  | .lst _, _, _, _, h, _ => by cases h
  | .dic _ _ _, _, _, _, h, _ => by cases h
  | .st _, _, _, _, h, _ => by cases h
  | .box _, _, _, _, h, _ => by cases h
  | .own _, _, _, _, h, _ => by cases h
  | .err _ _, _, _, _, h, _ => by cases h
  | .fo _, _, _, _, h, _ => by cases h
  | .fn _ _, _, _, _, h, _ => by cases h
theorem nesteds_of (I : Inv X pins σ H s) : ∀ (ds : List D) {vs : List V} {us : List Value}, Rs F.W G H vs ds → D.hshs ds = true → Vals vs us → NestedAll s.heap (nks ds) us
  | [], _, _, h, _, r => by
    cases h
    cases r
    exact .nil
  | d :: ds, _, _, h, e, r => by
    cases h with
    | cons h1 h2 =>
      cases r with
      | cons r1 r2 => exact .cons (nested_of I d h1 (Bool.and_eq_true_iff.mp e).1 r1) (nesteds_of I ds h2 (Bool.and_eq_true_iff.mp e).2 r2)
end
theorem key_is (I : Inv X pins σ H s) {b : Addr} {k : D} (h : R F.W G H (.ref b) k) (e : k.keyOk true = true) : (nestedKind X.prog X.w).is s.heap (nk k) b := by
  obtain ⟨l, rfl, h1, h2⟩ := keyOk_t e
  exact ⟨nested_of I _ h h1 rfl, by rw [nk_depth _ h1]; exact h2⟩
theorem keys_are (I : Inv X pins σ H s) : ∀ {xs : List (NestedKey × Addr × Value)} {ks : List D}, Rs F.W G H (xs.map fun x => .ref x.2.1) ks → xs.map (·.1) = nks ks → ks.all (D.keyOk true) = true → ∀ x ∈ xs, (nestedKind X.prog X.w).is s.heap x.1 x.2.1
  | [], _, _, _, _, x, hx => by cases hx
  | y :: ys, ks, r, e, a, x, hx => by
    cases r with
    | cons r1 r2 =>
      rw [List.all_cons, Bool.and_eq_true] at a
      rw [nks, List.map_cons, List.cons.injEq] at e
      rcases List.mem_cons.mp hx with rfl | hx
      · rw [e.1]; exact key_is I r1 a.1
      · exact keys_are I r2 e.2 a.2 x hx
/-- the dict at a, as the kit tells it -/
theorem kd_at (I : Inv X pins σ H s) {a : Addr} {xs : List (NestedKey × Addr × Value)} {ks : List D} (h : Rd H a (kdO F.W a xs)) (r : Rs F.W G H (xs.map fun x => .ref x.2.1) ks) (e : xs.map (·.1) = nks ks) (n : (xs.map (·.1)).Nodup) (al : ks.all (D.keyOk true) = true) :
    (a == sysModules) = false ∧ s.heap.DictOfH (nestedKind X.prog X.w) a xs := by
  obtain ⟨⟨h0, o, es, ep, h1, h2, h3, h4⟩, _⟩ := (show ObjOk X.prog X.w H s.heap a (kdO F.W a xs) from h.ok I.hok)
  rw [C.P, C.w] at h4
  exact ⟨h0, o, es, ep, h1, h2, h3, h4, keys_are I r e al, n⟩
end
/-! ### looking up -/
section
variable {W : Wo} {G : Gh} {H : Hp}
theorem atKey_cons {K : Type} [DecidableEq K] (x : K × Addr × Value) (xs : List (K × Addr × Value)) (k : K) : atKey (x :: xs) k = if x.1 = k then some x.2 else atKey xs k := by
  unfold atKey
  rw [List.find?_cons]
  by_cases h : x.1 = k <;> simp [h]
theorem look_t {k : D} (hk : k.hsh = true) : ∀ {xs : List (NestedKey × Addr × Value)} {ks vs : List D} {ws : List V}, xs.map (·.1) = nks ks → ks.all (D.keyOk true) = true → Vals ws (xs.map (·.2.2)) → Rs W G H ws vs →
    match D.look k ks vs with
    | some d => ∃ p v, atKey xs (nk k) = some p ∧ RelV v p.2 ∧ R W G H v d
    | none => atKey xs (nk k) = none
  | [], ks, vs, ws, e, _, _, _ => by
    cases ks with
    | nil => cases vs <;> rfl
    | cons => rw [nks] at e; cases e
  | x :: xs, [], vs, ws, e, _, _, _ => by rw [nks] at e; cases e
  | x :: xs, k' :: ks, vs, ws, e, al, rv, rs => by
    rw [List.map_cons, nks, List.cons.injEq] at e
    rw [List.all_cons, Bool.and_eq_true] at al
    obtain ⟨l, rfl, h1, _⟩ := keyOk_t al.1
    cases rv with
    | cons r1 r2 =>
      cases rs with
      | cons s1 s2 =>
        rename_i v vs d ds
        rw [D.look, atKey_cons, e.1, ← nk_decide hk h1]
        by_cases q : nk k = nk (.tup l)
        · rw [if_pos (decide_eq_true q), if_pos q.symm]
          exact ⟨_, _, rfl, r1, s1⟩
        · rw [if_neg (by simp [q]), if_neg (fun z => q z.symm)]
          exact look_t hk e.2 al.2 r2 s2
theorem look_f (i : Int) : ∀ {kvs : List (Key × V)} {ks : List Int} {vs : List D}, kvs.map (·.1) = ks.map Sum.inl → Rs W G H (kvs.map (·.2)) vs →
    match D.look (.int i) (ks.map .int) vs with
    | some d => ∃ v, valV kvs (.inl i) = some v ∧ R W G H v d
    | none => valV kvs (.inl i) = none
  | [], ks, vs, e, _ => by
    cases ks with
    | nil => cases vs <;> rfl
    | cons => cases e
  | x :: xs, [], vs, e, _ => by cases e
  | x :: xs, k' :: ks, vs, e, rs => by
    rw [List.map_cons, List.map_cons, List.cons.injEq] at e
    cases rs with
    | cons s1 s2 =>
      rw [List.map_cons, D.look, D.eq]
      by_cases q : i = k'
      · rw [if_pos (by simp [q]), valV_pos (by rw [e.1, q])]
        exact ⟨_, rfl, s1⟩
      · rw [if_neg (by simp [q]), valV_neg (by rw [e.1]; exact fun z => q (Sum.inl.inj z).symm)]
        exact look_f i e.2 s2
end
/-! ### the operations -/
def DicV (W : Wo) (G : Gh) (H : Hp) (a : Addr) (t : Bool) (ks vs : List D) : Prop := ∃ o, Rd H a o ∧ Ob W G H a o (.dic t ks vs)
theorem RV.key {F : Fx} {p : Bool} {G : Gh} {H : Hp} {x : V} {k : D} {t : Bool} (h : RV F p G H x k) (e : k.keyOk t = true) : R F.W G H x k := by
  cases t with
  | true =>
    obtain ⟨l, rfl, _⟩ := keyOk_t e
    obtain ⟨a, xs, rfl, h1, h2⟩ := h.tup
    exact .tup h1 h2
  | false =>
    obtain ⟨i, rfl⟩ := keyOk_f e
    rw [h.int]
    exact .int i
theorem R.keyRef {W : Wo} {G : Gh} {H : Hp} {x : V} {k : D} (h : R W G H x k) (e : k.keyOk true = true) : ∃ b, x = .ref b := by
  obtain ⟨l, rfl, _⟩ := keyOk_t e
  cases h with
  | tup => exact ⟨_, rfl⟩
  | obj _ _ q => cases q
section
variable {X : Cx} {F : Fx} [C : CtxW F X] {pins : List (Addr × Obj)} {σ : L2.St} {G : Gh} {H : Hp} {s : Shared} {a : Addr} {t : Bool} {ks vs : List D} {x : V} {u : Value} {k : D}
omit C in
theorem nroom (hu : X.A.units + 100 < cLine) : (nestedKind X.prog X.w).room X.A.in1 := by
  show X.A.units + 1 + 8 < cLine
  omega
/-- d[k] -/
theorem dic_get {Q : Value → Shared → Prop} {d : D} (I : Inv X pins σ H s) (hd : DicV F.W G H a t ks vs) (hk : R F.W G H x k) (e : k.keyOk t = true) (ru : RelV x u) (l : D.look k ks vs = some d) (h : ∀ v w s', Inv X pins σ H s' → RelV v w → R F.W G H v d → Q w s') :
    wpAny (model X.prog X.w) X.A (getItem (.ref a) u) Q X.xe s := by
  obtain ⟨o, ho, q⟩ := hd
  cases q with
  | dI e1 n r =>
    obtain ⟨i, rfl⟩ := keyOk_f e
    cases hk with
    | int =>
      have := look_f i e1 r
      rw [l] at this
      obtain ⟨v, hv, hr⟩ := this
      exact d_getItem (by have := C.un; omega) I (y := .int i) (v := v) (.inl ⟨_, .inl i, ho, rfl, hv.symm⟩) ru fun w s' I' rw' => h v w s' I' rw' hr
    | obj _ _ q => cases q
  | dT r1 e1 n al rv r2 =>
    obtain ⟨b, rfl⟩ := hk.keyRef e
    cases ru
    obtain ⟨hs, dd⟩ := kd_at I ho r1 e1 n al
    obtain ⟨l', rfl, h1, _⟩ := keyOk_t e
    have := look_t h1 e1 al rv r2
    rw [l] at this
    obtain ⟨p, v, hp, rv', hr⟩ := this
    exact wpAny_getItem_heap (nroom C.un) (key_is I hk e) dd hp (h v p.2 _ (I.tok _) rv' hr)
theorem dic_in {Q : Value → Shared → Prop} (I : Inv X pins σ H s) (hd : DicV F.W G H a t ks vs) (hk : R F.W G H x k) (e : k.keyOk t = true) (ru : RelV x u) (h : ∀ s', Inv X pins σ H s' → Q (.bool (D.look k ks vs).isSome) s') :
    wpAny (model X.prog X.w) X.A (compareOp .In u (.ref a)) Q X.xe s := by
  obtain ⟨o, ho, q⟩ := hd
  cases q with
  | dI e1 n r =>
    obtain ⟨i, rfl⟩ := keyOk_f e
    cases hk with
    | int =>
      have := look_f i e1 r
      refine d_in (by have := C.un; omega) I (y := .int i) (o := valV (κ := Key) _ (Sum.inl i)) (.inl ⟨_, .inl i, ho, rfl, rfl⟩) ru fun s' I' => ?_
      have hq := h s' I'
      cases l : D.look (.int i) (_ : List D) vs with
      | none => rw [l] at this hq; rw [this]; exact hq
      | some d => rw [l] at this hq; obtain ⟨v, hv, _⟩ := this; rw [hv]; exact hq
    | obj _ _ q => cases q
  | dT r1 e1 n al rv r2 =>
    obtain ⟨b, rfl⟩ := hk.keyRef e
    cases ru
    obtain ⟨hs, dd⟩ := kd_at I ho r1 e1 n al
    obtain ⟨l', rfl, h1, _⟩ := keyOk_t e
    have := look_t h1 e1 al rv r2
    refine wpAny_in_heap (nroom C.un) (key_is I hk e) hs dd ?_
    have hq := h _ (I.tok (s.toks + (nestedKind X.prog X.w).draws (nk (.tup l'))))
    cases l : D.look (.tup l') ks vs with
    | none => rw [l] at this hq; rw [this]; exact hq
    | some d => rw [l] at this hq; obtain ⟨p, v, hv, _⟩ := this; rw [hv]; exact hq
theorem dic_notIn {Q : Value → Shared → Prop} (I : Inv X pins σ H s) (hd : DicV F.W G H a t ks vs) (hk : R F.W G H x k) (e : k.keyOk t = true) (ru : RelV x u) (h : ∀ s', Inv X pins σ H s' → Q (.bool (!(D.look k ks vs).isSome)) s') :
    wpAny (model X.prog X.w) X.A (compareOp .NotIn u (.ref a)) Q X.xe s := by
  obtain ⟨o, ho, q⟩ := hd
  cases q with
  | dI e1 n r =>
    obtain ⟨i, rfl⟩ := keyOk_f e
    cases hk with
    | int =>
      have := look_f i e1 r
      refine d_notIn (by have := C.un; omega) I (y := .int i) (o := valV (κ := Key) _ (Sum.inl i)) (.inl ⟨_, .inl i, ho, rfl, rfl⟩) ru fun s' I' => ?_
      have hq := h s' I'
      cases l : D.look (.int i) (_ : List D) vs with
      | none => rw [l] at this hq; rw [this]; exact hq
      | some d => rw [l] at this hq; obtain ⟨v, hv, _⟩ := this; rw [hv]; exact hq
    | obj _ _ q => cases q
  | dT r1 e1 n al rv r2 =>
    obtain ⟨b, rfl⟩ := hk.keyRef e
    cases ru
    obtain ⟨hs, dd⟩ := kd_at I ho r1 e1 n al
    obtain ⟨l', rfl, h1, _⟩ := keyOk_t e
    have := look_t h1 e1 al rv r2
    refine wpAny_notIn_heap (nroom C.un) (key_is I hk e) hs dd ?_
    have hq := h _ (I.tok (s.toks + (nestedKind X.prog X.w).draws (nk (.tup l'))))
    cases l : D.look (.tup l') ks vs with
    | none => rw [l] at this hq; rw [this]; exact hq
    | some d => rw [l] at this hq; obtain ⟨p, v, hv, _⟩ := this; rw [hv]; exact hq
end
end Mg
end
/-! ## DDict2 -/
section
set_option Elab.async false
set_option linter.all false
set_option maxRecDepth 100000
set_option maxHeartbeats 2500000
namespace Mg
open PySem PySem.Spec PyProof.Rows L2 GxR
theorem RV.dicV {F : Fx} {p : Bool} {G : Gh} {H : Hp} {v : V} {t : Bool} {ks vs : List D} (h : RV F p G H v (.dic t ks vs)) : ∃ a, v = .ref a ∧ DicV F.W G H a t ks vs := by
  obtain ⟨a, o, rfl, h1, h2⟩ := h.dic
  exact ⟨a, rfl, o, h1, h2⟩
section
variable {X : Cx} {F : Fx} [C : CtxW F X]
/-! ### in, not in -/
def rInT (K : PySem.W.Frag) : R2 := fun x y H Q => ∃ d ds, Dp K H x d ∧ Dp K H y (.tuple ds) ∧ SeqAt.shaped d = true ∧ SeqAt.shaped (.tuple ds) = true ∧ Q (.bl (ds.any fun z => PyData.eqv z d)) H
def rNotInT (K : PySem.W.Frag) : R2 := fun x y H Q => ∃ d ds, Dp K H x d ∧ Dp K H y (.tuple ds) ∧ SeqAt.shaped d = true ∧ SeqAt.shaped (.tuple ds) = true ∧ Q (.bl (!ds.any fun z => PyData.eqv z d)) H
omit C in
theorem op_inT (hu : X.A.units + 65 < cLine) : OpR X (compareOp .In) (rInT X.K) := by
  rintro pins s σ H x y v u Q I rx ry ⟨d, ds, hd, he, sd, se, q⟩
  obtain ⟨⟨_, r1⟩, ⟨_, r2⟩⟩ := And.intro (Dp.reads I d x v hd rx) (Dp.reads I (.tuple ds) y u he ry)
  exact SeqAt.in_tuple_reads r2 r1 (SeqAt.canLay_of_shaped se) (SeqAt.canLay_of_shaped sd) (room_in_shaped sd hu) ⟨.bl _, H, I, rfl, q⟩
omit C in
theorem op_notInT (hu : X.A.units + 65 < cLine) : OpR X (compareOp .NotIn) (rNotInT X.K) := by
  rintro pins s σ H x y v u Q I rx ry ⟨d, ds, hd, he, sd, se, q⟩
  obtain ⟨⟨_, r1⟩, ⟨_, r2⟩⟩ := And.intro (Dp.reads I d x v hd rx) (Dp.reads I (.tuple ds) y u he ry)
  exact SeqAt.notIn_tuple_reads r2 r1 (SeqAt.canLay_of_shaped se) (SeqAt.canLay_of_shaped sd) (room_in_shaped sd hu) ⟨.bl _, H, I, rfl, q⟩
def rInK (F : Fx) : R2 := fun x y H Q => ∃ G a t ks vs k, y = .ref a ∧ DicV F.W G H a t ks vs ∧ R F.W G H x k ∧ k.keyOk t = true ∧ Q (.bl (D.look k ks vs).isSome) H
def rNotInK (F : Fx) : R2 := fun x y H Q => ∃ G a t ks vs k, y = .ref a ∧ DicV F.W G H a t ks vs ∧ R F.W G H x k ∧ k.keyOk t = true ∧ Q (.bl (!(D.look k ks vs).isSome)) H
theorem op_inK : OpR X (compareOp .In) (rInK F) := by
  intro pins s σ H x y v u Q I rx ry h
  obtain ⟨G, a, t, ks, vs, k, rfl, hd, hk, e, q⟩ := h
  cases ry
  exact dic_in I hd hk e rx fun s' I' => ⟨.bl _, H, I', rfl, q⟩
theorem op_notInK : OpR X (compareOp .NotIn) (rNotInK F) := by
  intro pins s σ H x y v u Q I rx ry h
  obtain ⟨G, a, t, ks, vs, k, rfl, hd, hk, e, q⟩ := h
  cases ry
  exact dic_notIn I hd hk e rx fun s' I' => ⟨.bl _, H, I', rfl, q⟩
def rInAll (F : Fx) : R2 := fun x y H Q => rInD F.W.K x y H Q ∨ rInT F.W.K x y H Q ∨ rInK F x y H Q
def rNotInAll (F : Fx) : R2 := fun x y H Q => rNotInD F.W.K x y H Q ∨ rNotInT F.W.K x y H Q ∨ rNotInK F x y H Q
theorem op_inAll : OpR X (compareOp .In) (rInAll F) := by
  unfold rInAll
  rw [C.K]
  exact (op_inD (by have := C.un; omega)).or ((op_inT (by have := C.un; omega)).or op_inK)
theorem op_notInAll : OpR X (compareOp .NotIn) (rNotInAll F) := by
  unfold rNotInAll
  rw [C.K]
  exact (op_notInD (by have := C.un; omega)).or ((op_notInT (by have := C.un; omega)).or op_notInK)
end
section
variable {F : Fx}
theorem RV.dps {p : Bool} {G : Gh} {H : Hp} {v : V} {l : List D} (h : RV F p G H v (.lst l)) (e : D.pls l = true) : Dp F.W.K H v (.list (D.pys l)) := by
  have := h.dp (d := .lst l) e
  rw [D.py] at this
  exact this
theorem RV.dpt {p : Bool} {G : Gh} {H : Hp} {v : V} {l : List D} (h : RV F p G H v (.tup l)) (e : D.pls l = true) : Dp F.W.K H v (.tuple (D.pys l)) := by
  have := h.dp (d := .tup l) e
  rw [D.py] at this
  exact this
theorem link_in : OpD F (fun _ => cIn) (rInAll F) := by
  intro p G rr st σ H x y dx dy d Q L hx hy e q
  cases dy <;> (try (simp [cIn] at e; done))
  · simp only [cIn] at e
    split at e
    · rename_i h
      rw [Bool.and_eq_true] at h
      cases e
      exact .inr (.inl ⟨_, _, hx.dp (plain_pl h.1), hy.dpt (plains_pls h.2), py_shaped h.1, pys_shapedT h.2, by rw [pys_any (plain_pl h.1) (plains_pls h.2)]; exact q _ _ _ L .refl (.bl _)⟩)
    · cases e
  · simp only [cIn] at e
    split at e
    · rename_i h
      rw [Bool.and_eq_true] at h
      cases e
      exact .inl ⟨_, _, hx.dp (plain_pl h.1), hy.dps (plains_pls h.2), py_shaped h.1, pys_shaped h.2, by rw [pys_any (plain_pl h.1) (plains_pls h.2)]; exact q _ _ _ L .refl (.bl _)⟩
    · cases e
  · simp only [cIn] at e
    split at e
    · rename_i h
      cases e
      obtain ⟨a, rfl, hd⟩ := hy.dicV
      exact .inr (.inr ⟨G, a, _, _, _, _, rfl, hd, hx.key h, h, q _ _ _ L .refl (.bl _)⟩)
    · cases e
theorem link_notin : OpD F (fun _ => cNotIn) (rNotInAll F) := by
  intro p G rr st σ H x y dx dy d Q L hx hy e q
  cases dy <;> (try (simp [cNotIn] at e; done))
  · simp only [cNotIn] at e
    split at e
    · rename_i h
      rw [Bool.and_eq_true] at h
      cases e
      exact .inr (.inl ⟨_, _, hx.dp (plain_pl h.1), hy.dpt (plains_pls h.2), py_shaped h.1, pys_shapedT h.2, by rw [pys_any (plain_pl h.1) (plains_pls h.2)]; exact q _ _ _ L .refl (.bl _)⟩)
    · cases e
  · simp only [cNotIn] at e
    split at e
    · rename_i h
      rw [Bool.and_eq_true] at h
      cases e
      exact .inl ⟨_, _, hx.dp (plain_pl h.1), hy.dps (plains_pls h.2), py_shaped h.1, pys_shaped h.2, by rw [pys_any (plain_pl h.1) (plains_pls h.2)]; exact q _ _ _ L .refl (.bl _)⟩
    · cases e
  · simp only [cNotIn] at e
    split at e
    · rename_i h
      cases e
      obtain ⟨a, rfl, hd⟩ := hy.dicV
      exact .inr (.inr ⟨G, a, _, _, _, _, rfl, hd, hx.key h, h, q _ _ _ L .refl (.bl _)⟩)
    · cases e
end
/-! ### a[i] -/
section
variable {X : Cx} {F : Fx} [C : CtxW F X]
def rIxK (F : Fx) : R2 := fun x y H Q => ∃ G a t ks vs k d, x = .ref a ∧ DicV F.W G H a t ks vs ∧ R F.W G H y k ∧ k.keyOk t = true ∧ D.look k ks vs = some d ∧ ∀ v, R F.W G H v d → Q v H
theorem dicV_ty {pins : List (Addr × Obj)} {σ : L2.St} {G : Gh} {H : Hp} {s : Shared} {a : Addr} {t : Bool} {ks vs : List D} (I : Inv X pins σ H s) (hd : DicV F.W G H a t ks vs) : s.TypeIs (.ref a) "dict" := by
  obtain ⟨o, ho, hq⟩ := hd
  cases hq with
  | dI =>
    obtain ⟨_, _, vs, _, dd⟩ := dk_rd I.hok ho
    exact dd.typeIs
  | dT r1 e1 n al rv r2 => exact (kd_at I ho r1 e1 n al).2.typeIs
theorem ix_K : IxR X (rIxK F) := by
  intro value slice pins s σ H x y v u Q I rx ry h hs
  obtain ⟨G, a, t, ks, vs, k, d, rfl, hd, hk, e, l, q⟩ := h
  obtain rfl : v = Value.ref a := rx
  exact tail_any (dicV_ty I hd) PySem.F.slot_dict_getitem.lookup (dic_get I hd hk e ry l fun v w s' I' rw' hr => ⟨v, H, I', rw', q v hr⟩) hs
def rIxAll (F : Fx) : R2 := fun x y H Q => rIx F.W.K x y H Q ∨ rIxK F x y H Q
theorem ix_All : IxR X (rIxAll F) := by
  unfold rIxAll
  rw [C.K]
  exact ix_seq.or ix_K
end
section
variable {F : Fx}
theorem Rel.box {G : Gh} {r : Env} {st : Sto} {σ : L2.St} {H : Hp} {n : Nat} {b : Bx} (L : Rel F G r st σ H) (e : st[n]? = some b) : BxAt F.W G H n (G.bx n) b := (L.bx n b e).2
theorem link_ix : OpD F opIx (rIxAll F) := by
  intro p G rr st σ H x y dx dy d Q L hx hy e q
  cases dx with
  | tup l =>
    cases dy <;> (try (simp [opIx] at e; done))
    obtain rfl := hy.int
    obtain ⟨a, xs, rfl, h1, r1⟩ := hx.tup
    simp only [opIx] at e
    obtain ⟨v, e1, hr⟩ := r1.at e
    exact .inl (.inr (.inl ⟨a, xs, _, v, rfl, rfl, h1, e1, q _ _ _ L .refl hr⟩))
  | lst l =>
    cases dy <;> (try (simp [opIx] at e; done))
    obtain rfl := hy.int
    obtain ⟨a, xs, rfl, h1, r1⟩ := hx.seq
    simp only [opIx] at e
    obtain ⟨v, e1, hr⟩ := r1.at e
    exact .inl (.inl ⟨a, xs, _, v, rfl, rfl, h1, e1, q _ _ _ L .refl hr⟩)
  | dic t ks vs =>
    simp only [opIx] at e
    split at e
    · rename_i h
      split at e
      · rename_i d' hl
        cases e
        obtain ⟨a, rfl, hd⟩ := hx.dicV
        exact .inr ⟨G, a, t, ks, vs, dy, d, rfl, hd, hy.key h, h, hl, fun v hr => q _ _ _ L .refl hr⟩
      · cases e
    · cases e
  | str l =>
    cases dy <;> (try (simp [opIx] at e; done))
    rename_i i
    obtain rfl := hy.int
    obtain rfl := hx.str
    simp only [opIx] at e
    split at e
    · rename_i hl
      split at e
      · rename_i c hc
        cases e
        exact .inl (.inr (.inr ⟨_, _, c, rfl, rfl, by rw [str_len, ← line_eq]; exact hl, hc, q _ _ _ L .refl (.str _)⟩))
      · cases e
    · cases e
  | box n =>
    cases dy <;> (try (simp [opIx] at e; done))
    obtain rfl := hy.int
    obtain ⟨rfl, _⟩ := hx.box
    simp only [opIx] at e
    split at e
    · rename_i l hl
      cases L.box hl with
      | lst h1 r1 =>
        obtain ⟨v, e1, hr⟩ := r1.at e
        exact .inl (.inl ⟨_, _, _, v, rfl, rfl, .inl (.inl h1), e1, q _ _ _ L .refl hr⟩)
    · cases e
  | _ => simp [opIx] at e
end
/-! ### d[k] = v -/
section
variable {W : Wo} {G : Gh} {H : Hp}
theorem look_len {k e : D} : ∀ {ks vs : List D} {d : D}, D.look k ks vs = some d → (D.put k e ks vs).1 = ks
  | [], vs, d, h => by cases vs <;> cases h
  | _ :: _, [], d, h => by cases h
  | k' :: ks, v :: vs, d, h => by
    rw [D.look] at h
    rw [D.put]
    split
    · rfl
    · rename_i q
      rw [if_neg q] at h
      show k' :: (D.put k e ks vs).1 = _
      rw [look_len h]
theorem put_none {k d : D} : ∀ {ks vs : List D}, ks.length = vs.length → D.look k ks vs = none → D.put k d ks vs = (ks ++ [k], vs ++ [d])
  | [], [], _, _ => rfl
  | k' :: ks, v :: vs, hl, h => by
    rw [D.look] at h
    split at h
    · cases h
    · rename_i q
      rw [D.put, if_neg q]
      show (k' :: (D.put k d ks vs).1, v :: (D.put k d ks vs).2) = _
      rw [put_none (by simpa using hl) h]
      rfl
end
section
variable {W : Wo} {G : Gh} {H : Hp}
theorem keys_put {i : Int} {d : D} {v : V} (hv : R W G H v d) : ∀ {kvs : List (Key × V)} {ks : List Int} {vs : List D}, kvs.map (·.1) = ks.map Sum.inl → ks.Nodup → Rs W G H (kvs.map (·.2)) vs →
    ∃ ks' : List Int, (D.put (.int i) d (ks.map .int) vs).1 = ks'.map .int ∧ (putK kvs (Sum.inl i) v).map (·.1) = ks'.map Sum.inl ∧ ks'.Nodup ∧ Rs W G H ((putK kvs (Sum.inl i) v).map (·.2)) (D.put (.int i) d (ks.map .int) vs).2 := by
  intro kvs ks vs e n r
  have hl := look_f i e r
  have hlen : (ks.map D.int).length = vs.length := by
    have z1 := congrArg List.length e
    have z2 := r.length
    simp only [List.length_map] at z1 z2 ⊢
    omega
  cases hh : D.look (.int i) (ks.map .int) vs with
  | none =>
    rw [hh] at hl
    rw [put_none hlen hh, putK_new v hl, List.map_append, List.map_append]
    refine ⟨ks ++ [i], by simp, by rw [e]; simp, ?_, Rs.append r (.cons hv .nil)⟩
    rw [List.nodup_append]
    refine ⟨n, by simp, fun a ha b hb' => ?_⟩
    simp at hb'
    subst hb'
    intro z
    subst z
    have : valV kvs (Sum.inl a) ≠ none := by
      have h1 : (Sum.inl a : Key) ∈ kvs.map (·.1) := by rw [e]; exact List.mem_map_of_mem ha
      obtain ⟨p, hp, hp'⟩ := List.mem_map.mp h1
      have h2 : (kvs.any fun kv => decide (kv.1 = (Sum.inl a : Key))) = true := List.any_eq_true.mpr ⟨p, hp, decide_eq_true hp'⟩
      rw [valV_any] at h2
      intro h3
      rw [h3] at h2
      cases h2
    exact this hl
  | some d0 =>
    rw [hh] at hl
    obtain ⟨v0, hv0, _⟩ := hl
    have ha : (kvs.any fun kv => decide (kv.1 = (Sum.inl i : Key))) = true := by rw [valV_any, hv0]; rfl
    refine ⟨ks, look_len hh, ?_, n, ?_⟩
    · unfold putK
      rw [if_pos ha, List.map_map, ← e]
      refine List.map_congr_left fun x _ => ?_
      show (if x.1 = _ then (x.1, v) else x).1 = x.1
      split <;> rfl
    · unfold putK
      rw [if_pos ha]
      clear ha hv0 hlen
      induction kvs generalizing ks vs with
      | nil =>
        cases ks with
        | nil => cases vs <;> cases hh
        | cons => cases e
      | cons x xs ih =>
        cases ks with
        | nil => cases e
        | cons k' ks =>
          rw [List.map_cons, List.map_cons, List.cons.injEq] at e
          rw [List.nodup_cons] at n
          cases r with
          | cons s1 s2 =>
            rename_i d1 ds
            rw [List.map_cons, D.look, D.eq] at hh
            rw [List.map_cons, List.map_cons, List.map_cons, D.put, D.eq]
            by_cases q : i = k'
            · rw [if_pos (show x.1 = Sum.inl i by rw [e.1, q]), if_pos (show (i == k') = true by simp [q])]
              have : xs.map (fun kv => if kv.1 = (Sum.inl i : Key) then (kv.1, v) else kv) = xs := by
                have hn : (Sum.inl i : Key) ∉ xs.map (·.1) := by
                  rw [e.2, q]
                  intro z
                  obtain ⟨j, hj, hj'⟩ := List.mem_map.mp z
                  cases hj'
                  exact n.1 hj
                have : ∀ x ∈ xs, (if x.1 = (Sum.inl i : Key) then (x.1, v) else x) = x := fun y hy => if_neg fun z => hn (by rw [← z]; exact List.mem_map_of_mem hy)
                rw [List.map_congr_left this]
                exact List.map_id' xs
              rw [this]
              exact .cons hv s2
            · rw [if_neg (by simp [q])] at hh
              rw [if_neg (show ¬ x.1 = Sum.inl i by rw [e.1]; exact fun z => q (Sum.inl.inj z).symm), if_neg (show ¬ (i == k') = true by simp [q])]
              exact .cons s1 (ih e.2 n.2 s2 hh)
end
end Mg
end
/-! ## DCall -/
section
set_option Elab.async false
set_option linter.all false
set_option maxRecDepth 100000
set_option maxHeartbeats 2500000
/-! The data layer: arguments, displays, calls of built-in functions. -/
namespace Mg
open PySem PySem.Spec PyProof.Rows L2 GxR
inductive RVs (F : Fx) (p : Bool) (G : Gh) (H : Hp) : List V → List D → Prop
  | nil : RVs F p G H [] []
  | cons {v : V} {vs : List V} {d : D} {ds : List D} : RV F p G H v d → RVs F p G H vs ds → RVs F p G H (v :: vs) (d :: ds)
def PostAV (F : Fx) (p : Bool) (r : Env) (σ : L2.St) (G : Gh) (H : Hp) (m : Res (List D × Sto)) (Q : List V → Hp → Prop) : Prop := match m with
  | .ok x => ∀ vs H' G', Rel F G' r x.2 σ H' → Ev p G H G' H' → RVs F p G' H' vs x.1 → Q vs H'
  | .exn c fs st' => ∀ H' G', Rel F G' r st' σ H' → Ev p G H G' H' → F.ex c fs st' G' σ H'
  | .bad => False
def tAV (F : Fx) (p : Bool) (φ : Exs) : TA := fun σ H Q => ∃ G r st, Rel F G r st σ H ∧ PostAV F p r σ G H (φ r st) Q
section
variable {X : Cx} {F : Fx} {p : Bool} {e : Expr} {es : List Expr} {φ : Ex} {ψ : Exs}
theorem PostAV.adv {r : Env} {σ : L2.St} {G G1 : Gh} {H H1 : Hp} {m : Res (List D × Sto)} {Q : List V → Hp → Prop} (h : PostAV F p r σ G H m Q) (e : Ev p G H G1 H1) : PostAV F p r σ G1 H1 m Q := by
  cases m with
  | ok x => exact fun vs H' G' a b c => h vs H' G' a (e.trans b) c
  | exn c fs st => exact fun H' G' a b => h H' G' a (e.trans b)
  | bad => exact h
theorem da_nil : PA X [] (tAV F p sNil) := pa_nil.mimp fun σ H Q ⟨G, r, st, L, k⟩ => k [] H G L .refl .nil
theorem da_cons (he : PE X e (tV F p φ)) (hr : PA X es (tAV F p ψ)) (hs : starEach (e :: es) X.env = (false, eval e X.env) :: starEach es X.env := by rfl) : PA X (e :: es) (tAV F p (sCons φ ψ)) :=
  (pa_cons he hr hs).mimp fun σ H Q ⟨G, r, st, L, k⟩ => by
  refine ⟨G, r, st, L, ?_⟩
  unfold sCons at k
  revert k
  generalize φ r st = m
  intro k
  cases m with
  | bad => exact k
  | exn c fs st' => exact k
  | ok x =>
    intro v H1 G1 L1 ev1 hv
    refine ⟨G1, r, x.2, L1, ?_⟩
    have k1 := PostAV.adv k ev1
    revert k1
    simp only [Res.ok_bind]
    generalize ψ r x.2 = m
    intro k1
    cases m with
    | bad => exact k1
    | exn c fs st' => exact k1
    | ok y => exact fun vs H2 G2 L2 ev2 hvs => k1 _ H2 G2 L2 ev2 (.cons (hv.mono ev2) hvs)
/-! strong arguments: data -/
theorem db_nil : PA X [] (tA F p sNil) := pa_nil.mimp fun σ H Q ⟨G, r, st, L, k⟩ => k [] H G L .refl .nil
theorem db_cons (he : PE X e (tD F p φ)) (hr : PA X es (tA F p ψ)) (hs : starEach (e :: es) X.env = (false, eval e X.env) :: starEach es X.env := by rfl) : PA X (e :: es) (tA F p (sCons φ ψ)) :=
  (pa_cons he hr hs).mimp fun σ H Q ⟨G, r, st, L, k⟩ => by
  refine ⟨G, r, st, L, ?_⟩
  unfold sCons at k
  revert k
  generalize φ r st = m
  intro k
  cases m with
  | bad => exact k
  | exn c fs st' => exact k
  | ok x =>
    intro v H1 G1 L1 ev1 hv
    refine ⟨G1, r, x.2, L1, ?_⟩
    have k1 := PostA.adv k ev1
    revert k1
    simp only [Res.ok_bind]
    generalize ψ r x.2 = m
    intro k1
    cases m with
    | bad => exact k1
    | exn c fs st' => exact k1
    | ok y => exact fun vs H2 G2 L2 ev2 hvs => k1 _ H2 G2 L2 ev2 (.cons (R.mono ev2.s1 hv) hvs)
/-! ### displays -/
def Few (n : Nat) (ψ : Exs) : Prop := ∀ r st x, ψ r st = .ok x → x.1.length ≤ n
theorem few_nil : Few 0 sNil := fun r st x h => by
  cases h
  exact Nat.le_refl _
theorem few_cons {n : Nat} (h : Few n ψ) : Few (n + 1) (sCons φ ψ) := fun r st x e => by
  unfold sCons at e
  revert e
  generalize φ r st = m
  intro e
  cases m with
  | bad => cases e
  | exn => cases e
  | ok y =>
    simp only [Res.ok_bind] at e
    cases q : ψ r y.2 with
    | bad => rw [q] at e; cases e
    | exn => rw [q] at e; cases e
    | ok z =>
      rw [q] at e
      cases e
      exact Nat.succ_le_succ (h _ _ _ q)
theorem de_tup {x1 : Nat} {pos : Pos} {n : Nat} (h : PA X es (tA F p ψ)) (f : Few n ψ) (hn : n ≤ 1000 := by decide) : PE X (.Tuple es x1 pos) (tD F p (sTup ψ)) := (pe_tup h).mimp fun σ H Q ⟨G, r, st, L, k⟩ => by
  refine ⟨G, r, st, L, ?_⟩
  unfold sTup at k
  revert k
  have f := f r st
  revert f
  generalize ψ r st = m
  intro f k
  cases m with
  | bad => exact k
  | exn c fs st' => exact k
  | ok x =>
    intro vs H1 G1 L1 ev1 hvs
    refine ⟨by rw [hvs.length, sizeLine_eq]; have := f x rfl; omega, fun a ha => new_tup L1 ha hvs fun v H' G' L' ev hr => k v H' G' L' (ev1.trans ev.low) hr⟩
theorem de_lstF {pos : Pos} {n : Nat} (h : PA X es (tA F p ψ)) (f : Few n ψ) (hn : n ≤ 1000 := by decide) : PE X (.List es pos) (tF F p (sLst ψ)) := (pe_lst h).mimp fun σ H Q ⟨G, r, st, L, k⟩ => by
  refine ⟨G, r, st, L, ?_⟩
  unfold sLst at k
  revert k
  have f := f r st
  revert f
  generalize ψ r st = m
  intro f k
  cases m with
  | bad => exact k
  | exn c fs st' => exact k
  | ok x =>
    intro vs H1 G1 L1 ev1 hvs
    refine ⟨by rw [hvs.length, sizeLine_eq]; have := f x rfl; omega, fun a ha => k a _ G1 (L1.lay ha) (ev1.trans (Ev.lay ha)) (ev1.s1.free ha) (L1.noRole ha) ⟨_, upd_same, .lst (Rs.mono (.lay ha) hvs)⟩⟩
theorem de_lst {pos : Pos} {n : Nat} (h : PA X es (tA F p ψ)) (f : Few n ψ) (hn : n ≤ 1000 := by decide) : PE X (.List es pos) (tD F p (sLst ψ)) := (de_lstF h f hn).frz
/-! ### calls of built-in functions -/
def CalD (F : Fx) (f : Sto → List D → Option D) (r : List V → Hp → VK → Prop) : Prop :=
  ∀ {p : Bool} {G : Gh} {rr : Env} {st : Sto} {σ : L2.St} {H : Hp} {xs : List V} {ds : List D} {d : D} {Q : VK}, Rel F G rr st σ H → RVs F p G H xs ds → f st ds = some d →
    (∀ v H' G', Rel F G' rr st σ H' → Ev true G H G' H' → R F.W G' H' v d → Q v H') → r xs H Q
def sCall (f : Sto → List D → Option D) (ψ : Exs) : Ex := fun r st => (ψ r st).bind fun x => (Res.of (f x.2 x.1)).bind fun d => .ok (d, x.2)
theorem cal_ok {f : Sto → List D → Option D} {r : List V → Hp → VK → Prop} (hd : CalD F f r) {σ : L2.St} {H : Hp} {Q : VK} (h : tD F p (sCall f ψ) σ H Q) : tCB r (tAV F p ψ) σ H Q := by
  obtain ⟨G, rr, st, L, k⟩ := h
  refine ⟨G, rr, st, L, ?_⟩
  unfold sCall at k
  revert k
  generalize ψ rr st = m
  intro k
  cases m with
  | bad => exact k
  | exn c fs st' => exact k
  | ok x =>
    intro vs H1 G1 L1 ev1 hvs
    obtain ⟨d, e, k2⟩ := post_of k
    exact hd L1 hvs e fun v' H' G' L' ev hr => k2 v' H' G' L' (ev1.trans ev.low) hr
variable {x : Str} {pp pos : Pos} {id T : String}
theorem de_callB {f : Sto → List D → Option D} {r : List V → Hp → VK → Prop} (hc : CallR X (.builtin id) r) (hd : CalD F f r) (hg : Gl X x) (hm : X.mg x = none) (hv : bootBuiltins x = some (.builtin id)) (ha : PA X (e :: es) (tAV F p ψ)) (hn : x ≠ "__name__" := by decide) (hdb : (x == ("__debug__" : Str)) = false := by decide)
    (he : starEach (e :: es) X.env = (false, eval e X.env) :: starEach es X.env := by rfl) (hpl : (backTo pos (starEach es X.env)).any (·.1) = false := by rfl) : PE X (.Call (.Name x pp) (e :: es) [] pos) (tD F p (sCall f ψ)) :=
  (pe_callB hc hg hm hv ha hn hdb he hpl).mimp fun _ _ _ h => cal_ok hd h
theorem de_callTy {f : Sto → List D → Option D} {r : List V → Hp → VK → Prop} (hc : CallR X (.type T) r) (hd : CalD F f r) (hg : Gl X x) (hm : X.mg x = none) (hv : bootBuiltins x = some (.type T)) (ha : PA X (e :: es) (tAV F p ψ)) (hn : x ≠ "__name__" := by decide) (hdb : (x == ("__debug__" : Str)) = false := by decide)
    (he : starEach (e :: es) X.env = (false, eval e X.env) :: starEach es X.env := by rfl) (hpl : (backTo pos (starEach es X.env)).any (·.1) = false := by rfl) : PE X (.Call (.Name x pp) (e :: es) [] pos) (tD F p (sCall f ψ)) :=
  (pe_callTy hc hg hm hv ha hn hdb he hpl).mimp fun _ _ _ h => cal_ok hd h
end
/-- functions of one, of two arguments -/
def f1 (f : Sto → D → Option D) : Sto → List D → Option D
  | st, [a] => f st a
  | _, _ => none
def f2 (f : Sto → D → D → Option D) : Sto → List D → Option D
  | st, [a, b] => f st a b
  | _, _ => none
section
variable {F : Fx}
theorem cal1 {f : Sto → D → Option D} {r : List V → Hp → VK → Prop}
    (h : ∀ {p : Bool} {G : Gh} {rr : Env} {st : Sto} {σ : L2.St} {H : Hp} {x : V} {a d : D} {Q : VK}, Rel F G rr st σ H → RV F p G H x a → f st a = some d → (∀ v H' G', Rel F G' rr st σ H' → Ev true G H G' H' → R F.W G' H' v d → Q v H') → r [x] H Q) : CalD F (f1 f) r := by
  intro p G rr st σ H xs ds d Q L hs e q
  cases hs with
  | nil => cases e
  | cons h1 h2 =>
    cases h2 with
    | nil => exact h L h1 e q
    | cons => cases e
theorem cal2 {f : Sto → D → D → Option D} {r : List V → Hp → VK → Prop}
    (h : ∀ {p : Bool} {G : Gh} {rr : Env} {st : Sto} {σ : L2.St} {H : Hp} {x y : V} {a b d : D} {Q : VK}, Rel F G rr st σ H → RV F p G H x a → RV F p G H y b → f st a b = some d → (∀ v H' G', Rel F G' rr st σ H' → Ev true G H G' H' → R F.W G' H' v d → Q v H') → r [x, y] H Q) : CalD F (f2 f) r := by
  intro p G rr st σ H xs ds d Q L hs e q
  cases hs with
  | nil => cases e
  | cons h1 h2 =>
    cases h2 with
    | nil => cases e
    | cons h2 h3 =>
      cases h3 with
      | nil => exact h L h1 h2 e q
      | cons => cases e
/-- len -/
def rLen (K : PySem.W.Frag) : List V → Hp → VK → Prop := fun xs H Q => (∃ x n, xs = [x] ∧ LenV K x H n ∧ Q (.int n) H)
theorem link_len : CalD F (f1 bLen) (rLen F.W.K) := cal1 fun {p G rr st σ H x a d Q} L hx e q => by
  cases a with
  | tup l =>
    obtain ⟨a, xs, rfl, h1, r1⟩ := hx.tup
    simp only [bLen, Option.some.injEq] at e
    subst e
    exact ⟨_, xs.length, rfl, .inr ⟨xs, h1, rfl⟩, by rw [r1.length]; exact q _ _ _ L .refl (.int _)⟩
  | lst l =>
    obtain ⟨a, xs, rfl, h1, r1⟩ := hx.seq
    simp only [bLen, Option.some.injEq] at e
    subst e
    exact ⟨_, xs.length, rfl, .inl ⟨xs, h1, rfl⟩, by rw [r1.length]; exact q _ _ _ L .refl (.int _)⟩
  | str l =>
    obtain rfl := hx.str
    simp only [bLen] at e
    split at e
    · rename_i h
      simp only [Option.some.injEq] at e
      subst e
      exact ⟨_, l.length, rfl, ⟨by rw [str_len, ← line_eq]; exact h, (str_len l).symm⟩, q _ _ _ L .refl (.int _)⟩
    · cases e
  | box n =>
    obtain ⟨rfl, _⟩ := hx.box
    simp only [bLen] at e
    split at e
    · rename_i l hl
      cases L.box hl with
      | lst h1 r1 =>
        rename_i xs
        simp only [Option.some.injEq] at e
        subst e
        exact ⟨_, xs.length, rfl, .inl ⟨xs, .inl (.inl h1), rfl⟩, by rw [r1.length]; exact q _ _ _ L .refl (.int _)⟩
    · cases e
  | _ => cases e
end
end Mg
end
/-! ## DCall2 -/
section
set_option Elab.async false
set_option linter.all false
set_option maxRecDepth 100000
set_option maxHeartbeats 2500000
namespace Mg
open PySem PySem.Spec PyProof.Rows L2 GxR
section
variable {F : Fx}
/-! ### list, tuple -/
def rTupD (K : PySem.W.Frag) : List V → Hp → VK → Prop := fun xs H Q => ∃ p ys, xs = [.ref p] ∧ ((SqL K H p ys ∧ ∀ l, H l = none → Q (.ref l) (upd H l (.tup ys))) ∨ (SqT K H p ys ∧ Q (.ref p) H))
/-- a sequence: its items -/
def seqOf (st : Sto) : D → Option (List D)
  | .tup l => some l
  | .lst l => some l
  | .box n => match st[n]? with
    | some (.lst l) => some l
    | _ => none
  | _ => none
theorem seq_at {p : Bool} {G : Gh} {rr : Env} {st : Sto} {σ : L2.St} {H : Hp} {x : V} {d : D} {l : List D} (L : Rel F G rr st σ H) (h : RV F p G H x d) (e : seqOf st d = some l) : ∃ a ys, x = .ref a ∧ (SqL F.W.K H a ys ∨ SqT F.W.K H a ys) ∧ Rs F.W G H ys l := by
  cases d with
  | tup l' =>
    cases e
    obtain ⟨a, ys, h1, h2, h3⟩ := h.tup
    exact ⟨a, ys, h1, .inr h2, h3⟩
  | lst l' =>
    cases e
    obtain ⟨a, ys, h1, h2, h3⟩ := h.seq
    exact ⟨a, ys, h1, .inl h2, h3⟩
  | box n =>
    obtain ⟨rfl, _⟩ := h.box
    simp only [seqOf] at e
    split at e
    · rename_i l' hl
      cases e
      cases L.box hl with
      | lst h1 r1 => exact ⟨_, _, rfl, .inl (.inl (.inl h1)), r1⟩
    · cases e
  | _ => cases e
def bTuple (st : Sto) (d : D) : Option D := match seqOf st d with
  | some l => some (.tup l)
  | none => none
theorem link_tuple : CalD F (f1 bTuple) (rTupD F.W.K) := cal1 fun {p G rr st σ H x a d Q} L hx e q => by
  unfold bTuple at e
  cases h : seqOf st a with
  | none => rw [h] at e; cases e
  | some l =>
    rw [h] at e
    simp only [Option.some.injEq] at e
    subst e
    obtain ⟨b, ys, rfl, hq, r⟩ := seq_at L hx h
    rcases hq with hq | hq
    · exact ⟨b, ys, rfl, .inl ⟨hq, fun pp hp => new_tup L hp r q⟩⟩
    · exact ⟨b, ys, rfl, .inr ⟨hq, q _ _ _ L .refl (.tup hq r)⟩⟩
/-! ### sum, min, max -/
theorem vals_int (ns : List Int) : (ns.map D.int).map D.val = ns := by
  rw [List.map_map]
  exact List.map_id' ns
theorem link_sum : CalD F (f1 fun _ => bSum) (rSum F.W.K) := cal1 fun {p G rr st σ H x a d Q} L hx e q => by
  cases a <;> (try (simp [bSum] at e; done))
  obtain ⟨b, ys, rfl, h1, r⟩ := hx.seq
  simp only [bSum] at e
  split at e
  · rename_i h
    cases e
    obtain ⟨ns, rfl, rfl⟩ := rs_ints r h
    exact ⟨b, ns, rfl, h1, by rw [vals_int] at q; exact q _ _ _ L .refl (.int _)⟩
  · cases e
def rMin2 : List V → Hp → VK → Prop := fun xs H Q => ∃ i j, xs = [.int i, .int j] ∧ Q (.int (if j < i then j else i)) H
theorem link_min2 : CalD F (f2 fun _ => bMin2) rMin2 := cal2 fun {p G rr st σ H x y a b d Q} L hx hy e q => by
  cases a <;> cases b <;> (try (simp [bMin2] at e; done))
  obtain rfl := hx.int; obtain rfl := hy.int
  simp only [bMin2, Option.some.injEq] at e
  subst e
  exact ⟨_, _, rfl, q _ _ _ L .refl (.int _)⟩
/-! ### int, bool -/
def rIntD : List V → Hp → VK → Prop := fun xs H Q => (∃ i, xs = [.int i] ∧ Q (.int i) H) ∨ ∃ k, xs = [.bl k] ∧ Q (.int (if k then 1 else 0)) H
theorem link_int : CalD F (f1 fun _ => bInt) rIntD := cal1 fun {p G rr st σ H x a d Q} L hx e q => by
  cases a <;> (try (simp [bInt] at e; done))
  · obtain rfl := hx.bl
    simp only [bInt, Option.some.injEq] at e
    subst e
    exact .inr ⟨_, rfl, q _ _ _ L .refl (.int _)⟩
  · obtain rfl := hx.int
    simp only [bInt, Option.some.injEq] at e
    subst e
    exact .inl ⟨_, rfl, q _ _ _ L .refl (.int _)⟩
/-! ### isinstance -/
def Ty.nm : Ty → String
  | .int => "int"
  | .bool => "bool"
  | .tup => "tuple"
  | .lst => "list"
  | .str => "str"
def D.tyN : D → String
  | .non => "NoneType"
  | .bl _ => "bool"
  | .int _ => "int"
  | .str _ => "str"
  | .tup _ => "tuple"
  | .lst _ => "list"
  | _ => "x"
def isaOk : D → Bool
  | .box _ => false
  | .own _ => false
  | .err _ _ => false
  | .fo _ => false
  | .fn _ _ => false
  | .st _ => false
  | .dic _ _ _ => false
  | _ => true
theorem kit_at {d : D} (h : isaOk d = true) (t : Ty) : kitB d.tyN t.nm = some (d.isa t) := by
  cases d <;> cases t <;> first | (cases h; done) | (simp only [D.tyN, Ty.nm, D.isa]; decide +kernel)
theorem tyX_at {p : Bool} {G : Gh} {H : Hp} {x : V} {d : D} (hx : RV F p G H x d) (h : isaOk d = true) : TyX F.W.K H x (.type d.tyN) := by
  cases d with
  | non => obtain rfl := hx.non; exact .base .non
  | bl => obtain rfl := hx.bl; exact .base (.bl _)
  | int => obtain rfl := hx.int; exact .base (.int _)
  | str => obtain rfl := hx.str; exact .base (.str _)
  | tup l =>
    obtain ⟨a, xs, rfl, h1, _⟩ := hx.tup
    rcases h1 with (h1 | ⟨o, h1⟩) | ⟨o, its, n, h1, h2, _⟩
    · exact .base (.tup h1)
    · exact .fTuple h1
    · exact .kTuple h1 h2
  | lst l =>
    obtain ⟨a, xs, rfl, h1, _⟩ := hx.seq
    rcases h1 with (h1 | ⟨o, h1⟩) | ⟨o, its, n, h1, h2, _⟩
    · exact .base (.lst h1)
    · exact .base (.frz h1)
    · exact .kList h1 h2
  | dic => cases h
  | st => cases h
  | box => cases h
  | own => cases h
  | err => cases h
  | fo => cases h
  | fn => cases h
theorem bIsa_of {ts : List Ty} {d e : D} (h : bIsa ts d = some e) : isaOk d = true ∧ e = .bl (ts.any d.isa) := by
  cases d <;> first | (cases h; done) | (simp only [bIsa, Option.some.injEq] at h; exact ⟨rfl, h.symm⟩)
end
section
variable {X : Cx} {F : Fx} [C : CtxW F X] {p : Bool} {e c : Expr} {φ : Ex} {pp pos : Pos}
theorem de_isa (t : Ty) (he : PE X e (tV F p φ)) (hc : PE X c (tC (.ty t.nm))) (hg : Gl X "isinstance") (hm : X.mg "isinstance" = none) (hs : starEach [e, c] X.env = (false, eval e X.env) :: starEach [c] X.env := by rfl) (hs2 : starEach [c] X.env = (false, eval c X.env) :: starEach [] X.env := by rfl)
    (hpl : (backTo pos (starEach [c] X.env)).any (·.1) = false := by rfl) :
    PE X (.Call (.Name "isinstance" pp) [e, c] [] pos) (tD F p (sOp1 (bIsa [t]) φ)) := (pe_callB call_isi hg hm rfl (pa_cons he (pa_cons hc pa_nil hs2) hs) (by decide) (by decide) hs hpl).mimp fun σ H Q ⟨G, r, st, L, k⟩ => by
  refine ⟨G, r, st, L, postV_bind k fun x v H1 G1 e1 L1 ev1 hx k1 => ?_⟩
  obtain ⟨d, e, k2⟩ := post_of k1
  obtain ⟨h1, rfl⟩ := bIsa_of e
  rw [List.any_cons, List.any_nil, Bool.or_false] at k2
  exact ⟨v, .ty t.nm, .type x.1.tyN, .type t.nm, x.1.isa t, rfl, .ty _, by rw [← C.K]; exact tyX_at hx h1, kit_ty (kit_at h1 t), k2 _ _ _ L1 .refl (.bl _)⟩
/-- isinstance(x, (A, B, ..)) -/
def tTys (ts : List Ty) : TA := fun _ H Q => Q (ts.map fun t => V.ty t.nm) H
theorem pts_nil : PA X [] (tTys []) := pa_nil
end
end Mg
end
/-! ## DTest -/
section
set_option Elab.async false
set_option linter.all false
set_option maxRecDepth 100000
set_option maxHeartbeats 2500000
/-! The data layer: tests, and, or, not, chains. -/
namespace Mg
open PySem PySem.Spec PyProof.Rows L2 GxR
section
variable {F : Fx} {p : Bool} {G : Gh} {H : Hp} {v : V}
theorem tru_at {d : D} {k : Bool} (h : RV F p G H v d) (e : d.truth = some k) : TruV F.W.K v H k := by
  cases d with
  | non => obtain rfl := h.non; simp only [D.truth, Option.some.injEq] at e; exact e.symm
  | bl b => obtain rfl := h.bl; simp only [D.truth, Option.some.injEq] at e; exact e.symm
  | int i => obtain rfl := h.int; simp only [D.truth, Option.some.injEq] at e; exact e.symm
  | str s =>
    obtain rfl := h.str
    simp only [D.truth] at e
    split at e
    · rename_i hl
      simp only [Option.some.injEq] at e
      refine ⟨by rw [str_len, ← line_eq]; exact hl, ?_⟩
      rw [str_len, ← e]
      cases s <;> simp
      omega
    · cases e
  | tup l =>
    obtain ⟨a, xs, rfl, h1, r⟩ := h.tup
    simp only [D.truth, Option.some.injEq] at e
    refine .inr (.inl ⟨xs, h1, ?_⟩)
    rw [← e]
    cases r <;> rfl
  | lst l =>
    obtain ⟨a, xs, rfl, h1, r⟩ := h.seq
    simp only [D.truth, Option.some.injEq] at e
    refine .inl ⟨xs, h1, ?_⟩
    rw [← e]
    cases r <;> rfl
  | _ => cases e
end
section
variable {X : Cx} {F : Fx} [C : CtxW F X] {p : Bool} {a b c : Expr} {rest : List Expr} {φ ψ χ : Ex} {t u : Tst} {pos : Pos}
theorem postT_of {r : Env} {σ : L2.St} {G : Gh} {H : Hp} {m : Res (D × Sto)} {f : D × Sto → Res (Bool × Sto)} {Q : Bool → Hp → Prop} {Q' : VK} (h : PostT F p r σ G H (m.bind f) Q)
    (k : ∀ x v H' G', m = .ok x → Rel F G' r x.2 σ H' → Ev p G H G' H' → RV F p G' H' v x.1 → PostT F p r σ G' H' (f x) Q → Q' v H') : PostV F p r σ G H m Q' := by
  cases m with
  | ok x => exact fun v H' G' L' e hv => k x v H' G' rfl L' e hv (PostT.adv h e)
  | exn c fs st => exact h
  | bad => exact h
/-- a value as a test -/
theorem dt_tru (ha : PE X a (tV F p φ)) (he : ∀ whole, isTrue a X.env whole = (do let v ← whole; standAt a.pos; holding [v] (truthy v)) := by intro _; rfl) : PT X a (tT F p (tTru φ)) :=
  (pt_truth ha he).mimp fun σ H Q ⟨G, r, st, L, k⟩ => by
  refine ⟨G, r, st, L, postT_of k fun x v H1 G1 e1 L1 ev1 hx k1 => ?_⟩
  cases h : x.1.truth with
  | none => rw [h] at k1; exact k1.elim
  | some k' =>
    rw [h] at k1
    exact ⟨k', by rw [← C.K]; exact tru_at hx h, k1 _ _ L1 .refl⟩
omit C in
theorem dt_not (ha : PT X a (tT F p t)) : PT X (.UnaryOp .Not a pos) (tT F p (tNot t)) := (pt_not ha).mimp fun σ H Q ⟨G, r, st, L, k⟩ => by
  refine ⟨G, r, st, L, ?_⟩
  unfold Mg.tNot at k
  revert k
  generalize t r st = m
  intro k
  cases m with
  | bad => exact k
  | exn c fs st' => exact k
  | ok x => exact k
omit C in
theorem dw_and1 (ha : PT X a (tT F p t)) : PW X (.BoolOp .And [a] pos) (tT F p t) := pw_and1 ha
omit C in
theorem dw_or1 (ha : PT X a (tT F p t)) : PW X (.BoolOp .Or [a] pos) (tT F p t) := pw_or1 ha
omit C in
theorem postT_bind {r : Env} {σ : L2.St} {G : Gh} {H : Hp} {m : Res (Bool × Sto)} {f : Bool × Sto → Res (Bool × Sto)} {Q Q' : Bool → Hp → Prop} (h : PostT F p r σ G H (m.bind f) Q)
    (k : ∀ x H' G', m = .ok x → Rel F G' r x.2 σ H' → Ev p G H G' H' → PostT F p r σ G' H' (f x) Q → Q' x.1 H') : PostT F p r σ G H m Q' := by
  cases m with
  | ok x => exact fun H' G' L' e => k x H' G' rfl L' e (PostT.adv h e)
  | exn c fs st => exact h
  | bad => exact h
omit C in
theorem dw_and (ha : PT X a (tT F p t)) (hb : PW X (.BoolOp .And (b :: rest) pos) (tT F p u)) : PW X (.BoolOp .And (a :: b :: rest) pos) (tT F p (tAnd t u)) := (pw_and ha hb).mimp fun σ H Q ⟨G, r, st, L, k⟩ => by
  refine ⟨G, r, st, L, postT_bind k fun x H1 G1 e1 L1 ev1 k1 => ?_⟩
  obtain ⟨c, st'⟩ := x
  cases c with
  | true => exact ⟨G1, r, st', L1, k1⟩
  | false => exact k1 _ _ L1 .refl
omit C in
theorem dw_or (ha : PT X a (tT F p t)) (hb : PW X (.BoolOp .Or (b :: rest) pos) (tT F p u)) : PW X (.BoolOp .Or (a :: b :: rest) pos) (tT F p (tOr t u)) := (pw_or ha hb).mimp fun σ H Q ⟨G, r, st, L, k⟩ => by
  refine ⟨G, r, st, L, postT_bind k fun x H1 G1 e1 L1 ev1 k1 => ?_⟩
  obtain ⟨c, st'⟩ := x
  cases c with
  | true => exact k1 _ _ L1 .refl
  | false => exact ⟨G1, r, st', L1, k1⟩
/-! as values -/
theorem de_one {op : BoolOp} (ha : PE X a (tD F p φ)) : PE X (.BoolOp op [a] pos) (tD F p φ) := pe_one ha
theorem de_and (ha : PE X a (tD F p φ)) (hb : PE X (.BoolOp .And (b :: rest) pos) (tD F p ψ)) : PE X (.BoolOp .And (a :: b :: rest) pos) (tD F p (sAnd φ ψ)) := (pe_andT ha hb).mimp fun σ H Q ⟨G, r, st, L, k⟩ => by
  refine ⟨G, r, st, L, ?_⟩
  unfold sAnd at k
  revert k
  generalize φ r st = m
  intro k
  cases m with
  | bad => exact k
  | exn c fs st' => exact k
  | ok x =>
    intro v H1 G1 L1 ev1 hv
    have k1 := Post.adv k ev1
    revert k1
    simp only [Res.ok_bind]
    cases h : x.1.truth with
    | none => exact fun k1 => k1.elim
    | some c =>
      intro k1
      refine ⟨c, by rw [← C.K]; exact tru_at (p := p) (.inl hv) h, ?_⟩
      cases c with
      | true => exact ⟨G1, r, x.2, L1, k1⟩
      | false => exact k1 v H1 G1 L1 .refl hv
theorem de_not (ha : PE X a (tV F p φ)) : PE X (.UnaryOp .Not a pos) (tD F p (sTst (tNot (tTru φ)))) := (pe_notT ha).mimp fun σ H Q ⟨G, r, st, L, k⟩ => by
  refine ⟨G, r, st, L, ?_⟩
  unfold sTst Mg.tNot tTru at k
  revert k
  generalize φ r st = m
  intro k
  cases m with
  | bad => exact k
  | exn c fs st' => exact k
  | ok x =>
    intro v H1 G1 L1 ev1 hv
    have k1 := Post.adv k ev1
    revert k1
    simp only [Res.ok_bind]
    cases h : x.1.truth with
    | none => exact fun k1 => k1.elim
    | some c =>
      intro k1
      exact ⟨c, by rw [← C.K]; exact tru_at hv h, k1 _ _ _ L1 .refl (.bl _)⟩
omit C in
theorem de_ite {cnd : Expr} (hc : PT X cnd (tT F p t)) (ha : PE X a (tD F p φ)) (hb : PE X b (tD F p ψ)) : PE X (.IfExp cnd a b pos) (tD F p (sIte t φ ψ)) := (pe_ifExp hc ha hb).mimp fun σ H Q ⟨G, r, st, L, k⟩ => by
  refine ⟨G, r, st, L, ?_⟩
  unfold sIte at k
  revert k
  generalize t r st = m
  intro k
  cases m with
  | bad => exact k
  | exn c fs st' => exact k
  | ok x =>
    intro H1 G1 L1 ev1
    have k1 := Post.adv k ev1
    obtain ⟨c, st'⟩ := x
    cases c with
    | true => exact ⟨G1, r, st', L1, k1⟩
    | false => exact ⟨G1, r, st', L1, k1⟩
/-! a < b < c -/
omit C in
theorem chain_ok {f g : D → D → Option D} {r r' : R2} (hf : OpD F (fun _ => f) r) (hg : OpD F (fun _ => g) r') {σ : L2.St} {H : Hp} {Q : VK} (h : tD F p (sChain f g φ ψ χ) σ H Q) : tChain r r' (tV F p φ) (tV F p ψ) (tV F p χ) σ H Q := by
  obtain ⟨G, rr, st, L, k⟩ := h
  refine ⟨G, rr, st, L, postV_bind k fun x v H1 G1 e1 L1 ev1 hx k1 => ?_⟩
  refine ⟨G1, rr, x.2, L1, postV_bind k1 fun y u H2 G2 e2 L2 ev2 hy k2 => ?_⟩
  cases h : f x.1 y.1 with
  | none => rw [h] at k2; exact k2.elim
  | some d =>
    rw [h] at k2
    refine hf L2 (hx.mono ev2) hy h fun z H3 G3 L3 ev3 hz => ?_
    simp only [Res.of_some, Res.ok_bind] at k2
    cases d <;> (try (exact k2.elim))
    rename_i c
    refine ⟨c, RV.bl (F := F) (p := p) (.inl hz), ?_⟩
    cases c with
    | true =>
      rw [if_pos rfl]
      refine ⟨G3, rr, y.2, L3, postV_bind (Post.adv k2 ev3.low) fun w u' H4 G4 e4 L4 ev4 hw k4 => ?_⟩
      obtain ⟨d', e', k5⟩ := post_of k4
      exact hg L4 ((hy.mono ev3.low).mono ev4) hw e' fun v' H' G' L' ev hr => k5 v' H' G' L' ev.low hr
    | false =>
      rw [if_neg (by simp)]
      exact Post.adv k2 ev3.low _ _ _ L3 .refl (.bl _)
omit C in
theorem de_chain {op op' : CmpOp} {f g : D → D → Option D} {r r' : R2} (ho : OpR X (compareOp op) r) (ho' : OpR X (compareOp op') r') (hf : OpD F (fun _ => f) r) (hg : OpD F (fun _ => g) r') (ha : PE X a (tV F p φ)) (hb : PE X b (tV F p ψ)) (hc : PE X c (tV F p χ))
    (hm : lastMarks [op, op'] [b, c] = false := by with_unfolding_all rfl) : PE X (.Compare a [op, op'] [b, c] pos) (tD F p (sChain f g φ ψ χ)) :=
  (pe_chain ho ho' ha hb hc hm).mimp fun _ _ _ h => chain_ok hf hg h
omit C in
theorem dt_chain {op op' : CmpOp} {f g : D → D → Option D} {r r' : R2} (ho : OpR X (compareOp op) r) (ho' : OpR X (compareOp op') r') (hf : OpD F (fun _ => f) r) (hg : OpD F (fun _ => g) r') (hB : BlF fun _ => g) (ha : PE X a (tV F p φ)) (hb : PE X b (tV F p ψ)) (hc : PE X c (tV F p χ))
    (hm : lastMarks [op, op'] [b, c] = false := by with_unfolding_all rfl) : PT X (.Compare a [op, op'] [b, c] pos) (tT F p (tTru (sChain f g φ ψ χ))) :=
  (pt_chain ho ho' ha hb hc hm).mimp fun σ H Q h => by
  obtain ⟨G, rr, st, L, k⟩ := h
  refine chain_ok hf hg ⟨G, rr, st, L, ?_⟩
  unfold tTru at k
  revert k
  generalize hm : sChain f g φ ψ χ rr st = m
  intro k
  cases m with
  | bad => exact k
  | exn c fs st' => exact k
  | ok x =>
    intro v H' G' L' ev hr
    have hx : ∃ b, x.1 = .bl b := by
      unfold sChain at hm
      generalize φ rr st = m1 at hm
      cases m1 with
      | bad => cases hm
      | exn => cases hm
      | ok x1 =>
        simp only [Res.ok_bind] at hm
        generalize ψ rr x1.2 = m2 at hm
        cases m2 with
        | bad => cases hm
        | exn => cases hm
        | ok x2 =>
          simp only [Res.ok_bind] at hm
          cases ho : f x1.1 x2.1 with
          | none => rw [ho] at hm; cases hm
          | some d =>
            rw [ho] at hm
            simp only [Res.of_some, Res.ok_bind] at hm
            cases d <;> (try (cases hm; done))
            rename_i c
            cases c with
            | false => cases hm; exact ⟨_, rfl⟩
            | true =>
              simp only at hm
              generalize χ rr x2.2 = m3 at hm
              cases m3 with
              | bad => cases hm
              | exn => cases hm
              | ok x3 =>
                simp only [Res.ok_bind] at hm
                cases hq : g x2.1 x3.1 with
                | none => rw [hq] at hm; cases hm
                | some d =>
                  rw [hq] at hm
                  cases hm
                  exact hB x3.2 _ _ _ hq
    obtain ⟨b, eb⟩ := hx
    obtain ⟨d, st'⟩ := x
    simp only at eb
    subst eb
    exact ⟨b, RV.bl (F := F) (p := p) (.inl hr), k H' G' L' ev⟩
end
/-! operations that tell a bool -/
theorem blf_eq : BlF fun _ => cEq := fun _ x y d h => by
  simp only [cEq] at h
  split at h
  · cases h; exact ⟨_, rfl⟩
  · cases h
theorem blf_ne : BlF fun _ => cNe := fun _ x y d h => by
  simp only [cNe] at h
  split at h
  · cases h; exact ⟨_, rfl⟩
  · cases h
theorem blf_int {g : Int → Int → Bool} : BlF fun _ => cInt g := fun _ x y d h => by
  cases x <;> cases y <;> (try (simp [cInt] at h; done))
  cases h; exact ⟨_, rfl⟩
theorem blf_lt : BlF fun _ => cLt := fun _ x y d h => by
  cases x <;> cases y <;> (try (simp [cLt] at h; done))
  · cases h; exact ⟨_, rfl⟩
  · simp only [cLt] at h
    split at h
    · cases h; exact ⟨_, rfl⟩
    · cases h
theorem blf_le : BlF fun _ => cLe := fun _ x y d h => by
  cases x <;> cases y <;> (try (simp [cLe] at h; done))
  · cases h; exact ⟨_, rfl⟩
  · simp only [cLe] at h
    split at h
    · cases h; exact ⟨_, rfl⟩
    · cases h
theorem blf_in : BlF fun _ => cIn := fun _ x y d h => by
  cases y <;> (try (simp [cIn] at h; done)) <;> simp only [cIn] at h <;> split at h <;> cases h <;> exact ⟨_, rfl⟩
theorem blf_notin : BlF fun _ => cNotIn := fun _ x y d h => by
  cases y <;> (try (simp [cNotIn] at h; done)) <;> simp only [cNotIn] at h <;> split at h <;> cases h <;> exact ⟨_, rfl⟩
end Mg
end
/-! ## DWalk -/
section
set_option Elab.async false
set_option linter.all false
set_option maxRecDepth 100000
set_option maxHeartbeats 2500000
/-! The data layer: what is walked; targets; comprehensions. -/
namespace Mg
open PySem PySem.Spec PyProof.Rows L2 GxR
/-! ### the frame, again -/
section
variable {F : Fx} {p : Bool} {G G' : Gh} {r r' : Env} {st st' : Sto} {σ σ' : L2.St} {H H' : Hp}
def Fx.noex (F : Fx) : Fx := { F with ex := fun _ _ _ _ _ _ => False }
theorem Rel.noex (L : Rel F G r st σ H) : Rel F.noex G r st σ H := ⟨L.len, L.vl, L.ow, L.nb, L.bx, L.tb, L.on⟩
theorem Rel.exn (L : Rel F.noex G r st σ H) : Rel F G r st σ H := ⟨L.len, L.vl, L.ow, L.nb, L.bx, L.tb, L.on⟩
/-- the frame that one had, behind an expression in another frame -/
theorem Rel.back (L : Rel F G r st σ H) (e : Ev p G H G' H') (L' : Rel F G' r' st' σ' H') : Rel F G' r st' σ H' := by
  refine ⟨L.len, fun i d h ho => ?_, fun i d h => ?_, L'.nb, L'.bx, L'.tb, L'.on⟩
  · obtain ⟨v, h1, h2⟩ := L.vl i d h ho
    exact ⟨v, h1, R.mono e.s1 h2⟩
  · obtain ⟨a, h1, h2, o, ho, hq⟩ := L.ow i d h
    obtain ⟨k1, k2⟩ := e.sl a o (fun n => by rw [h2]; simp) (fun n i => by rw [h2]; simp) ho hq.ntbl
    exact ⟨a, h1, k2.trans h2, o, k1, Ob.mono e.s1 hq⟩
theorem wipe_get (σ : L2.St) (i : Nat) : ∀ vs : List Nat, (wipe σ vs)[i]? = if i ∈ vs then σ[i]?.map (fun _ => none) else σ[i]?
  | [] => by simp [wipe]
  | v :: vs => by
    unfold wipe
    rw [List.getElem?_set]
    have ih := wipe_get σ i vs
    by_cases h : v = i
    · subst h
      rw [wipe_length]
      simp only [if_true, List.mem_cons, true_or]
      by_cases hl : v < σ.length
      · simp [hl]
      · simp [hl]
    · rw [if_neg h, ih]
      have : i ≠ v := fun e => h e.symm
      simp [List.mem_cons, this]
theorem wipeE_get (r : Env) (i : Nat) : ∀ vs : List Nat, (wipeE r vs)[i]? = if i ∈ vs then r[i]?.map (fun _ => none) else r[i]?
  | [] => by simp [wipeE]
  | v :: vs => by
    unfold wipeE
    rw [List.getElem?_set]
    have ih := wipeE_get r i vs
    have hlen : (wipeE r vs).length = r.length := by
      clear ih
      induction vs with
      | nil => rfl
      | cons a vs ih => unfold wipeE; rw [List.length_set, ih]
    by_cases h : v = i
    · subst h
      rw [hlen]
      simp only [if_true, List.mem_cons, true_or]
      by_cases hl : v < r.length
      · simp [hl]
      · simp [hl]
    · rw [if_neg h, ih]
      have : i ≠ v := fun e => h e.symm
      simp [List.mem_cons, this]
theorem wipeE_length (r : Env) : ∀ vs : List Nat, (wipeE r vs).length = r.length
  | [] => rfl
  | v :: vs => by unfold wipeE; rw [List.length_set, wipeE_length r vs]
theorem wipe_eq {σ τ : L2.St} {vs : List Nat} (hl : τ.length = σ.length) (h : ∀ i, i ∉ vs → τ[i]? = σ[i]?) : wipe τ vs = wipe σ vs := by
  apply List.ext_getElem?
  intro i
  rw [wipe_get, wipe_get]
  by_cases hi : i ∈ vs
  · rw [if_pos hi, if_pos hi]
    by_cases h2 : i < σ.length
    · simp [h2, hl]
    · rw [List.getElem?_eq_none (by omega), List.getElem?_eq_none (by omega)]
  · rw [if_neg hi, if_neg hi, h i hi]
theorem Rel.wipe (L : Rel F G r st σ H) (vs : List Nat) : Rel F G (wipeE r vs) st (wipe σ vs) H := by
  refine ⟨by rw [wipe_length, wipeE_length]; exact L.len, fun i d h ho => ?_, fun i d h => ?_, L.nb, L.bx, L.tb, L.on⟩
  · rw [wipeE_get] at h
    split at h
    · cases hh : r[i]? with
      | none => rw [hh] at h; cases h
      | some q => rw [hh] at h; cases h
    · rename_i hi
      obtain ⟨v, h1, h2⟩ := L.vl i d h ho
      exact ⟨v, by rw [wipe_get, if_neg hi]; exact h1, h2⟩
  · rw [wipeE_get] at h
    split at h
    · cases hh : r[i]? with
      | none => rw [hh] at h; cases h
      | some q => rw [hh] at h; cases h
    · rename_i hi
      obtain ⟨a, h1, h2⟩ := L.ow i d h
      exact ⟨a, by rw [wipe_get, if_neg hi]; exact h1, h2⟩
theorem Rel.set {i : Nat} {v : V} {d : D} (L : Rel F G r st σ H) (h : R F.W G H v d) : Rel F G (r.set i (some d)) st (σ.set i (some v)) H := by
  refine ⟨by rw [List.length_set, List.length_set]; exact L.len, fun j e hj ho => ?_, fun j e hj => ?_, L.nb, L.bx, L.tb, L.on⟩
  · rw [List.getElem?_set] at hj ⊢
    by_cases hij : i = j
    · rw [if_pos hij] at hj ⊢
      split at hj
      · rename_i hl
        cases hj
        exact ⟨v, by rw [if_pos (by rw [L.len]; exact hl)], h⟩
      · cases hj
    · rw [if_neg hij] at hj ⊢
      exact L.vl j e hj ho
  · rw [List.getElem?_set] at hj ⊢
    by_cases hij : i = j
    · rw [if_pos hij] at hj
      split at hj
      · cases hj
        exact (RV.noOwn (F := F) (p := true) (.inl h)).elim
      · cases hj
    · rw [if_neg hij] at hj ⊢
      exact L.ow j e hj
/-- a list that nobody has but the walk is changed -/
theorem St1.wr {D : Addr} {xs ys : List V} (h : H D = some (.lst xs)) (hr : G.rl D = none) : St1 G H G (upd H D (.lst ys)) :=
  ⟨fun a zs e => by rw [upd_ne (fun z => by rw [z, h] at e; cases e)]; exact e, fun a o u e => by rw [upd_ne (fun z => by rw [z, h] at e; cases e)]; exact e,
    fun a o e ho _ => by rw [upd_ne (fun z => by rw [z, hr] at e; cases e)]; exact ho, fun _ e => e, Nat.le_refl _, fun _ _ => rfl, fun a e => by
      by_cases hx : a = D
      · subst hx; rw [upd_same]; simp
      · rw [upd_ne hx]; exact e⟩
theorem Rel.wr {D : Addr} {xs ys : List V} (L : Rel F G r st σ H) (h : H D = some (.lst xs)) (hr : G.rl D = none) : Rel F G r st σ (upd H D (.lst ys)) := by
  have s := St1.wr (ys := ys) h hr
  refine ⟨L.len, fun i d e ho => ?_, fun i d e => ?_, L.nb, fun n b e => ?_, ?_, fun a q e => s.up a (L.on a q e)⟩
  · obtain ⟨v, h1, h2⟩ := L.vl i d e ho
    exact ⟨v, h1, R.mono s h2⟩
  · obtain ⟨a, h1, h2, h3⟩ := L.ow i d e
    exact ⟨a, h1, h2, h3.mono s fun o e _ => by rw [upd_ne (fun z => by rw [z, hr] at h2; cases h2)]; exact e⟩
  · obtain ⟨h1, h2⟩ := L.bx n b e
    exact ⟨h1, h2.mono s (fun o e _ => by rw [upd_ne (fun z => by rw [z, hr] at h1; cases h1)]; exact e) fun y j o hy e _ => ⟨by rw [upd_ne (fun z => by rw [z, hr] at hy; cases hy)]; exact e, hy⟩⟩
  · exact s.tbs L.tb fun P ps e => by rw [upd_ne (fun z => by rw [z, h] at e; cases e)]; exact e
theorem Ev.wr {D : Addr} {ys : List V} (e : Ev p G H G' H') (h0 : H D = none) {xs : List V} (h : H' D = some (.lst xs)) (hr : G'.rl D = none) : Ev p G H G' (upd H' D (.lst ys)) :=
  ⟨e.s1.trans (.wr h hr), fun a o q1 q2 ha nt => let ⟨k1, k2⟩ := e.sl a o q1 q2 ha nt; ⟨by rw [upd_ne (fun z => by rw [z, h0] at ha; cases ha)]; exact k1, k2⟩,
    fun z a o ha nt => let ⟨k1, k2⟩ := e.eq z a o ha nt; ⟨by rw [upd_ne (fun z => by rw [z, h0] at ha; cases ha)]; exact k1, k2⟩⟩
end
/-! ### targets -/
mutual
def Tg.ixs : Tg → List Nat
  | .nm i => [i]
  | .tup l => Tg.ixss l
def Tg.ixss : List Tg → List Nat
  | [] => []
  | t :: ts => Tg.ixs t ++ Tg.ixss ts
end
structure DG (F : Fx) (X : Cx) (tg : Expr) (g : TG) (t : Tg) : Prop where
  pg : PG X tg g
  ok : ∀ {G : Gh} {r r' : Env} {st : Sto} {σ : L2.St} {H : Hp} {x : V} {d : D} {Q : L2.St → Hp → Prop}, Rel F G r st σ H → R F.W G H x d → t.bind d r = some r' →
    (∀ σ', Rel F G r' st σ' H → σ'.length = σ.length → (∀ i, i ∉ t.ixs → σ'[i]? = σ[i]?) → Q σ' H) → g x σ H Q
structure DGs (F : Fx) (X : Cx) (tgs : List Expr) (g : TGs) (ts : List Tg) : Prop where
  pg : PGs X tgs g
  ok : ∀ {G : Gh} {r r' : Env} {st : Sto} {σ : L2.St} {H : Hp} {xs : List V} {ds : List D} {Q : L2.St → Hp → Prop}, Rel F G r st σ H → Rs F.W G H xs ds → Tg.binds ts ds r = some r' →
    (∀ σ', Rel F G r' st σ' H → σ'.length = σ.length → (∀ i, i ∉ Tg.ixss ts → σ'[i]? = σ[i]?) → Q σ' H) → g xs σ H Q
section
variable {F : Fx} {X : Cx} {pos : Pos}
theorem dg_nm (i : Nat) {x : Str} (hN : X.N.Nodup) (hi : X.N[i]? = some x := by rfl) (hx : Loc X.env.scope x := by first | exact Or.inl rfl | exact Or.inr rfl) (hf : X.fn x = true ∨ X.env.scope.names.lookup x = some .local := by first | exact .inl rfl | exact .inr rfl) : DG F X (.Name x pos) (gName i) (.nm i) :=
  ⟨pg_name hN hi hx hf, fun {G r r' st σ H x d Q} L h e k => by
    rw [Tg.bind] at e
    cases e
    exact k _ (L.set h) (by rw [List.length_set]) fun j hj => List.getElem?_set_ne (fun z => hj (by rw [Tg.ixs, z]; exact List.mem_singleton.mpr rfl))⟩
theorem dgs_nil : DGs F X [] gNil [] := ⟨pgs_nil, fun {G r r' st σ H xs ds Q} L h e k => by
  cases h with
  | nil =>
    rw [Tg.binds] at e
    cases e
    exact ⟨rfl, k σ L rfl fun _ _ => rfl⟩
  | cons => simp [Tg.binds] at e⟩
theorem dgs_cons {e : Expr} {es : List Expr} {g : TG} {gs : TGs} {t : Tg} {ts : List Tg} (h1 : DG F X e g t) (h2 : DGs F X es gs ts)
    (hs : (assignEach (e :: es) X.env).map (·.2) = assign e X.env :: (assignEach es X.env).map (·.2) := by rfl) : DGs F X (e :: es) (gCons g gs) (t :: ts) := ⟨pgs_cons h1.pg h2.pg hs, fun {G r r' st σ H xs ds Q} L h e k => by
  cases h with
  | nil => simp [Tg.binds] at e
  | cons hv hr =>
    rw [Tg.binds] at e
    obtain ⟨r1, e1, e2⟩ := Option.bind_eq_some_iff.mp (id e)
    refine ⟨_, _, rfl, h1.ok L hv e1 fun σ1 L1 z1 y1 => h2.ok L1 hr e2 fun σ2 L2 z2 y2 => k σ2 L2 (z2.trans z1) fun i hi => ?_⟩
    rw [Tg.ixss, List.mem_append, not_or] at hi
    exact (y2 i hi.2).trans (y1 i hi.1)⟩
theorem dg_tup [C : Ctx F X] {es : List Expr} {k : Nat} {gs : TGs} {ts : List Tg} {n : Nat} (h : DGs F X es gs ts) (ht : ts.length = n := by rfl)
    (hn : (assignEach es X.env).length = n := by rfl) (hst : (assignEach es X.env).findIdx? (·.1) = none := by rfl) : DG F X (.Tuple es k pos) (gTup F.W.K n gs) (.tup ts) :=
  ⟨by rw [C.K]; exact pg_tup C.calm h.pg hn hst, fun {G r r' st σ H x d Q} L hv e k => by
    cases d with
    | tup ds =>
      rw [Tg.bind] at e
      obtain ⟨a, xs, rfl, h1, h2⟩ := RV.tup (F := F) (p := true) (.inl hv)
      refine ⟨a, xs, rfl, h1, ?_, h.ok L h2 e k⟩
      rw [h2.length, ← ht]
      clear h ht hn hst k h2 h1 hv L
      induction ts generalizing ds r with
      | nil =>
        cases ds with
        | nil => rfl
        | cons => simp [Tg.binds] at e
      | cons t ts ih =>
        cases ds with
        | nil => simp [Tg.binds] at e
        | cons d ds =>
          rw [Tg.binds] at e
          obtain ⟨r1, e1, e2⟩ := Option.bind_eq_some_iff.mp (id e)
          rw [List.length_cons, List.length_cons, ih _ e2]
    | _ => simp [Tg.bind] at e⟩
end
/-! ### walks -/
def EvK : Option Bool → Gh → Hp → Gh → Hp → Prop
  | some p => Ev p
  | none => Evs
def Walks (F : Fx) (J : It) (ds : List D) (G : Gh) (H : Hp) : Prop :=
  (∀ i d, ds[i]? = some d → J.go i H ∧ ∀ x H', J.yld i H x H' → (H' = H ∨ ∃ T xs, H T = none ∧ H' = upd H T (.tup xs)) ∧ R F.W G H' x d) ∧ J.stop ds.length H
def PostI (F : Fx) (p : Bool) (q : Option Bool) (r : Env) (σ : L2.St) (G : Gh) (H : Hp) (m : Res (List D × Sto)) (Rr : It → Hp → Prop) : Prop := match m with
  | .ok x => ∀ J H' G', Rel F G' r x.2 σ H' → Ev p G H G' H' → (∀ G2 H2, EvK q G' H' G2 H2 → Walks F J x.1 G2 H2) → Rr J H'
  | .exn c fs st' => ∀ H' G', Rel F G' r st' σ H' → Ev p G H G' H' → F.ex c fs st' G' σ H'
  | .bad => False
def tI (F : Fx) (p : Bool) (q : Option Bool) (ω : Wk) : TI := fun σ H Rr => ∃ G r st, Rel F G r st σ H ∧ PostI F p q r σ G H (ω r st) Rr
theorem _root_.L2.PI.mimp {X : Cx} {tg e : Expr} {t t' : TI} (h : PI X tg e t) (k : ∀ σ H Q, t' σ H Q → t σ H Q) : PI X tg e t' := ⟨fun pins s σ H Q I q => h.run pins s σ H Q I (k σ H Q q)⟩
/-- a tuple, a list that is walked -/
def iSeq (K : PySem.W.Frag) (tl : TE) : TI := fun σ H Rr => tl σ H fun x H1 => ∃ a, x = .ref a ∧ (((∃ xs, SqL K H1 a xs) ∧ Rr (Itl K a) H1) ∨ ((∃ xs, SqT K H1 a xs) ∧ Rr (Itt K a) H1))
theorem pi_seq {X : Cx} {tg l : Expr} {tl : TE} (hl : PE X l tl) : PI X tg l (iSeq X.K tl) := ⟨fun pins s σ H R I h => thn (hl.run pins s σ H _ I h) fun v s1 ⟨x, H1, I1, r1, a, ex, two⟩ => by
  subst ex
  cases r1
  refine two.elim (fun ⟨⟨xs, hq⟩, q⟩ => ?_) fun ⟨⟨xs, hq⟩, q⟩ => ?_
  · obtain ⟨_, _, p, _⟩ := I1.list hq
    exact wpAny_pyIter_list p.isList (pi_one (tk := s1.toks) I1 _ (turn_list a _) ⟨_, Heap.get?_push_size _ rfl, rfl, rfl⟩ q)
  · obtain ⟨_, _, p, _⟩ := I1.tuple hq
    exact wpAny_pyIter_tuple p (pi_one (tk := s1.toks) I1 _ (turn_tuple a _) ⟨_, Heap.get?_push_size _ rfl, rfl, rfl⟩ q)⟩
section
variable {F : Fx} {J : It} {ds : List D} {G : Gh} {H : Hp} {a : Addr} {xs : List V}
theorem walks_list {K : PySem.W.Frag} (h : SqL K H a xs) (r : Rs F.W G H xs ds) : Walks F (Itl K a) ds G H :=
  ⟨fun i d e => let ⟨v, e1, hr⟩ := r.get e; ⟨⟨xs, v, h, e1⟩, fun x H' ⟨eH, hx⟩ => by
    subst eH
    have := hx xs h
    rw [e1] at this
    cases this
    exact ⟨.inl rfl, hr⟩⟩, ⟨xs, h, by rw [r.length]; exact Nat.le_refl _⟩⟩
theorem walks_tup {K : PySem.W.Frag} (h : SqT K H a xs) (r : Rs F.W G H xs ds) : Walks F (Itt K a) ds G H :=
  ⟨fun i d e => let ⟨v, e1, hr⟩ := r.get e; ⟨⟨xs, v, h, e1⟩, fun x H' ⟨eH, hx⟩ => by
    subst eH
    have := hx xs h
    rw [e1] at this
    cases this
    exact ⟨.inl rfl, hr⟩⟩, ⟨xs, h, by rw [r.length]; exact Nat.le_refl _⟩⟩
theorem rngF_get : ∀ (n i : Nat) (lo c : Int), (rngF lo c n)[i]? = if i < n then some (.int (lo + i * c)) else none
  | 0, i, lo, c => by simp [rngF]
  | n + 1, 0, lo, c => by simp [rngF]
  | n + 1, i + 1, lo, c => by
    rw [rngF, List.getElem?_cons_succ, rngF_get n i]
    have : lo + c + (i : Int) * c = lo + ((i + 1 : Nat) : Int) * c := by
      rw [Int.natCast_add, Int.add_mul]
      omega
    simp only [this, Nat.add_lt_add_iff_right]
theorem rngF_length : ∀ (n : Nat) (lo c : Int), (rngF lo c n).length = n
  | 0, _, _ => rfl
  | n + 1, lo, c => by rw [rngF, List.length_cons, rngF_length n]
theorem walks_range {lo : Int} {n : Nat} : Walks F (Itr lo n) (rngF lo 1 n) G H :=
  ⟨fun i d e => (by
    rw [rngF_get] at e
    split at e
    · rename_i hi
      cases e
      refine ⟨hi, fun x H' ⟨eH, ex⟩ => ?_⟩
      subst eH ex
      rw [Int.mul_one]
      exact ⟨.inl rfl, .int _⟩
    · cases e), by show n ≤ (rngF lo 1 n).length; rw [rngF_length]; exact Nat.le_refl n⟩
end
section
variable {F : Fx} {X : Cx} [C : Ctx F X] {p : Bool} {tg e e2 : Expr} {φ ψ : Ex} {pp pos : Pos}
omit C in
theorem postI_of {q : Option Bool} {r : Env} {σ : L2.St} {G : Gh} {H : Hp} {m : Res (D × Sto)} {f : D × Sto → Res (List D × Sto)} {Rr : It → Hp → Prop} {Q' : VK} (h : PostI F p q r σ G H (m.bind f) Rr)
    (k : ∀ x v H' G', m = .ok x → Rel F G' r x.2 σ H' → Ev p G H G' H' → RV F p G' H' v x.1 → PostI F p q r σ G' H' (f x) Rr → Q' v H') : PostV F p r σ G H m Q' := by
  cases m with
  | ok x => exact fun v H' G' L' e hv => k x v H' G' rfl L' e hv (by
      revert h
      simp only [Res.ok_bind]
      generalize f x = m
      intro h
      cases m with
      | ok y => exact fun J H2 G2 L2 e2 w => h J H2 G2 L2 (e.trans e2) w
      | exn c fs st => exact fun H2 G2 L2 e2 => h H2 G2 L2 (e.trans e2)
      | bad => exact h)
  | exn c fs st => exact h
  | bad => exact h
def wSeq (a : Ex) : Wk := fun r st => (a r st).bind fun x => match seqOf x.2 x.1 with
  | some l => .ok (l, x.2)
  | none => .bad
/-- in a comprehension: it may be a name's own list -/
def wBor (a : Ex) : Wk := fun r st => (a r st).bind fun x => match x.1 with
  | .tup l => .ok (l, x.2)
  | .lst l => .ok (l, x.2)
  | _ => .bad
theorem di_bor (he : PE X e (tV F p φ)) : PI X tg e (tI F p (some p) (wBor φ)) := (pi_seq he).mimp fun σ H Rr ⟨G, r, st, L, k⟩ => by
  refine ⟨G, r, st, L, postI_of k fun x v H1 G1 e1 L1 ev1 hx k1 => ?_⟩
  obtain ⟨d, st'⟩ := x
  cases d <;> (try (exact k1.elim))
  · obtain ⟨a, xs, rfl, h, r'⟩ := hx.tup
    refine ⟨a, rfl, .inr ⟨⟨xs, by rw [← C.K]; exact h⟩, k1 _ H1 G1 L1 .refl fun G2 H2 e2 => ?_⟩⟩
    obtain ⟨a2, xs2, e, h2, r2⟩ := (hx.mono e2).tup
    cases e
    rw [← C.K]
    exact walks_tup h2 r2
  · obtain ⟨a, xs, rfl, h, r'⟩ := hx.seq
    refine ⟨a, rfl, .inl ⟨⟨xs, by rw [← C.K]; exact h⟩, k1 _ H1 G1 L1 .refl fun G2 H2 e2 => ?_⟩⟩
    obtain ⟨a2, xs2, e, h2, r2⟩ := (hx.mono e2).seq
    cases e
    rw [← C.K]
    exact walks_list h2 r2
omit C in
theorem EvK.s1 {q : Option Bool} {G G' : Gh} {H H' : Hp} (e : EvK q G H G' H') : St1 G H G' H' := by
  cases q with
  | none => exact Evs.s1 e
  | some p => exact Ev.s1 e
/-- data: walked in any way -/
theorem di_dat {q : Option Bool} (he : PE X e (tD F p φ)) : PI X tg e (tI F p q (wBor φ)) := (pi_seq he).mimp fun σ H Rr ⟨G, r, st, L, k⟩ => by
  refine ⟨G, r, st, L, ?_⟩
  unfold wBor at k
  revert k
  generalize φ r st = m
  intro k
  cases m with
  | bad => exact k
  | exn c fs st' => exact k
  | ok x =>
    intro v H1 G1 L1 ev1 hx
    obtain ⟨d, st'⟩ := x
    simp only [Res.ok_bind] at k
    cases d <;> (try (exact k.elim))
    · obtain ⟨a, xs, rfl, h, r'⟩ := RV.tup (F := F) (p := p) (.inl hx)
      refine ⟨a, rfl, .inr ⟨⟨xs, by rw [← C.K]; exact h⟩, k _ H1 G1 L1 ev1 fun G2 H2 e2 => ?_⟩⟩
      obtain ⟨a2, xs2, e, h2, r2⟩ := RV.tup (F := F) (p := p) (.inl (R.mono e2.s1 hx))
      cases e
      rw [← C.K]
      exact walks_tup h2 r2
    · obtain ⟨a, xs, rfl, h, r'⟩ := RV.seq (F := F) (p := p) (.inl hx)
      refine ⟨a, rfl, .inl ⟨⟨xs, by rw [← C.K]; exact h⟩, k _ H1 G1 L1 ev1 fun G2 H2 e2 => ?_⟩⟩
      obtain ⟨a2, xs2, e, h2, r2⟩ := RV.seq (F := F) (p := p) (.inl (R.mono e2.s1 hx))
      cases e
      rw [← C.K]
      exact walks_list h2 r2
omit C in
theorem okEnd_lt {i : Int} (h : okEnd i = true) : -1000000000 < i ∧ i < 1000000000 := by
  unfold okEnd at h
  rw [Bool.and_eq_true, decide_eq_true_eq, decide_eq_true_eq] at h
  exact h
omit C in
theorem di_range1 {q : Option Bool} (hg : Gl X "range") (hm : X.mg "range" = none) (he : PE X e (tV F p φ)) (hs : starEach [e] X.env = [(false, eval e X.env)] := by rfl) : PI X tg (.Call (.Name "range" pp) [e] [] pos) (tI F p q (wRng1 φ)) :=
  (pi_range1 hg hm (pa_cons he pa_nil hs) hs).mimp fun σ H Rr ⟨G, r, st, L, k⟩ => by
  refine ⟨G, r, st, L, postI_of k fun x v H1 G1 e1 L1 ev1 hx k1 => ?_⟩
  obtain ⟨d, st'⟩ := x
  cases d <;> (try (exact k1.elim))
  rename_i n
  obtain rfl := hx.int
  simp only at k1
  split at k1
  · rename_i hn
    have := okEnd_lt hn
    exact ⟨n, rfl, by omega, by omega, k1 _ H1 G1 L1 .refl fun G2 H2 _ => walks_range⟩
  · exact k1.elim
end
end Mg
end
/-! ## DComp -/
section
set_option Elab.async false
set_option linter.all false
set_option maxRecDepth 100000
set_option maxHeartbeats 2500000
/-! The data layer: list comprehensions; all and any. -/
namespace Mg
open PySem PySem.Spec PyProof.Rows L2 GxR
instance ctx_blk {F : Fx} {X : Cx} [C : Ctx F X] {s : Shared} {H : Hp} {scope : Scope} {env : PySem.Env} {fp : List Addr} : Ctx F.noex (X.blk s H scope env fp) := Ctx.of C.P C.w C.K C.calm C.un C.hd
section
variable {F : Fx} {p : Bool}
theorem mem_of_drop {ds : List D} {i : Nat} (h : i < ds.length) : ds.drop i = ds[i] :: ds.drop (i + 1) := List.drop_eq_getElem_cons h
/-- a turn: what is yielded may be laid anew -/
theorem yld_ok {r : Env} {st : Sto} {σ : L2.St} {G : Gh} {H H' : Hp} (L : Rel F G r st σ H) (h : H' = H ∨ ∃ T xs, H T = none ∧ H' = upd H T (.tup xs)) : Rel F G r st σ H' ∧ Ev p G H G H' ∧ ∀ a o, H a = some o → H' a = some o := by
  rcases h with rfl | ⟨T, xs, hT, rfl⟩
  · exact ⟨L, .refl, fun _ _ e => e⟩
  · exact ⟨L.lay hT, Ev.lay hT, fun a o e => by rw [upd_ne (fun z => by rw [z, hT] at e; cases e)]; exact e⟩
theorem lc_ok {t : Tg} {w : Wk} {c : Tst} {e : Ex} {g : TG} {vs : List Nat} {σ : L2.St} {H : Hp} {Q : VK}
    (hg : ∀ {G : Gh} {r r' : Env} {st : Sto} {σ : L2.St} {H : Hp} {x : V} {d : D} {Q : L2.St → Hp → Prop}, Rel F.noex G r st σ H → R F.W G H x d → t.bind d r = some r' →
      (∀ σ', Rel F.noex G r' st σ' H → σ'.length = σ.length → (∀ i, i ∉ t.ixs → σ'[i]? = σ[i]?) → Q σ' H) → g x σ H Q) (hv : ∀ i ∈ t.ixs, i ∈ vs)
    (h : tF F p (sComp vs t w c e) σ H Q) : tLc (tI F p (some p) w) g (tT F.noex p c) (tD F.noex p e) vs σ H Q := by
  obtain ⟨G, r, st, L, k⟩ := h
  refine ⟨G, r, st, L, ?_⟩
  unfold sComp at k
  revert k
  generalize w r st = m
  intro k
  cases m with
  | bad => exact k
  | exn c fs st' => exact k
  | ok x =>
    obtain ⟨ds, st1⟩ := x
    intro J H1 G1 L1 ev1 wk D hD
    simp only [Res.ok_bind] at k
    have k1 := PostF.adv k ev1
    refine ⟨fun i m H' => m = ds.length - i ∧ i ≤ ds.length ∧ ∃ G' st' acc dacc, Rel F G' r st' σ H' ∧ Ev p G1 H1 G' H' ∧ H' D = some (.lst acc) ∧ G'.rl D = none ∧ Rs F.W G' H' acc dacc ∧
      PostF F p r σ G1 H1 ((compL t c e (wipeE r vs) dacc (ds.drop i) st').bind fun y => .ok (.lst y.1, y.2)) Q, ⟨_, rfl, Nat.zero_le _, G1, st1, [], [], L1.lay hD, Ev.lay hD, upd_same, L1.noRole hD, .nil, k1⟩, ?_⟩
    rintro i m H' ⟨rfl, hi, G', st', acc, dacc, L', ev', hH, hr, hrs, k'⟩
    obtain ⟨wgo, wstop⟩ := wk G' H' ev'
    by_cases hlt : i < ds.length
    · rw [mem_of_drop hlt, compL] at k'
      obtain ⟨go, yl⟩ := wgo i ds[i] (by simp [hlt])
      refine .inr ⟨go, fun H2 => ∃ G' st' acc dacc, Rel F G' r st' σ H2 ∧ Ev p G1 H1 G' H2 ∧ H2 D = some (.lst acc) ∧ G'.rl D = none ∧ Rs F.W G' H2 acc dacc ∧
        PostF F p r σ G1 H1 ((compL t c e (wipeE r vs) dacc (ds.drop (i + 1)) st').bind fun y => .ok (.lst y.1, y.2)) Q, fun H2 h2 => ⟨_, (by omega : ds.length - (i + 1) < ds.length - i), rfl, hlt, h2⟩, fun x H2 hy => ?_⟩
      obtain ⟨y1, hx⟩ := yl x H2 hy
      obtain ⟨L2, ev2, kp⟩ := yld_ok (p := p) L' y1
      cases hb : t.bind ds[i] (wipeE r vs) with
      | none => rw [hb] at k'; exact k'.elim
      | some r' =>
        rw [hb] at k'
        simp only at k'
        refine hg (L2.wipe vs).noex hx hb fun σ2 L3 hl3 hs3 => ⟨?_, G', r', st', L3, ?_⟩
        · rw [wipe_eq (σ := wipe σ vs) hl3 fun j hj => hs3 j fun z => hj (hv j z), wipe_wipe]
        · revert k'
          generalize c r' st' = m
          intro k'
          cases m with
          | bad => exact k'
          | exn cc fs st2 => exact k'.elim
          | ok b =>
            intro H3 G3 L4 ev3
            have ev13 := (ev'.trans ev2).trans ev3
            have L5 := L2.back ev3 L4.exn
            have hH3 := ev3.sl D _ (fun n => by rw [hr]; simp) (fun n i => by rw [hr]; simp) (kp _ _ hH) (fun _ z => nomatch z)
            have hrs3 := Rs.mono (ev2.s1.trans ev3.s1) hrs
            obtain ⟨b, st2⟩ := b
            cases b with
            | false =>
              exact ⟨G3, st2, acc, dacc, L5, ev13, hH3.1, hH3.2.trans hr, hrs3, k'⟩
            | true =>
              rw [if_pos rfl]
              refine ⟨G3, r', st2, L4, ?_⟩
              simp only [Res.nx, Res.ok_bind, if_true] at k'
              revert k'
              generalize e r' st2 = m
              intro k'
              cases m with
              | bad => exact k'
              | exn cc fs st2 => exact k'.elim
              | ok y =>
                intro v H4 G4 L6 ev4 hvv
                have L7 := L5.back ev4 L6.exn
                have hH4 := ev4.sl D _ (fun n => by rw [hH3.2, hr]; simp) (fun n i => by rw [hH3.2, hr]; simp) hH3.1 (fun _ z => nomatch z)
                have hr4 := hH4.2.trans (hH3.2.trans hr)
                have hrs4 := Rs.mono ev4.s1 hrs3
                simp only [Res.nx, Res.ok_bind] at k'
                split at k'
                · rename_i hz
                  refine ⟨acc, hH4.1, by rw [hrs4.length, ← line_eq]; exact hz, G4, y.2, _, _, L7.wr hH4.1 hr4, (ev13.trans ev4).wr hD hH4.1 hr4, upd_same, hr4, Rs.mono (.wr hH4.1 hr4) (hrs4.append (.cons hvv .nil)), k'⟩
                · exact k'.elim
    · have : i = ds.length := by omega
      subst this
      refine .inl ⟨wstop, ?_⟩
      rw [List.drop_length, compL] at k'
      exact k' D H' G' L' ev' hD hr ⟨_, hH, .lst hrs⟩
end
section
variable {F : Fx} {X : Cx} [C : Ctx F X] {p : Bool} {elt tg iter : Expr} {scope : Scope} {own : List (Str × Nat)} {pos spos py : Pos} {g : TG} {t : Tg} {w : Wk} {c : Tst} {φ : Ex}
omit C in
/-- the tests of a clause -/
theorem dif_nil : PTs X [] (tT F p tYes) := ⟨fun pins s σ H Q I ⟨G, r, st, L, k⟩ => L2.pts_nil.run pins s σ H Q I (k H G L .refl)⟩
omit C in
theorem dif_one {e : Expr} (h : PT X e (tT F p c)) : PTs X [e] (tT F p c) := pts_one h
theorem de_lcF {ifs : List Expr} (hN : X.N.Nodup) (hi : PI X tg iter (tI F p (some p) w)) (ok : BlkOk X.N X.env.scope scope own)
    (hg : ∀ (s : Shared) (H : Hp) (C : Addr) (cl : List (Str × Addr)) (fp : List Addr), DG F.noex (X.blk s H scope (compEnvC scope cl C X.env) fp) tg g t) (ht : ∀ (s : Shared) (H : Hp) (C : Addr) (cl : List (Str × Addr)) (fp : List Addr), PTs (X.blk s H scope (compEnvC scope cl C X.env) fp) ifs (tT F.noex p c))
    (he : ∀ (s : Shared) (H : Hp) (C : Addr) (cl : List (Str × Addr)) (fp : List Addr), PE (X.blk s H scope (compEnvC scope cl C X.env) fp) elt (tD F.noex p φ)) (hv : ∀ i ∈ t.ixs, i ∈ own.map (·.2) := by decide) (hs : ∀ x, foldedSetIterable iter X.env x = pure x := by intro _; rfl) :
    PE X (.ListComp elt [⟨tg, iter, ifs, 0⟩] scope pos) (tF F p (sComp (own.map (·.2)) t w c φ)) :=
  (pe_lc C.calm hN hi ok (fun s H C cl fp => (hg s H C cl fp).pg) ht he hs).mimp fun σ H Q h => by
    exact lc_ok (fun L h1 h2 h3 => (hg X.s_0 H 0 [] []).ok L h1 h2 h3) hv h
theorem de_lc {ifs : List Expr} (hN : X.N.Nodup) (hi : PI X tg iter (tI F p (some p) w)) (ok : BlkOk X.N X.env.scope scope own)
    (hg : ∀ (s : Shared) (H : Hp) (C : Addr) (cl : List (Str × Addr)) (fp : List Addr), DG F.noex (X.blk s H scope (compEnvC scope cl C X.env) fp) tg g t) (ht : ∀ (s : Shared) (H : Hp) (C : Addr) (cl : List (Str × Addr)) (fp : List Addr), PTs (X.blk s H scope (compEnvC scope cl C X.env) fp) ifs (tT F.noex p c))
    (he : ∀ (s : Shared) (H : Hp) (C : Addr) (cl : List (Str × Addr)) (fp : List Addr), PE (X.blk s H scope (compEnvC scope cl C X.env) fp) elt (tD F.noex p φ)) (hv : ∀ i ∈ t.ixs, i ∈ own.map (·.2) := by decide) (hs : ∀ x, foldedSetIterable iter X.env x = pure x := by intro _; rfl) :
    PE X (.ListComp elt [⟨tg, iter, ifs, 0⟩] scope pos) (tD F p (sComp (own.map (·.2)) t w c φ)) := (de_lcF hN hi ok hg ht he hv hs).frz
end
end Mg
end
/-! ## DStmt -/
section
set_option Elab.async false
set_option linter.all false
set_option maxRecDepth 100000
set_option maxHeartbeats 2500000
/-! The data layer: statements. -/
namespace Mg
open PySem PySem.Spec PyProof.Rows L2 GxR
def PostS (F : Fx) (G : Gh) (H : Hp) (m : Res (Flow × Env × Sto)) (D : Ends) : Prop := match m with
  | .ok (.nx, r', st') => ∀ σ' H' G', Rel F G' r' st' σ' H' → Evs G H G' H' → D.nx σ' H'
  | .ok (.bk, r', st') => ∀ σ' H' G', Rel F G' r' st' σ' H' → Evs G H G' H' → D.bk σ' H'
  | .ok (.ct, r', st') => ∀ σ' H' G', Rel F G' r' st' σ' H' → Evs G H G' H' → D.ct σ' H'
  | .ok (.rt d, _, st') => ∀ v H' G', Rel F G' [] st' [] H' → Evs G H G' H' → R F.W G' H' v d → D.rt v H'
  | .exn c fs st' => ∀ σ' H' G', Rel F G' [] st' [] H' → Evs G H G' H' → F.ex c fs st' G' σ' H'
  | .bad => False
def tS (F : Fx) (b : Stm) : TS := fun D σ H => ∃ G r st, Rel F G r st σ H ∧ PostS F G H (b r st) D
section
variable {F : Fx} {p : Bool} {G G' G1 : Gh} {r : Env} {st st' : Sto} {σ : L2.St} {H H' H1 : Hp}
theorem Rel.drop (L : Rel F G r st σ H) : Rel F G [] st [] H := ⟨rfl, fun i d h => by simp at h, fun i d h => by simp at h, L.nb, L.bx, L.tb, L.on⟩
theorem PostS.adv {m : Res (Flow × Env × Sto)} {D : Ends} (h : PostS F G H m D) (e : Evs G H G1 H1) : PostS F G1 H1 m D := by
  cases m with
  | bad => exact h
  | exn c fs st => exact fun σ' H' G' a b => h σ' H' G' a (e.trans b)
  | ok x =>
    obtain ⟨f, r', st'⟩ := x
    cases f with
    | nx => exact fun σ' H' G' a b => h σ' H' G' a (e.trans b)
    | bk => exact fun σ' H' G' a b => h σ' H' G' a (e.trans b)
    | ct => exact fun σ' H' G' a b => h σ' H' G' a (e.trans b)
    | rt d => exact fun v H' G' a b c => h v H' G' a (e.trans b) c
/-- an expression at the head of a statement; p: false where the frame's kinds are unknown -/
theorem postS_of {m : Res (D × Sto)} {f : D × Sto → Res (Flow × Env × Sto)} {D : Ends} {Q' : VK} (hx : ∀ c fs st' σ1 σ2 G' H', F.ex c fs st' G' σ1 H' → F.ex c fs st' G' σ2 H') (h : PostS F G H (m.bind f) D)
    (k : ∀ x v H' G', m = .ok x → Rel F G' r x.2 σ H' → Ev p G H G' H' → R F.W G' H' v x.1 → PostS F G' H' (f x) D → Q' v H') : Post F p r σ G H m Q' := by
  cases m with
  | ok x => exact fun v H' G' L' e hv => k x v H' G' rfl L' e hv (PostS.adv h e.evs)
  | exn c fs st => exact fun H' G' L' e => hx _ _ _ _ _ _ _ (h σ H' G' L'.drop e.evs)
  | bad => exact h
theorem postS_ofV {m : Res (D × Sto)} {f : D × Sto → Res (Flow × Env × Sto)} {D : Ends} {Q' : VK} (hx : ∀ c fs st' σ1 σ2 G' H', F.ex c fs st' G' σ1 H' → F.ex c fs st' G' σ2 H') (h : PostS F G H (m.bind f) D)
    (k : ∀ x v H' G', m = .ok x → Rel F G' r x.2 σ H' → Ev p G H G' H' → RV F p G' H' v x.1 → PostS F G' H' (f x) D → Q' v H') : PostV F p r σ G H m Q' := by
  cases m with
  | ok x => exact fun v H' G' L' e hv => k x v H' G' rfl L' e hv (PostS.adv h e.evs)
  | exn c fs st => exact fun H' G' L' e => hx _ _ _ _ _ _ _ (h σ H' G' L'.drop e.evs)
  | bad => exact h
theorem postS_ofT {m : Res (Bool × Sto)} {f : Bool × Sto → Res (Flow × Env × Sto)} {D : Ends} {Q' : Bool → Hp → Prop} (hx : ∀ c fs st' σ1 σ2 G' H', F.ex c fs st' G' σ1 H' → F.ex c fs st' G' σ2 H') (h : PostS F G H (m.bind f) D)
    (k : ∀ x H' G', m = .ok x → Rel F G' r x.2 σ H' → Ev p G H G' H' → PostS F G' H' (f x) D → Q' x.1 H') : PostT F p r σ G H m Q' := by
  cases m with
  | ok x => exact fun H' G' L' e => k x H' G' rfl L' e (PostS.adv h e.evs)
  | exn c fs st => exact fun H' G' L' e => hx _ _ _ _ _ _ _ (h σ H' G' L'.drop e.evs)
  | bad => exact h
end
/-- what is wanted of an exception doesn't ask for the frame -/
class Fr0 (F : Fx) : Prop where
  fr : ∀ c fs st' σ1 σ2 G' H', F.ex c fs st' G' σ1 H' → F.ex c fs st' G' σ2 H'
instance fr0_noex {F : Fx} : Fr0 F.noex := ⟨fun _ _ _ _ _ _ _ h => h.elim⟩
section
variable {F : Fx} [E : Fr0 F] {X : Cx} [C : CtxW F X] {p : Bool} {e o : Expr} {φ ψ : Ex} {b b2 : Stm} {s : Stmt} {ss ss2 : List Stmt} {pos ppos : Pos}
omit E C in
theorem _root_.L2.PS.mimp {X : Cx} {e : Stmt} {t t' : TS} (h : PS X e t) (k : ∀ D σ H, t' D σ H → t D σ H) : PS X e t' := ⟨fun pins s σ H D I q => h.run pins s σ H D I (k D σ H q)⟩
omit E C in
theorem _root_.L2.PSs.mimp {X : Cx} {e : List Stmt} {t t' : TS} (h : PSs X e t) (k : ∀ D σ H, t' D σ H → t D σ H) : PSs X e t' := ⟨fun pins s σ H D I q => h.run pins s σ H D I (k D σ H q)⟩
omit E C in
theorem dss_nil : PSs X [] (tS F stPass) := pss_nil.mimp fun D σ H ⟨G, r, st, L, k⟩ => k σ H G L .refl
omit E C in
theorem dss_one (h : PS X s (tS F b)) : PSs X [s] (tS F b) := pss_one h
omit E C in
theorem dss_cons (h : PS X s (tS F b)) (h2 : PSs X ss (tS F b2)) : PSs X (s :: ss) (tS F (stSeq b b2)) := (pss_cons h h2).mimp fun D σ H ⟨G, r, st, L, k⟩ => by
  refine ⟨G, r, st, L, ?_⟩
  unfold stSeq at k
  revert k
  generalize b r st = m
  intro k
  cases m with
  | bad => exact k
  | exn c fs st' => exact k
  | ok x =>
    obtain ⟨f, r', st'⟩ := x
    cases f with
    | nx => exact fun σ' H' G' L' e => ⟨G', r', st', L', PostS.adv k e⟩
    | bk => exact k
    | ct => exact k
    | rt d => exact k
theorem ds_ret (he : PE X e (tD F false φ)) : PS X (.Return (some e) pos) (tS F (stRet φ)) := (ps_ret he).mimp fun D σ H ⟨G, r, st, L, k⟩ =>
  ⟨G, r, st, L, postS_of E.fr k fun x v H' G' _ L' _ hv k' => k' v H' G' L'.drop .refl hv⟩
theorem ds_if {c : Expr} {t : Tst} (hc : PT X c (tT F false t)) (ha : PSs X ss (tS F b)) (hb : PSs X ss2 (tS F b2)) : PS X (.If c ss ss2 pos) (tS F (stIf t b b2)) := (ps_if hc ha hb).mimp fun D σ H ⟨G, r, st, L, k⟩ => by
  refine ⟨G, r, st, L, postS_ofT E.fr k fun x H' G' _ L' _ k' => ?_⟩
  obtain ⟨c, st'⟩ := x
  cases c with
  | true => exact ⟨G', r, st', L', k'⟩
  | false => exact ⟨G', r, st', L', k'⟩
theorem ds_asg {tg : Expr} {g : TG} {t : Tg} (he : PE X e (tD F false φ)) (hg : DG F X tg g t) (hs : swapsWithSole [tg] e pos.line X.env = pure false := by rfl) (hw : swappedStores [tg] e X.env = pure none := by rfl)
    (h1 : (assignEach [tg] X.env).map (·.2) = [assign tg X.env] := by rfl) : PS X (.Assign [tg] e pos) (tS F (stAsg t φ)) := (ps_asg he hg.pg hs hw h1).mimp fun D σ H ⟨G, r, st, L, k⟩ => by
  refine ⟨G, r, st, L, postS_of E.fr k fun x v H' G' _ L' _ hv k' => ?_⟩
  cases hb : t.bind x.1 r with
  | none => rw [hb] at k'; exact k'.elim
  | some r' =>
    rw [hb] at k'
    exact hg.ok L' hv hb fun σ' L2 _ _ => k' σ' H' G' L2 .refl
omit C in
theorem ds_expr (he : PE X e (tV F false φ)) (hs : swapsWith e none pos.line X.env = pure false := by rfl) : PS X (.Expr e pos) (tS F (stExpr φ)) := (ps_expr he hs).mimp fun D σ H ⟨G, r, st, L, k⟩ =>
  ⟨G, r, st, L, postS_ofV E.fr k fun x v H' G' _ L' _ hv k' => k' σ H' G' L' .refl⟩
end
/-! ### loops -/
section
variable {F : Fx} [E : Fr0 F] {X : Cx} [C : CtxW F X] {φ ψ : Ex} {b : Stm} {pos : Pos} {body : List Stmt}
theorem ds_for [Cc : Ctx F X] {tg iter : Expr} {g : TG} {t : Tg} {w : Wk} (hp : PassesOwn (model X.prog X.w) X.A X.env X.xe) (hi : PI X tg iter (tI F false none w)) (hg : DG F X tg g t) (hb : PSs X body (tS F b))
    (hs : ∀ x, foldedSetIterable iter X.env x = pure x := by intro _; rfl) : PS X (.For tg iter body [] pos) (tS F (stFor t w b)) := (ps_for hp Cc.calm hi hg.pg hb hs).mimp fun D σ H ⟨G, r, st, L, k⟩ => by
  refine ⟨G, r, st, L, ?_⟩
  unfold stFor at k
  revert k
  generalize w r st = m
  intro k
  cases m with
  | bad => exact k
  | exn c fs st' => exact fun H' G' L' e => E.fr _ _ _ _ _ _ _ (k σ H' G' L'.drop e.evs)
  | ok x =>
    obtain ⟨ds, st1⟩ := x
    intro J H1 G1 L1 ev1 wk
    have k1 := PostS.adv k ev1.evs
    simp only [Res.ok_bind] at k1
    refine ⟨fun i m σ' H' => m = ds.length - i ∧ i ≤ ds.length ∧ ∃ G' r' st', Rel F G' r' st' σ' H' ∧ Evs G1 H1 G' H' ∧ PostS F G1 H1 (loopF t b (ds.drop i) r' st') D, ⟨_, rfl, Nat.zero_le _, G1, r, st1, L1, .refl, k1⟩, ?_⟩
    rintro i m σ' H' ⟨rfl, hi, G', r', st', L', ev', k'⟩
    obtain ⟨wgo, wstop⟩ := wk G' H' ev'
    by_cases hlt : i < ds.length
    · rw [mem_of_drop hlt, loopF] at k'
      obtain ⟨go, yl⟩ := wgo i ds[i] (by simp [hlt])
      refine .inr ⟨go, fun σ2 H2 => ∃ G' r' st', Rel F G' r' st' σ2 H2 ∧ Evs G1 H1 G' H2 ∧ PostS F G1 H1 (loopF t b (ds.drop (i + 1)) r' st') D, fun σ2 H2 h2 => ⟨_, (by omega : ds.length - (i + 1) < ds.length - i), rfl, hlt, h2⟩, fun x H2 hy => ?_⟩
      obtain ⟨y1, hx⟩ := yl x H2 hy
      obtain ⟨L2, ev2, kp⟩ := yld_ok (p := false) L' y1
      cases hbd : t.bind ds[i] r' with
      | none => rw [hbd] at k'; exact k'.elim
      | some r2 =>
        rw [hbd] at k'
        simp only at k'
        refine hg.ok L2 hx hbd fun σ2 L3 _ _ => ⟨G', r2, st', L3, ?_⟩
        have ev12 := ev'.trans ev2.evs
        revert k'
        generalize b r2 st' = m
        intro k'
        cases m with
        | bad => exact k'
        | exn c fs st2 => exact PostS.adv k' ev12
        | ok y =>
          obtain ⟨fl, r3, st3⟩ := y
          cases fl with
          | nx => exact fun σ3 H3 G3 L4 e3 => ⟨G3, r3, st3, L4, ev12.trans e3, k'⟩
          | ct => exact fun σ3 H3 G3 L4 e3 => ⟨G3, r3, st3, L4, ev12.trans e3, k'⟩
          | bk => exact PostS.adv k' ev12
          | rt d => exact PostS.adv k' ev12
    · have : i = ds.length := by omega
      subst this
      rw [List.drop_length, loopF] at k'
      exact .inl ⟨wstop, k' σ' H' G' L' ev'⟩
end
end Mg
end
/-! ## DFn -/
section
set_option Elab.async false
set_option linter.all false
set_option maxRecDepth 100000
set_option maxHeartbeats 2500000
/-! The data layer: defs and calls; all and any. -/
namespace Mg
open PySem PySem.Spec PyProof.Rows L2 GxR
/-- the caller's own lists are none of the callee's -/
def Gh.fgt (G : Gh) : Gh := { G with rl := fun a => match G.rl a with | some (.sl _) => none | q => q }
/-- back in the caller -/
def Gh.mrg (G G1 : Gh) : Gh := { G with rl := fun a => match G1.rl a, G.rl a with | some (Role.sl i), none => some (Role.sl i) | _, q => q }
section
variable {F : Fx} {G G' G1 : Gh} {r : Env} {st st' : Sto} {σ : L2.St} {H H' H1 : Hp}
theorem fgt_fz {a : Addr} {q : Role} (hq : ∀ i, q ≠ .sl i) (h : G.rl a = some q) : G.fgt.rl a = some q := by
  show (match G.rl a with | some (.sl _) => none | q => q) = some q
  rw [h]
  cases q with
  | sl i => exact absurd rfl (hq i)
  | _ => rfl
theorem fgt_some {a : Addr} {q : Role} (h : G.fgt.rl a = some q) : G.rl a = some q := by
  have h : (match G.rl a with | some (.sl _) => none | q => q) = some q := h
  split at h
  · cases h
  · exact h
theorem fgt_none {a : Addr} (h : G.rl a = none ∨ ∃ i, G.rl a = some (.sl i)) : G.fgt.rl a = none := by
  show (match G.rl a with | some (.sl _) => none | q => q) = none
  rcases h with h | ⟨i, h⟩ <;> rw [h]
theorem St1.fgt : St1 G H G.fgt H := ⟨fun _ _ h => h, fun _ _ _ h => h, fun _ _ _ h _ => h, fun a h => fgt_fz (fun i z => by cases z) h, Nat.le_refl _, fun _ _ => rfl, fun _ h => h⟩
theorem Rel.fgt (L : Rel F G r st σ H) : Rel F.noex G.fgt [] st [] H := by
  refine ⟨rfl, fun i d h => by simp at h, fun i d h => by simp at h, L.nb, fun n b e => ?_, St1.fgt.tbs L.tb (fun _ _ e => e), fun a q h => L.on a q (fgt_some h)⟩
  obtain ⟨h1, h2⟩ := L.bx n b e
  exact ⟨fgt_fz (fun i z => by cases z) h1, h2.mono .fgt (fun _ e _ => e) fun y i o hy e _ => ⟨e, fgt_fz (fun i z => by cases z) hy⟩⟩
theorem mrg_some {a : Addr} {q : Role} (h : G.rl a = some q) : (G.mrg G1).rl a = some q := by
  show (match G1.rl a, G.rl a with | some (Role.sl i), none => some (Role.sl i) | _, q => q) = some q
  rw [h]
  split
  · rename_i h2; cases h2
  · rfl
theorem mrg_sl {a : Addr} {i : Nat} (h : G.rl a = none) (h1 : G1.rl a = some (.sl i)) : (G.mrg G1).rl a = some (.sl i) := by
  show (match G1.rl a, G.rl a with | some (Role.sl i), none => some (Role.sl i) | _, q => q) = _
  rw [h, h1]
theorem mrg_of {a : Addr} {q : Role} (h : (G.mrg G1).rl a = some q) : G.rl a = some q ∨ ∃ i, G1.rl a = some (.sl i) := by
  have h : (match G1.rl a, G.rl a with | some (Role.sl i), none => some (Role.sl i) | _, q => q) = some q := h
  split at h
  · rename_i i h1 h2
    exact .inr ⟨i, h1⟩
  · exact .inl h
theorem mrg_none {a : Addr} (h : G.rl a = none) (h1 : G1.rl a = none) : (G.mrg G1).rl a = none := by
  show (match G1.rl a, G.rl a with | some (Role.sl i), none => some (Role.sl i) | _, q => q) = _
  rw [h, h1]
theorem St1.mrg : St1 G H (G.mrg G1) H := ⟨fun _ _ h => h, fun _ _ _ h => h, fun _ _ _ h _ => h, fun a h => mrg_some h, Nat.le_refl _, fun _ _ => rfl, fun _ h => h⟩
/-- behind a call: the caller's frame -/
theorem Rel.after (L : Rel F G1 r st σ H1) (e : Evs G1.fgt H1 G' H') (L' : Rel F.noex G' [] st' [] H') : Rel F (G'.mrg G1) r st' σ H' ∧ Ev false G1 H1 (G'.mrg G1) H' := by
  have s1 : St1 G1 H1 (G'.mrg G1) H' := (St1.fgt.trans e.s1).trans .mrg
  have keep : ∀ a o i, G1.rl a = some (.sl i) → H1 a = some o → (∀ ps, o ≠ .tbl ps) → H' a = some o ∧ (G'.mrg G1).rl a = some (.sl i) := fun a o i h ho nt => by
    obtain ⟨k1, k2⟩ := e.no a o (fgt_none (.inr ⟨i, h⟩)) ho nt
    exact ⟨k1, mrg_sl k2 h⟩
  refine ⟨⟨L.len, fun i d h ho => ?_, fun i d h => ?_, L'.nb, fun n b hb => ?_, St1.mrg.tbs L'.tb (fun _ _ e => e), fun a q h => ?_⟩, s1, fun a o q1 q2 ho nt => ?_, fun z => by cases z⟩
  · obtain ⟨v, h1, h2⟩ := L.vl i d h ho
    exact ⟨v, h1, R.mono s1 h2⟩
  · obtain ⟨a, h1, h2, o, ho, hq⟩ := L.ow i d h
    obtain ⟨k1, k2⟩ := keep a o i h2 ho hq.ntbl
    exact ⟨a, h1, k2, o, k1, Ob.mono s1 hq⟩
  · obtain ⟨h1, h2⟩ := L'.bx n b hb
    exact ⟨mrg_some h1, h2.mono .mrg (fun _ e _ => e) fun y i o hy e _ => ⟨e, mrg_some hy⟩⟩
  · rcases mrg_of h with h | ⟨i, h⟩
    · exact L'.on a q h
    · exact s1.up a (L.on a _ h)
  · cases hr : G1.rl a with
    | none =>
      obtain ⟨k1, k2⟩ := e.no a o (fgt_none (.inl hr)) ho nt
      exact ⟨k1, mrg_none k2 hr⟩
    | some q =>
      cases q with
      | fz =>
        have hf := fgt_fz (G := G1) (fun i z => by cases z) hr
        exact ⟨e.s1.fz a o hf ho nt, mrg_some (e.s1.rl a hf)⟩
      | sl i => exact keep a o i hr ho nt
      | bx n => exact absurd hr (q1 n)
      | fd n i => exact absurd hr (q2 n i)
end
/-! ### the promise of a def -/
def PostC (F : Fx) (G : Gh) (H : Hp) (m : Res (D × Sto)) (Q : VK) : Prop := match m with
  | .ok x => ∀ v H' G', Rel F.noex G' [] x.2 [] H' → Evs G H G' H' → R F.W G' H' v x.1 → Q v H'
  | _ => False
def spD (F : Fx) (n : Nat) (f : List D → Sto → Res (D × Sto)) : Sp := fun vs H Q _ => vs.length = n ∧ ∃ G st ds, Rel F.noex G [] st [] H ∧ Rs F.W G H vs ds ∧ PostC F G H (f ds st) Q
section
variable {F : Fx} {X : Cx} [C : Ctx F X] {ψ : Exs} {e : Expr} {es : List Expr} {x : Str} {pp pos : Pos}
/-- f(..), f a def of the program -/
theorem de_call {n : Nat} {f : List D → Sto → Res (D × Sto)} {k : Nat} {fa : Addr} {fd : FuncData} {ps : List Str} (FO : FnOk X.prog X.w X.K X.mg X.base CX0 k fa fd ps (spD F n f)) (hr : Room k X.A) (hg : Gl X x) (hm : X.mg x = some (.ref fa)) (hk : PySem.W.keepIn X.K (.ref fa) = true)
    (hb : Binds X.K fd ps []) (ha : PA X (e :: es) (tA F false ψ)) (hn : ∀ r st y, ψ r st = .ok y → y.1.length = n) (hdb : (x == ("__debug__" : Str)) = false := by decide) (he : starEach (e :: es) X.env = (false, eval e X.env) :: starEach es X.env := by rfl) (hpl : (backTo pos (starEach es X.env)).any (·.1) = false := by rfl) :
    PE X (.Call (.Name x pp) (e :: es) [] pos) (tD F false (sCallE (fun a st => (f a st).nx) ψ)) := (pe_call (E := E0) FO hr hg hm hk hb .nil pass0 ha hdb he hpl).mimp fun σ H Q ⟨G, r, st, L, k⟩ => by
  refine ⟨G, r, st, L, ?_⟩
  unfold sCallE at k
  have hn := hn r st
  revert k hn
  generalize ψ r st = m
  intro k hn
  cases m with
  | bad => exact k
  | exn c fs st' => exact k
  | ok y =>
    intro vs H1 G1 L1 ev1 hvs
    obtain ⟨ds, st1⟩ := y
    have k1 := Post.adv k ev1
    have hl := hn _ rfl
    refine ⟨?_, G1.fgt, st1, ds, L1.fgt, by rw [List.append_nil]; exact Rs.mono .fgt hvs, ?_⟩
    · rw [List.append_nil, hvs.length]
      exact hl
    · simp only [Res.ok_bind] at k1
      revert k1
      generalize f ds st1 = m
      intro k1
      cases m with
      | bad => exact k1.elim
      | exn c fs st' => exact k1.elim
      | ok z =>
        intro v H2 G2 L2 e2 hv
        obtain ⟨L3, ev3⟩ := L1.after e2 L2
        exact k1 v H2 _ L3 ev3 (R.mono .mrg hv)
end
/-- how many arguments -/
theorem cnt_nil : ∀ (r : Env) (st : Sto) (y : List D × Sto), sNil r st = .ok y → y.1.length = 0 := fun r st y h => by
  cases h
  rfl
theorem cnt_cons {n : Nat} {φ : Ex} {ψ : Exs} (h : ∀ (r : Env) (st : Sto) (y : List D × Sto), ψ r st = .ok y → y.1.length = n) : ∀ (r : Env) (st : Sto) (y : List D × Sto), sCons φ ψ r st = .ok y → y.1.length = n + 1 := fun r st x e => by
  unfold sCons at e
  revert e
  generalize φ r st = m
  intro e
  cases m with
  | bad => cases e
  | exn => cases e
  | ok y =>
    simp only [Res.ok_bind] at e
    cases q : ψ r y.2 with
    | bad => rw [q] at e; cases e
    | exn => rw [q] at e; cases e
    | ok z =>
      rw [q] at e
      cases e
      exact congrArg (· + 1) (h _ _ _ q)
/-! ### a def's body -/
def mkF (P : Program) (w : World) (K : PySem.W.Frag) (Tb : TbT) : Fx := ⟨⟨P, w, K, Tb⟩, fun _ _ _ _ _ _ => False⟩
instance fr0_mk {P : Program} {w : World} {K : PySem.W.Frag} {Tb : TbT} : Fr0 (mkF P w K Tb) := ⟨fun _ _ _ _ _ _ _ h => h.elim⟩
theorem fn_start {F : Fx} {G : Gh} {st : Sto} {H : Hp} {N : List Str} {vs : List V} {ds : List D} (L : Rel F G [] st [] H) (rs : Rs F.W G H vs ds) : Rel F G (ds.map some ++ List.replicate (N.length - ds.length) none) st (L2.start N vs) H := by
  have hl := rs.length
  refine ⟨by unfold L2.start; simp [hl], fun i d h ho => ?_, fun i d h => ?_, L.nb, L.bx, L.tb, L.on⟩
  · unfold L2.start
    by_cases hi : i < ds.length
    · rw [List.getElem?_append_left (by simpa using hi), List.getElem?_map] at h
      rw [List.getElem?_append_left (by simpa [hl] using hi), List.getElem?_map]
      cases hd : ds[i]? with
      | none => rw [hd] at h; cases h
      | some d' =>
        rw [hd] at h
        cases h
        obtain ⟨v, h1, h2⟩ := rs.get hd
        exact ⟨v, by rw [h1]; rfl, h2⟩
    · rw [List.getElem?_append_right (by simpa using hi), List.getElem?_replicate] at h
      split at h <;> cases h
  · by_cases hi : i < ds.length
    · rw [List.getElem?_append_left (by simpa using hi), List.getElem?_map] at h
      cases hd : ds[i]? with
      | none => rw [hd] at h; cases h
      | some d' =>
        rw [hd] at h
        cases h
        obtain ⟨v, h1, h2⟩ := rs.get hd
        exact (RV.noOwn (F := F) (p := true) (.inl h2)).elim
    · rw [List.getElem?_append_right (by simpa using hi), List.getElem?_replicate] at h
      split at h <;> cases h
section
variable {P : Program} {w : World} {K : PySem.W.Frag} {mg : Str → Option Value} {base : Heap} {Tb : TbT}
/-- a def keeps its promise, by its body -/
theorem fn_data {k : Nat} {f : Addr} {fd : FuncData} {x qual : Str} {params : Arguments} {body : List Stmt} {scope : Scope} {dvs : List V} {kws : List (Str × V)} {N ps : List Str} {b : Stm} (FD : FunD K x qual params body scope dvs kws f fd) (S : FnScope N ps scope)
    (hb : ∀ (c : Addr) (A : Around) (outer : List PySem.Env) (s : Shared) (H : Hp) (E : XK), fd.code = .ref c → Room k (A.deeper (envOfC qual scope s.heap.objs.size f (.ref c))) → Ctx (mkF P w K Tb) (cxOf CX0 P w K mg base N qual scope f (.ref c) A outer s H E).nox →
      PSs (cxOf CX0 P w K mg base N qual scope f (.ref c) A outer s H E).nox body (tS (mkF P w K Tb) b)) : FnOk P w K mg base CX0 (k + 1) f fd ps (spD (mkF P w K Tb) ps.length (runE N.length b)) := by
  obtain ⟨oc, od, dV, kV, doc, pm, an, cdv, ct, osl, rfl, lk, hcd, _, _⟩ := FD.ex
  obtain ⟨c, rfl⟩ := He.codeIn_ref hcd
  refine fn_of lk hcd S (fun vs H Q E h => h.1) fun A outer s H vs Q E hr ⟨hl, G, st, ds, L, rs, k1⟩ => ⟨tS (mkF P w K Tb) b, PSs.nox (hb c A outer s H E rfl hr (Ctx.of rfl rfl rfl rfl (by have := hr.un; show (A.deeper (envOfC qual scope s.heap.objs.size f (.ref c))).units + 100 < cLine; omega) hr.hd)), ?_⟩
  refine ⟨G, _, st, fn_start (N := N) L.exn rs, ?_⟩
  revert k1
  unfold runE
  generalize b _ st = m
  intro k1
  cases m with
  | bad => exact k1
  | exn c fs st' => exact k1.elim
  | ok y =>
    obtain ⟨fl, r', st'⟩ := y
    cases fl with
    | nx => exact fun σ' H' G' L' e => k1 .non H' G' L'.drop.noex e .non
    | rt d => exact fun v H' G' L' e hv => k1 v H' G' L'.noex e hv
    | bk => exact k1.elim
    | ct => exact k1.elim
end
/-! ### all, any -/
section
variable {F : Fx} {p : Bool}
theorem Rel.tab {G : Gh} {r : Env} {st : Sto} {σ : L2.St} {H H2 : Hp} {P : Addr} (L : Rel F G r st σ H) (hM : P ∈ F.Tb) (t : Tabbed P H H2) : Rel F G r st σ H2 ∧ Ev p G H G H2 := by
  have hP := L.tb.tb P hM.1
  have kp : ∀ a o, H a = some o → (∀ ps, o ≠ .tbl ps) → H2 a = some o := fun a o e nt => by
    rw [t.2 a fun z => ?_]
    · exact e
    · subst z
      obtain ⟨ps, h, _⟩ := hP
      rw [h] at e
      cases e
      exact nt _ rfl
  have s1 : St1 G H G H2 := ⟨fun a xs e => kp a _ e (fun _ z => nomatch z), fun a o u e => kp a _ e (fun _ z => nomatch z), fun a o _ e nt => kp a o e nt, fun _ e => e, Nat.le_refl _, fun _ _ => rfl, fun a h => by
    by_cases hx : a = P
    · subst hx
      obtain ⟨ps, e, _⟩ := t.1
      rw [e]; simp
    · rw [t.2 a hx]; exact h⟩
  refine ⟨L.mono s1 (fun a o e nt => ⟨kp a o e nt, rfl⟩) rfl ?_ fun a q e => s1.up a (L.on a q e), s1, fun a o _ _ e nt => ⟨kp a o e nt, rfl⟩, fun _ a o e nt => ⟨kp a o e nt, rfl⟩⟩
  refine ⟨fun P' h => ?_, fun p hp => s1.tabL (L.tb.lt p hp) fun ps e => by rw [t.2 _ (hM.2 p hp)]; exact e, fun p hp => R.mono s1 (L.tb.kp p hp)⟩
  by_cases hx : P' = P
  · subst hx; exact t.1
  · obtain ⟨ps, e, q⟩ := L.tb.tb P' h
    exact ⟨ps, by rw [t.2 P' hx]; exact e, q⟩
theorem quant_ok {go : Bool} {P : Addr} {t : Tg} {w : Wk} {e : Ex} {g : TG} {vs : List Nat} {σ : L2.St} {H : Hp} {Q : VK} (hP : P ∈ F.Tb)
    (hg : ∀ {G : Gh} {r r' : Env} {st : Sto} {σ : L2.St} {H : Hp} {x : V} {d : D} {Q : L2.St → Hp → Prop}, Rel F.noex G r st σ H → R F.W G H x d → t.bind d r = some r' →
      (∀ σ', Rel F.noex G r' st σ' H → σ'.length = σ.length → (∀ i, i ∉ t.ixs → σ'[i]? = σ[i]?) → Q σ' H) → g x σ H Q) (hv : ∀ i ∈ t.ixs, i ∈ vs)
    (h : tD F p (sQuant go vs t w e) σ H Q) : tGen P go (tI F p (some p) w) g (tD F.noex p e) vs σ H Q := by
  obtain ⟨G, r, st, L, k⟩ := h
  refine ⟨G, r, st, L, ?_⟩
  unfold sQuant at k
  revert k
  generalize w r st = m
  intro k
  cases m with
  | bad => exact k
  | exn c fs st' => exact k
  | ok x =>
    obtain ⟨ds, st1⟩ := x
    intro J H1 G1 L1 ev1 wk
    simp only [Res.ok_bind] at k
    refine ⟨L1.tb.tb P hP.1, fun H2 tb => ?_⟩
    obtain ⟨L2, ev2⟩ := L1.tab (p := p) hP tb
    have k1 := Post.adv (Post.adv k ev1) ev2
    refine ⟨fun i m H' => m = ds.length - i ∧ i ≤ ds.length ∧ ∃ G' st', Rel F G' r st' σ H' ∧ Ev p G1 H2 G' H' ∧ Post F p r σ G1 H2 (quantL go t e (wipeE r vs) (ds.drop i) st') Q, ⟨_, rfl, Nat.zero_le _, G1, st1, L2, .refl, k1⟩, ?_⟩
    rintro i m H' ⟨rfl, hi, G', st', L', ev', k'⟩
    obtain ⟨wgo, wstop⟩ := wk G' H' (ev2.trans ev')
    by_cases hlt : i < ds.length
    · rw [mem_of_drop hlt, quantL] at k'
      obtain ⟨gg, yl⟩ := wgo i ds[i] (by simp [hlt])
      refine .inr ⟨gg, fun H3 => ∃ G' st', Rel F G' r st' σ H3 ∧ Ev p G1 H2 G' H3 ∧ Post F p r σ G1 H2 (quantL go t e (wipeE r vs) (ds.drop (i + 1)) st') Q, fun H3 h3 => ⟨_, (by omega : ds.length - (i + 1) < ds.length - i), rfl, hlt, h3⟩, fun x H3 hy => ?_⟩
      obtain ⟨y1, hx⟩ := yl x H3 hy
      obtain ⟨L3, ev3, kp⟩ := yld_ok (p := p) L' y1
      cases hb : t.bind ds[i] (wipeE r vs) with
      | none => rw [hb] at k'; exact k'.elim
      | some r' =>
        rw [hb] at k'
        simp only at k'
        refine hg (L3.wipe vs).noex hx hb fun σ2 L4 hl4 hs4 => ⟨?_, G', r', st', L4, ?_⟩
        · rw [wipe_eq (σ := wipe σ vs) hl4 fun j hj => hs4 j fun z => hj (hv j z), wipe_wipe]
        · revert k'
          generalize e r' st' = m
          intro k'
          cases m with
          | bad => exact k'
          | exn cc fs st2 => exact k'.elim
          | ok b =>
            intro v H4 G4 L5 ev4 hvv
            have ev14 := (ev'.trans ev3).trans ev4
            have L6 := L3.back ev4 L5.exn
            obtain ⟨d, st2⟩ := b
            simp only [Res.nx, Res.ok_bind] at k'
            cases d <;> (try (exact k'.elim))
            rename_i b
            refine ⟨b, RV.bl (F := F) (p := p) (.inl hvv), ?_⟩
            simp only at k'
            by_cases hbg : b = go
            · rw [if_pos hbg] at k' ⊢
              exact ⟨G4, st2, L6, ev14, k'⟩
            · rw [if_neg hbg] at k' ⊢
              exact Post.adv k' ev14 _ _ _ L6 .refl (.bl _)
    · have : i = ds.length := by omega
      subst this
      refine .inl ⟨wstop, ?_⟩
      rw [List.drop_length, quantL] at k'
      exact Post.adv k' ev' _ _ _ L' .refl (.bl _)
end
section
variable {F : Fx} {X : Cx} [C : Ctx F X] {p : Bool} {k : Nat} {P c : Addr} {elt tg iter : Expr} {scope : Scope} {own : List (Str × Nat)} {gpos pos pp : Pos} {g : TG} {t : Tg} {w : Wk} {φ : Ex}
theorem ctx_gblk {Ag : Around} {s : Shared} {H : Hp} {ge : PySem.Env} {fp : List Addr} {pn : List (Addr × Obj)} (hr : Room k Ag) : Ctx F.noex (gblk X Ag s H ge fp pn) := Ctx.of C.P C.w C.K C.calm (by have := hr.un; show Ag.units + 100 < cLine; omega) hr.hd
theorem de_all (hP : P ∈ F.Tb) (hr : Room (k + 1) X.A) (hN : X.N.Nodup) (hgl : Gl X "all") (hm : X.mg "all" = none) (TB : TabB X.base X.mg c P) (hcode : X.env.code = .ref c) (S : GBlk X.N X.env.scope scope own) (hi : PI X tg iter (tI F p (some p) w))
    (hg : ∀ (Ag : Around) (s : Shared) (H : Hp) (ge : PySem.Env) (fp : List Addr) (pn : List (Addr × Obj)), ge.scope = scope → Room k Ag → Ctx F.noex (gblk X Ag s H ge fp pn) → DG F.noex (gblk X Ag s H ge fp pn) tg g t)
    (he : ∀ (Ag : Around) (s : Shared) (H : Hp) (ge : PySem.Env) (fp : List Addr) (pn : List (Addr × Obj)), ge.scope = scope → Room k Ag → Ctx F.noex (gblk X Ag s H ge fp pn) → PE (gblk X Ag s H ge fp pn) elt (tD F.noex p φ))
    (hs : ∀ v, genFold iter X.env v = pure v := by intro _; rfl) (hv : ∀ i ∈ t.ixs, i ∈ own.map (·.2) := by decide)
    (hse : starEach [.GeneratorExp elt [⟨tg, iter, [], 0⟩] scope gpos] X.env = (false, eval (.GeneratorExp elt [⟨tg, iter, [], 0⟩] scope gpos) X.env) :: starEach [] X.env := by rfl) :
    PE X (.Call (.Name "all" pp) [.GeneratorExp elt [⟨tg, iter, [], 0⟩] scope gpos] [] pos) (tD F p (sQuant true (own.map (·.2)) t w φ)) :=
  (pe_allG hr C.calm hN hgl hm rfl TB hcode S hi (fun Ag s H ge fp pn e r => (hg Ag s H ge fp pn e r (ctx_gblk r)).pg) (fun Ag s H ge fp pn e r => he Ag s H ge fp pn e r (ctx_gblk r)) hs hse).mimp fun σ H Q h => quant_ok hP (fun {G r r' st σ' H' x d Q'} L h1 h2 h3 => by
    have hr1 : Room k X.A := hr.mono (Nat.le_succ k)
    exact (hg X.A X.s_0 H { X.env with scope := scope } [] [] rfl hr1 (ctx_gblk hr1)).ok L h1 h2 h3) hv h
end
end Mg
end
/-! ## DOwn -/
section
set_option Elab.async false
set_option linter.all false
set_option maxRecDepth 100000
set_option maxHeartbeats 2500000
/-! The data layer: lists and dicts that a name alone has; the store's lists; several targets at once. -/
namespace Mg
open PySem PySem.Spec PyProof.Rows L2 GxR
section
variable {F : Fx} {p : Bool} {G G' : Gh} {r : Env} {st : Sto} {σ : L2.St} {H : Hp} {a : Addr} {o o' : HO} {d d' : D} {i j : Nat}
theorem Ob.ntup {W : Wo} (h : Ob W G H a o d) : (∀ xs, o ≠ .tup xs) ∧ ∀ q u, o ≠ .frz q u := by
  constructor
  · intro xs e; cases h <;> cases e
  · intro q u e; cases h <;> cases e
/-- a new list or dict is a name's own -/
theorem Rel.setOwn (L : Rel F G r st σ H) (hr : G.rl a = none) (h : At F.W G H a d) : Rel F (G.give a (.sl i)) (r.set i (some (.own d))) st (σ.set i (some (.ref a))) H := by
  have ho : H a ≠ none := let ⟨o, e, _⟩ := h; by rw [e]; simp
  have L' := L.give (q := .sl i) hr ho
  refine ⟨by rw [List.length_set, List.length_set]; exact L.len, fun k e hk hno => ?_, fun k e hk => ?_, L'.nb, L'.bx, L'.tb, L'.on⟩
  · rw [List.getElem?_set] at hk ⊢
    by_cases hik : i = k
    · rw [if_pos hik] at hk
      split at hk
      · cases hk; exact absurd rfl (hno d)
      · cases hk
    · rw [if_neg hik] at hk ⊢
      exact L'.vl k e hk hno
  · rw [List.getElem?_set] at hk ⊢
    by_cases hik : i = k
    · rw [if_pos hik] at hk ⊢
      split at hk
      · rename_i hl
        cases hk
        subst hik
        exact ⟨a, by rw [if_pos (by rw [L.len]; exact hl)], Gh.give_same, h.mono (.give hr) fun _ e _ => e⟩
      · cases hk
    · rw [if_neg hik] at hk ⊢
      exact L'.ow k e hk
theorem Evs.give {q : Role} (h : G.rl a = none) (hn : H' a = none) (e : Evs G' H' G H) : Evs G' H' (G.give a q) H :=
  ⟨e.s1.trans (.give h), fun x o hx ho nt => by
    obtain ⟨k1, k2⟩ := e.no x o hx ho nt
    exact ⟨k1, by rw [Gh.give_ne fun z => by rw [z, hn] at ho; cases ho]; exact k2⟩⟩
/-- a name's own list or dict is changed -/
theorem St1.wrOwn (ho : H a = some o) (q : Ob F.W G H a o d) (hr : G.rl a = some (.sl i)) : St1 G H G (upd H a o') :=
  ⟨fun x xs e => by rw [upd_ne fun z => by rw [z, ho] at e; cases e; exact q.ntup.1 _ rfl]; exact e, fun x q' u e => by rw [upd_ne fun z => by rw [z, ho] at e; cases e; exact q.ntup.2 _ _ rfl]; exact e,
    fun x q' e h _ => by rw [upd_ne fun z => by rw [z, hr] at e; cases e]; exact h, fun _ e => e, Nat.le_refl _, fun _ _ => rfl, fun x h => by
      by_cases hx : x = a
      · subst hx; rw [upd_same]; simp
      · rw [upd_ne hx]; exact h⟩
theorem Rel.wrOwn (L : Rel F G r st σ H) (hi : r[i]? = some (some (.own d))) (ho : H a = some o) (q : Ob F.W G H a o d) (hr : G.rl a = some (.sl i)) (hs : σ[i]? = some (some (.ref a))) (q' : Ob F.W G (upd H a o') a o' d') :
    Rel F G (r.set i (some (.own d'))) st σ (upd H a o') := by
  have s := St1.wrOwn (o' := o') ho q hr
  refine ⟨by rw [List.length_set]; exact L.len, fun k e hk hno => ?_, fun k e hk => ?_, L.nb, fun n b e => ?_, ?_, fun x z e => s.up x (L.on x z e)⟩
  · rw [List.getElem?_set] at hk
    by_cases hik : i = k
    · rw [if_pos hik] at hk
      split at hk
      · cases hk; exact absurd rfl (hno d')
      · cases hk
    · rw [if_neg hik] at hk
      obtain ⟨v, h1, h2⟩ := L.vl k e hk hno
      exact ⟨v, h1, R.mono s h2⟩
  · rw [List.getElem?_set] at hk
    by_cases hik : i = k
    · rw [if_pos hik] at hk
      split at hk
      · cases hk
        subst hik
        exact ⟨a, hs, hr, o', upd_same, q'⟩
      · cases hk
    · rw [if_neg hik] at hk
      obtain ⟨b, h1, h2, h3⟩ := L.ow k e hk
      exact ⟨b, h1, h2, h3.mono s fun o e _ => by rw [upd_ne fun z => by rw [z, hr] at h2; cases h2; exact hik rfl]; exact e⟩
  · obtain ⟨h1, h2⟩ := L.bx n b e
    exact ⟨h1, h2.mono s (fun o e _ => by rw [upd_ne fun z => by rw [z, hr] at h1; cases h1]; exact e) fun y j o hy e _ => ⟨by rw [upd_ne (fun z => by rw [z, hr] at hy; cases hy)]; exact e, hy⟩⟩
  · exact s.tbs L.tb fun P ps e => by rw [upd_ne fun z => by rw [z, ho] at e; cases e; exact q.ntbl _ rfl]; exact e
theorem Evs.wrOwn (ho : H a = some o) (q : Ob F.W G H a o d) (hr : G.rl a = some (.sl i)) : Evs G H G (upd H a o') :=
  ⟨.wrOwn ho q hr, fun x u hx hu nt => ⟨by rw [upd_ne fun z => by rw [z, hr] at hx; cases hx]; exact hu, hx⟩⟩
/-- from here on it is data -/
theorem Rel.frz (L : Rel F G r st σ H) (hi : r[i]? = some (some (.own d))) (nd : d.isDic = false) : ∃ G', Rel F G' (r.set i (some d)) st σ H ∧ Evs G H G' H := by
  obtain ⟨a, h1, h2, o, ho, q⟩ := L.ow i d hi
  have s : St1 G H (G.give a .fz) H := ⟨fun _ _ e => e, fun _ _ _ e => e, fun _ _ _ e _ => e, fun x e => by
    by_cases hx : x = a
    · subst hx; exact Gh.give_same
    · rw [Gh.give_ne hx]; exact e, Nat.le_refl _, fun _ _ => rfl, fun _ e => e⟩
  refine ⟨G.give a .fz, ⟨by rw [List.length_set]; exact L.len, fun k e hk hno => ?_, fun k e hk => ?_, L.nb, fun n b e => ?_, s.tbs L.tb (fun _ _ e => e), fun x z e => ?_⟩, s, fun x u hx hu _ => ⟨hu, by rw [Gh.give_ne fun z => by rw [z, h2] at hx; cases hx]; exact hx⟩⟩
  · rw [List.getElem?_set] at hk
    by_cases hik : i = k
    · rw [if_pos hik] at hk
      split at hk
      · cases hk
        subst hik
        exact ⟨.ref a, h1, .obj Gh.give_same (.inl ho) (Ob.mono s q) nd⟩
      · cases hk
    · rw [if_neg hik] at hk
      obtain ⟨v, h3, h4⟩ := L.vl k e hk hno
      exact ⟨v, h3, R.mono s h4⟩
  · rw [List.getElem?_set] at hk
    by_cases hik : i = k
    · rw [if_pos hik] at hk
      split at hk
      · cases hk
        cases q
      · cases hk
    · rw [if_neg hik] at hk
      obtain ⟨b, h3, h4, h5⟩ := L.ow k e hk
      exact ⟨b, h3, by rw [Gh.give_ne fun z => by rw [z, h2] at h4; cases h4; exact hik rfl]; exact h4, h5.mono s fun _ e _ => e⟩
  · obtain ⟨h3, h4⟩ := L.bx n b e
    exact ⟨by rw [Gh.give_ne (x := (G.give a .fz).bx n) fun z => by rw [show (G.give a .fz).bx n = G.bx n from rfl] at z; rw [z, h2] at h3; cases h3]; exact h3, h4.mono s (fun _ e _ => e) fun y j o hy e _ => ⟨e, by rw [Gh.give_ne fun z => by rw [z, h2] at hy; cases hy]; exact hy⟩⟩
  · by_cases hx : x = a
    · subst hx; rw [ho]; simp
    · rw [Gh.give_ne hx] at e; exact L.on x z e
end
section
variable {F : Fx} [E : Fr0 F] {X : Cx} [C : CtxW F X] {e : Expr} {φ ψ : Ex} {b : Stm} {s : Stmt} {pos ppos apos : Pos} {i j : Nat} {x y : Str}
omit C in
/-- x = a new list or dict -/
theorem ds_new (he : PE X e (tF F false φ)) (hN : X.N.Nodup) (hi : X.N[i]? = some x := by rfl) (hx : Loc X.env.scope x := by first | exact Or.inl rfl | exact Or.inr rfl) (hs : swapsWith e (some (.Name x ppos)) pos.line X.env = pure false := by rfl)
    (hf : X.fn x = true ∨ X.env.scope.names.lookup x = some .local := by first | exact .inl rfl | exact .inr rfl) : PS X (.Assign [.Name x ppos] e pos) (tS F (stNew i φ)) := (ps_set hN hi hx he hs hf).mimp fun D σ H ⟨G, r, st, L, k⟩ => by
  refine ⟨G, r, st, L, ?_⟩
  unfold stNew at k
  revert k
  generalize φ r st = m
  intro k
  cases m with
  | bad => exact k
  | exn c fs st' => exact fun H' G' L' e => E.fr _ _ _ _ _ _ _ (k σ H' G' L'.drop e.evs)
  | ok z => exact fun a H' G' L' ev hn hr ha => k _ H' _ (L'.setOwn hr ha) (Evs.give hr hn ev.evs)
end
end Mg
end
/-! ## DOwn2 -/
section
set_option Elab.async false
set_option linter.all false
set_option maxRecDepth 100000
set_option maxHeartbeats 2500000
namespace Mg
open PySem PySem.Spec PyProof.Rows L2 GxR
/-! ### several targets at once -/
inductive RXs (F : Fx) (G : Gh) (H : Hp) : List V → List D → List Addr → Prop
  | nil : RXs F G H [] [] []
  | dat {v : V} {vs : List V} {d : D} {ds : List D} {fr : List Addr} : R F.W G H v d → RXs F G H vs ds fr → RXs F G H (v :: vs) (d :: ds) fr
  | own {a : Addr} {vs : List V} {d : D} {ds : List D} {fr : List Addr} : G.rl a = none → At F.W G H a d → a ∉ fr → RXs F G H vs ds fr → RXs F G H (.ref a :: vs) (.own d :: ds) (a :: fr)
section
variable {F : Fx} {G G' G0 : Gh} {H H' H0 : Hp} {r : Env} {st : Sto} {σ : L2.St}
theorem RXs.give {a : Addr} {q : Role} (hr : G.rl a = none) : ∀ {vs : List V} {ds : List D} {fr : List Addr}, RXs F G H vs ds fr → a ∉ fr → RXs F (G.give a q) H vs ds fr
  | _, _, _, .nil, _ => .nil
  | _, _, _, .dat h t, n => .dat (R.mono (.give hr) h) (t.give hr n)
  | _, _, _, .own h1 h2 h3 t, n => by
    rw [List.mem_cons, not_or] at n
    exact .own (by rw [Gh.give_ne fun z => n.1 z.symm]; exact h1) (h2.mono (.give hr) fun _ e _ => e) h3 (t.give hr n.2)
theorem RXs.length : ∀ {vs : List V} {ds : List D} {fr : List Addr}, RXs F G H vs ds fr → vs.length = ds.length
  | _, _, _, .nil => rfl
  | _, _, _, .dat _ t => congrArg (· + 1) t.length
  | _, _, _, .own _ _ _ t => congrArg (· + 1) t.length
end
/-! ### {} -/
/-! ### x op= e -/
section
variable {F : Fx} [E : Fr0 F] {X : Cx} {e : Expr} {φ : Ex} {pos ppos : Pos} {i : Nat} {x : Str}
theorem ds_aug {op : Operator} {f : D → D → Option D} {rl : R2} (ho : OpR X (inplaceOp op) rl) (hd : OpD F (fun _ => f) rl) (he : PE X e (tV F false φ)) (hN : X.N.Nodup) (hi : X.N[i]? = some x := by rfl) (hx : Loc X.env.scope x := by first | exact Or.inl rfl | exact Or.inr rfl)
    (hf : X.fn x = true ∨ X.env.scope.names.lookup x = some .local := by first | exact .inl rfl | exact .inr rfl) : PS X (.AugAssign (.Name x ppos) op e pos) (tS F (stAug i f φ)) := (ps_aug hN hi hx he ho hf).mimp fun D σ H ⟨G, r, st, L, k⟩ => by
  unfold stAug at k
  split at k
  · exact k.elim
  · rename_i d hno hd'
    obtain ⟨v, h1, h2⟩ := L.vl i d hd' fun z q => hno z q
    refine ⟨v, h1, G, r, st, L, postS_ofV (p := false) E.fr k fun y u H1 G1 _ L1 ev1 hy k1 => ?_⟩
    cases hq : f d y.1 with
    | none => rw [hq] at k1; exact k1.elim
    | some d2 =>
      rw [hq] at k1
      exact hd L1 (p := false) (.inl (R.mono ev1.s1 h2)) hy hq fun z H2 G2 L2 ev2 hz => k1 _ H2 G2 (L2.set hz) ev2.evs
  · exact k.elim
end
/-! ### the store's lists -/
section
variable {F : Fx} {G : Gh} {r : Env} {st : Sto} {σ : L2.St} {H : Hp} {a : Addr} {n : Nat}
def Gh.box (G : Gh) (a : Addr) : Gh := ⟨fun x => if x = a then some (.bx G.nb) else G.rl x, fun m => if m = G.nb then a else G.bx m, G.nb + 1⟩
theorem Gh.box_ne {x : Addr} (h : x ≠ a) : (G.box a).rl x = G.rl x := by simp [Gh.box, h]
theorem St1.box (h : G.rl a = none) : St1 G H (G.box a) H := ⟨fun _ _ e => e, fun _ _ _ e => e, fun _ _ _ e _ => e, fun x e => by
    rw [Gh.box_ne fun z => by rw [z, h] at e; cases e]; exact e, Nat.le_succ _, fun n hn => by simp [Gh.box, Nat.ne_of_lt hn], fun _ h => h⟩
/-- a new list goes into the store -/
theorem Rel.setBox {i : Nat} {xs : List V} {ds : List D} (L : Rel F G r st σ H) (hr : G.rl a = none) (ho : H a = some (.lst xs)) (rs : Rs F.W G H xs ds) :
    Rel F (G.box a) (r.set i (some (.box st.length))) (st ++ [.lst ds]) (σ.set i (some (.ref a))) H := by
  have s : St1 G H (G.box a) H := .box hr
  have hb : (G.box a).bx G.nb = a := by simp [Gh.box]
  have L' : Rel F (G.box a) r (st ++ [.lst ds]) σ H := by
    refine ⟨L.len, fun k e hk hno => ?_, fun k e hk => ?_, ?_, fun n b e => ?_, s.tbs L.tb (fun _ _ e => e), fun x q e => ?_⟩
    · obtain ⟨v, h1, h2⟩ := L.vl k e hk hno
      exact ⟨v, h1, R.mono s h2⟩
    · obtain ⟨b, h1, h2, h3⟩ := L.ow k e hk
      exact ⟨b, h1, by rw [Gh.box_ne fun z => by rw [z, hr] at h2; cases h2]; exact h2, h3.mono s fun _ e _ => e⟩
    · show G.nb + 1 = _
      rw [List.length_append, L.nb]; rfl
    · by_cases hn : n < st.length
      · rw [List.getElem?_append_left hn] at e
        obtain ⟨h1, h2⟩ := L.bx n b e
        rw [s.bx n (by rw [L.nb]; exact hn)]
        exact ⟨by rw [Gh.box_ne fun z => by rw [z, hr] at h1; cases h1]; exact h1, h2.mono s (fun _ e _ => e) fun y j o hy e _ => ⟨e, by rw [Gh.box_ne fun z => by rw [z, hr] at hy; cases hy]; exact hy⟩⟩
      · rw [List.getElem?_append_right (by omega)] at e
        have hn' : n = st.length := by
          have := (List.getElem?_eq_some_iff.mp e).1
          simp at this
          omega
        subst hn'
        simp at e
        subst e
        rw [← L.nb, hb]
        exact ⟨by simp [Gh.box], .lst ho (Rs.mono s rs)⟩
    · by_cases hx : x = a
      · subst hx; rw [ho]; simp
      · rw [Gh.box_ne hx] at e; exact L.on x q e
  have hv : R F.W (G.box a) H (.ref a) (.box st.length) := by
    have := R.box (W := F.W) (G := G.box a) (H := H) G.nb (Nat.lt_succ_self _)
    rw [hb, L.nb] at this
    exact this
  exact L'.set hv
theorem Evs.box {G0 : Gh} {H0 : Hp} (h : G.rl a = none) (hn : H0 a = none) (e : Evs G0 H0 G H) : Evs G0 H0 (G.box a) H :=
  ⟨e.s1.trans (.box h), fun x o hx ho nt => by
    obtain ⟨k1, k2⟩ := e.no x o hx ho nt
    exact ⟨k1, by rw [Gh.box_ne fun z => by rw [z, hn] at ho; cases ho]; exact k2⟩⟩
/-- a list of the store is changed -/
theorem Rel.wrBox {xs ys : List V} {ds es : List D} (L : Rel F G r st σ H) (hn : st[n]? = some (.lst ds)) (ho : H (G.bx n) = some (.lst xs)) (rs : Rs F.W G H ys es) :
    Rel F G r (st.set n (.lst es)) σ (upd H (G.bx n) (.lst ys)) ∧ Evs G H G (upd H (G.bx n) (.lst ys)) := by
  obtain ⟨hr, _⟩ := L.bx n _ hn
  have s : St1 G H G (upd H (G.bx n) (.lst ys)) := ⟨fun x zs e => by rw [upd_ne fun z => by rw [z, ho] at e; cases e]; exact e, fun x q u e => by rw [upd_ne fun z => by rw [z, ho] at e; cases e]; exact e,
    fun x q e h _ => by rw [upd_ne fun z => by rw [z, hr] at e; cases e]; exact h, fun _ e => e, Nat.le_refl _, fun _ _ => rfl, fun x h => by
      by_cases hx : x = G.bx n
      · subst hx; rw [upd_same]; simp
      · rw [upd_ne hx]; exact h⟩
  refine ⟨⟨L.len, fun k e hk hno => ?_, fun k e hk => ?_, by rw [List.length_set]; exact L.nb, fun m b e => ?_, ?_, fun x q e => s.up x (L.on x q e)⟩, s, fun x u hx hu nt => ⟨by rw [upd_ne fun z => by rw [z, hr] at hx; cases hx]; exact hu, hx⟩⟩
  · obtain ⟨v, h1, h2⟩ := L.vl k e hk hno
    exact ⟨v, h1, R.mono s h2⟩
  · obtain ⟨b, h1, h2, h3⟩ := L.ow k e hk
    exact ⟨b, h1, h2, h3.mono s fun o e _ => by rw [upd_ne fun z => by rw [z, hr] at h2; cases h2]; exact e⟩
  · rw [List.getElem?_set] at e
    by_cases hm : n = m
    · rw [if_pos hm] at e
      split at e
      · cases e
        subst hm
        exact ⟨hr, .lst upd_same (Rs.mono s rs)⟩
      · cases e
    · rw [if_neg hm] at e
      obtain ⟨h1, h2⟩ := L.bx m b e
      exact ⟨h1, h2.mono s (fun o e _ => by rw [upd_ne fun z => by rw [z, hr] at h1; cases h1; exact hm rfl]; exact e) fun y j o hy e _ => ⟨by rw [upd_ne (fun z => by rw [z, hr] at hy; cases hy)]; exact e, hy⟩⟩
  · exact s.tbs L.tb fun P ps e => by rw [upd_ne fun z => by rw [z, ho] at e; cases e]; exact e
end
section
variable {F : Fx} [E : Fr0 F] {X : Cx} [C : Ctx F X] {e o ke : Expr} {es : List Expr} {φ χ κ : Ex} {ψ : Exs} {pos ppos apos lpos : Pos} {i n : Nat} {x : Str}
omit C in
/-- x = [..], a list that is changed -/
theorem ds_box (he : PA X es (tA F false ψ)) (f : Few n ψ) (hN : X.N.Nodup) (hn : n ≤ 1000 := by decide) (hi : X.N[i]? = some x := by rfl) (hx : Loc X.env.scope x := by first | exact Or.inl rfl | exact Or.inr rfl) (hs : swapsWith (.List es lpos) (some (.Name x ppos)) pos.line X.env = pure false := by rfl)
    (hf : X.fn x = true ∨ X.env.scope.names.lookup x = some .local := by first | exact .inl rfl | exact .inr rfl) : PS X (.Assign [.Name x ppos] (.List es lpos) pos) (tS F (stBox i ψ)) := (ps_set hN hi hx (pe_lst he) hs hf).mimp fun D σ H ⟨G, r, st, L, k⟩ => by
  refine ⟨G, r, st, L, ?_⟩
  unfold stBox at k
  have f := f r st
  revert k f
  generalize ψ r st = m
  intro k f
  cases m with
  | bad => exact k
  | exn c fs st' => exact fun H' G' L' e => E.fr _ _ _ _ _ _ _ (k σ H' G' L'.drop e.evs)
  | ok z =>
    intro vs H1 G1 L1 ev1 hvs
    refine ⟨by rw [hvs.length, sizeLine_eq]; have := f z rfl; omega, fun a ha => ?_⟩
    exact k _ _ _ ((L1.lay ha).setBox (L1.noRole ha) upd_same (Rs.mono (.lay ha) hvs)) (Evs.box (L1.noRole ha) (ev1.s1.free ha) (ev1.trans (Ev.lay ha)).evs)
omit C in
/-- x[k] = e, x a list of the store -/
theorem ds_putB (he : PE X e (tD F false φ)) (ho : PE X o (tV F false χ)) (hk : PE X ke (tV F false κ))
    (ha : ∀ v, assign (.Subscript o ke apos) X.env v = (do
      let ov ← holding [v] (eval o X.env)
      let iv ← holding [v, ov] (eval ke X.env)
      standAt apos
      holding [v, ov, iv] (setItem ov iv v)
      release [v, ov, iv] []) := by intro _; rfl) (hs : swapsWithSole [.Subscript o ke apos] e pos.line X.env = pure false := by rfl) (hw : swappedStores [.Subscript o ke apos] e X.env = pure none := by rfl)
    (h1 : (assignEach [.Subscript o ke apos] X.env).map (·.2) = [assign (.Subscript o ke apos) X.env] := by rfl) :
    PS X (.Assign [.Subscript o ke apos] e pos) (tS F (stPutB χ κ φ)) := (ps_asg he (pg_sub ho hk set_list ha) hs hw h1).mimp fun D σ H ⟨G, r, st, L, k⟩ => by
  refine ⟨G, r, st, L, postS_of E.fr k fun z v H1 G1 _ L1 ev1 hv' k1 => ?_⟩
  refine ⟨G1, r, z.2, L1, postS_ofV (p := false) E.fr k1 fun y u H2 G2 hy2 L2 ev2 hu k2 => ?_⟩
  refine ⟨G2, r, y.2, L2, postS_ofV (p := false) E.fr k2 fun w u2 H3 G3 hw2 L3 ev3 hu2 k3 => ?_⟩
  obtain ⟨d1, st1⟩ := y
  obtain ⟨d2, st2⟩ := w
  clear hy2 hw2
  cases d1 <;> (try (exact k3.elim))
  cases d2 <;> (try (exact k3.elim))
  rename_i n i
  obtain ⟨rfl, _⟩ := (hu.mono ev3).box
  obtain rfl := hu2.int
  simp only at k3
  split at k3
  · rename_i l hl
    split at k3
    · rename_i j hj
      cases L3.box hl with
      | lst h3 r3 =>
        rename_i xs
        have hvs := R.mono (ev2.s1.trans ev3.s1) hv'
        obtain ⟨L4, e4⟩ := L3.wrBox (ys := xs.set j v) (es := l.set j z.1) hl h3 (Rs.set hvs j r3)
        exact ⟨_, xs, i, j, rfl, rfl, h3, by rw [r3.length, ← place_ix]; exact hj, k3 σ _ G3 L4 e4⟩
    · exact k3.elim
  · exact k3.elim
end
end Mg
end
/-! ## DSort -/
section
set_option Elab.async false
set_option linter.all false
set_option maxRecDepth 100000
set_option maxHeartbeats 2500000
/-! The data layer: sorted. -/
namespace PySem.W
open PySem PySem.Calls PySem.SeqAt PyProof.Rows
section
variable {prog : Program} {w : World} {A : Around} {s : Shared} {E : Value → Shared → Prop}
/-- two tuples, place by place: where they are told equal, where less -/
structure PlaceBy (A : Around) (s : Shared) (us vs : Array Value) (same less : Nat → Bool) : Prop where
  eqs : ∀ j (h : j < us.size) (k : j < vs.size), EqAt A.in1 s us[j] vs[j] (same j)
  lts : ∀ j (h : j < us.size) (k : j < vs.size), same j = false → RcLt A.in1 s us[j] vs[j] (less j)
/-- a < b of tuples, as the slot of < is called -/
theorem tup_less {Q : Value → Shared → Prop} {a b : Addr} {us vs : Array Value} {same less : Nat → Bool} (ha : s.heap.IsTuple a us) (hb : s.heap.IsTuple b vs) (pl : PlaceBy A s us vs same less)
    (fin : Q (.bool (firstLt same less (decide (us.size < vs.size)) (List.range (min us.size vs.size)))) s) : wpAny (model prog w) A (call (.builtin "tuple.__lt__") [.ref a, .ref b]) Q E s := by
  let ⟨⟨_, da, _, sa⟩, oa, ca, na, xa⟩ := ha
  let ⟨⟨_, db, _, sb⟩, ob, cb, nb, xb⟩ := hb
  cases ca; cases xa; cases cb; cases xb
  exact call_meets F.slot_tuple_lt ⟨_, oa, rfl⟩ F.entry_tuple_lt (F.args_tuple_lt_2 _ _) (tuple_ltAt a b us vs na nb da db sa sb same less) ⟨oa, ob, pl.eqs, pl.lts, fin⟩
/-- what reads as tuples of alike data is told place by place -/
theorem place_data {xs ys : List PyData} {us vs : Array Value} {as bs : List Addr} (ra : ReadsAll s.heap us.toList xs as) (rb : ReadsAll s.heap vs.toList ys bs) (al : alikeAll xs ys = true) (room : A.units + min (PyData.tuple xs).depth (PyData.tuple ys).depth < cLine) :
    PlaceBy A s us vs (pairEq xs ys) fun j => dataLt (xs.getD j .none) (ys.getD j .none) :=
  ⟨fun j h k => eqAt_alikeAll xs ys A.in1 s us.toList vs.toList as bs ra rb al (room_in room) j (by simpa using h) (by simpa using k),
    fun j h k n => rcLt_alikeAll xs ys A.in1 s us.toList vs.toList as bs ra rb al (room_in room) j (by simpa using h) (by simpa using k) n⟩
/-- one key against another, tuples too -/
theorem oneLt_any {f : Bool} {da db : PyData} {a b : Value} {as bs : List Addr} {Q : Bool → Shared → Prop} (ra : Reads s.heap a da as) (rb : Reads s.heap b db bs) (al : alike da db = true) (hn : da ≠ .none)
    (room : A.units + min da.depth db.depth < cLine) (fin : Q (dataLt da db) s) : wpAny (model prog w) A (oneLt' f a b) Q E s := by
  by_cases both : f = true ∧ ∃ xs, da = .tuple xs
  · obtain ⟨rfl, xs, rfl⟩ := both
    obtain ⟨ys, rfl⟩ : ∃ ys, db = .tuple ys := by
      cases db with
      | tuple ys => exact ⟨ys, rfl⟩
      | _ => simp [alike] at al
    have al : alikeAll xs ys = true := by rw [alike] at al; exact al
    cases ra
    rename_i oa us na _ a1 a2 a3 a4
    cases rb
    rename_i ob vs nb _ b1 b2 b3 b4
    have la := ReadsAll.length _ _ _ a4
    have lb := ReadsAll.length _ _ _ b4
    rw [Array.length_toList] at la lb
    rw [dataLt_tuple, ← firstLt_toks xs ys al, ← la, ← lb] at fin
    rw [oneLt'_eq, if_pos rfl]
    exact wpAny_bind (wpAny_cRoomFor (room_here room) (wpAny_bind (wpAny_callSpecialIfBound?_slot (T := "tuple") ⟨_, a1, a2⟩ F.slot_tuple_lt (tup_less ⟨_, a1, a2, _, a3⟩ ⟨_, b1, b2, _, b3⟩ (place_data a4 b4 al room) (wpAny_truthy_bool fin)))))
  · exact oneLt_alike (fun z xs q => both ⟨z, xs, q⟩) ra rb al hn room fin
/-- the first items of tuples, some of them empty -/
theorem firsts_tups : ∀ (vs : List Value) (ds : List PyData) {Q : List (Option Value) → Shared → Prop}, EachIs (fun v d => ∃ as, Reads s.heap v d as) vs ds → (∀ d ∈ ds, ∃ r, d = .tuple r) →
    (∀ fs : List (Option Value), fs.length = ds.length → (∀ i, i < ds.length → ((fs.getD i none).isSome = true ↔ ds.getD i .none ≠ .tuple [])) → Q fs s) → wpAny (model prog w) A (vs.mapM firstOfTuple') Q E s
  | _, _, Q, .nil, _, h => by
    rw [List.mapM_nil]
    exact wpAny_pure (h [] rfl fun i hi => absurd hi (Nat.not_lt_zero _))
  | v :: vs, d :: ds, Q, .cons ⟨as, r⟩ t, ht, h => by
    obtain ⟨xs, rfl⟩ := ht d List.mem_cons_self
    cases r with
    | @tuple l o its n _ as₁ h1 h2 h3 h4 =>
      rw [List.mapM_cons]
      refine wpAny_bind ?_
      rw [kas_first_eq]
      refine wpAny_bind (Looks.here (show Looks _ s.heap (typeOf (.ref l)) o.cls from (Looks.ld h1).andThen .now) ?_)
      rw [h2, if_neg (by first | decide | simp)]
      refine wpAny_bind (listItems_at h1 h3 (wpAny_pure ?_))
      refine wpAny_bind (firsts_tups vs ds (Q := fun bs s' => wpAny (model prog w) A (pure (its[0]? :: bs)) Q E s') t (fun d hd => ht d (List.mem_cons_of_mem _ hd)) fun fs hl hi => wpAny_pure (h _ (by simp [hl]) fun i hi2 => ?_))
      cases i with
      | zero =>
        have hl2 := ReadsAll.length _ _ _ h4
        show ((its[0]?).isSome = true ↔ PyData.tuple xs ≠ .tuple [])
        rw [← Array.getElem?_toList]
        cases xs with
        | nil =>
          have : its.toList = [] := List.length_eq_zero_iff.mp hl2
          simp [this]
        | cons x xs =>
          have : 0 < its.toList.length := by rw [hl2]; simp
          simp [this]
          simpa using this
      | succ i =>
        have := hi i (by simpa using hi2)
        simpa using this
theorem types_tups : ∀ (vs : List Value) (ds : List PyData), EachIs (fun v d => ∃ as, Reads s.heap v d as) vs ds → (∀ d ∈ ds, ∃ r, d = .tuple r) → ∀ v ∈ vs, Looks (model prog w) s.heap (typeOf v) (.type "tuple")
  | _, _, .nil, _, v, hv => by cases hv
  | u :: vs, d :: ds, .cons ⟨as, r⟩ t, ht, v, hv => by
    cases hv with
    | head =>
      obtain ⟨xs, rfl⟩ := ht d List.mem_cons_self
      cases r with
      | @tuple l o its n _ as₁ h1 h2 h3 h4 =>
        rw [← h2]
        exact (Looks.ld h1).andThen .now
    | tail _ hv => exact types_tups vs ds t (fun d hd => ht d (List.mem_cons_of_mem _ hd)) v hv
/-- alike data sort, tuples with empty ones among them too -/
theorem SortsAt.any {vs : List Value} {ds : List PyData} (e : EachIs (fun v d => ∃ as, Reads s.heap v d as) vs ds) (hal : AllAlike ds) (hn : ∀ d ∈ ds, d ≠ .none) (hu : ∀ d, d ∈ ds → A.units + d.depth < cLine) : SortsAt prog w A s (dataKind s.heap ds) vs := by
  by_cases hs : Sortable ds
  · exact SortsAt.data e hal hs hu
  -- one is a tuple, so all are; one is empty
  have hT : ∀ d ∈ ds, ∃ r, d = .tuple r := by
    refine Classical.byContradiction fun hc => hs (.inr fun d hd => ⟨hn d hd, fun xs z => hc fun d' hd' => ?_⟩)
    subst z
    have := hal _ hd d' hd'
    cases d' with
    | tuple r => exact ⟨r, rfl⟩
    | _ => simp [alike] at this
  have hE : PyData.tuple [] ∈ ds := by
    refine Classical.byContradiction fun hc => hs (.inl fun d hd => ?_)
    obtain ⟨r, rfl⟩ := hT d hd
    cases r with
    | nil => exact absurd hd hc
    | cons => exact ⟨_, _, rfl⟩
  refine ⟨fun v hv => let ⟨_, hd, _, r⟩ := e.left v hv; ⟨_, dataKind_some hal hd r⟩, ?_⟩
  have lt : ∀ f, ∀ (E : Value → Shared → Prop) (x y : Value) (a b : (dataKind s.heap ds).α) {Q : Bool → Shared → Prop}, (dataKind s.heap ds).keyOf x = some a → (dataKind s.heap ds).keyOf y = some b → Q ((dataKind s.heap ds).blt a b) s → wpAny (model prog w) A (oneLt' f x y) Q E s :=
    fun f E x y a b Q ha hb hq => by
      obtain ⟨p, _, hp, rp, rfl⟩ := dataKind_inv ha
      obtain ⟨q, _, hq', rq, rfl⟩ := dataKind_inv hb
      have up := hu p hp
      exact oneLt_any rp rq (hal p hp q hq') (hn p hp) (by omega) hq
  have hkind : ∀ (E : Value → Shared → Prop) {Q : SortKind → Shared → Prop}, (ds.getD 0 .none = .tuple [] → Q oneType' s) → (¬ ds.getD 0 .none = .tuple [] → Q general' s) → wpAny (model prog w) A (keyKind' vs.toArray) Q E s := by
    intro E Q hq1 hq2
    rw [keyKind'_eq, List.mapM_toArray, map_eq_pure_bind]; refine wpAny_bind (wpAny_bind (firsts_tups vs ds e hT fun fs hl hi => wpAny_pure ?_))
    obtain ⟨i, hi1, hi2⟩ := List.mem_iff_getElem.mp hE
    have h0 : 0 < ds.length := by omega
    have hsome : (fs.toArray.all fun x => x.isSome) = false := by
      rw [Bool.eq_false_iff]
      intro hall
      simp only [List.all_toArray, List.all_eq_true] at hall
      have hfi : i < fs.length := by omega
      have := hall fs[i] (List.getElem_mem hfi)
      have h2 := (hi i hi1).mp (by rw [List.getD_eq_getElem?_getD, List.getElem?_eq_getElem hfi]; exact this)
      exact h2 (by rw [List.getD_eq_getElem?_getD, List.getElem?_eq_getElem hi1]; exact hi2)
    rw [if_neg (by rw [hsome]; simp)]
    have hf0 : ((fs.toArray[0]?).bind id) = fs.getD 0 none := by
      cases fs with
      | nil => simp at hl; omega
      | cons f fs => simp
    rw [hf0]
    have hh := hi 0 h0
    by_cases h : ds.getD 0 .none = .tuple []
    · rw [if_neg (fun z => hh.mp z h)]
      rw [oneTypeOnly'_eq, List.mapM_toArray, map_eq_pure_bind]; refine wpAny_bind (wpAny_bind (wpAny_bind (kas_mapM (r := .type "tuple") _ (fun v hv Q' hq => (types_tups vs ds e hT v hv).here hq) (wpAny_pure ?_))))
      have hlv : vs.length = ds.length := e.length
      have hv0 : ((List.map (fun _ => Value.type "tuple") vs).toArray[0]?) = some (.type "tuple") := by
        cases vs with
        | nil => simp at hlv; omega
        | cons => simp
      rw [hv0]
      have hall : ((List.map (fun _ => Value.type "tuple") vs).toArray.all fun x => x == Value.type "tuple") = true := by
        simp [List.all_map]
      simp only [hall, if_true]
      exact wpAny_pure (wpAny_pure (hq1 h))
    · have hq := hq2 h
      rw [if_pos (hh.mpr h)]
      exact wpAny_pure hq
  by_cases h : ds.getD 0 .none = .tuple []
  · exact ⟨oneType', fun E x y a b Q ha hb hq => by rw [keyLt'_oneType]; exact lt true E x y a b ha hb hq, fun _ E Q hq => hkind E (fun _ => hq) fun z => absurd h z⟩
  · exact ⟨general', fun E x y a b Q ha hb hq => lt false E x y a b ha hb hq, fun _ E Q hq => hkind E (fun z => absurd z h) fun _ => hq⟩
end
end PySem.W
end
/-! ## DSort2 -/
section
set_option Elab.async false
set_option linter.all false
set_option maxRecDepth 100000
set_option maxHeartbeats 2500000
namespace Mg
open PySem PySem.Spec PyProof.Rows L2 GxR PySem.W PySem.Calls
/-! ### < of alike data -/
mutual
theorem py_alike : ∀ (a b : D), D.alike a b = true → alike a.py b.py = true
  | .int a, b, h => by cases b <;> first | rfl | cases h
  | .str a, b, h => by cases b <;> first | rfl | cases h
  | .tup xs, b, h => by
    cases b with
    | tup ys => rw [D.py, D.py, alike]; exact pys_alike xs ys h
    | _ => cases h
  | .lst xs, b, h => by
    cases b with
    | lst ys => rw [D.py, D.py, alike]; exact pys_alike xs ys h
    | _ => cases h
  | .non, b, h => by cases b <;> cases h
  | .bl _, b, h => by cases b <;> cases h
  | .dic _ _ _, b, h => by cases b <;> cases h
  | .st _, b, h => by cases b <;> cases h
  | .box _, b, h => by cases b <;> cases h
  | .own _, b, h => by cases b <;> cases h
  | .err _ _, b, h => by cases b <;> cases h
  | .fo _, b, h => by cases b <;> cases h
  | .fn _ _, b, h => by cases b <;> cases h
theorem pys_alike : ∀ (a b : List D), D.alikes a b = true → alikeAll (D.pys a) (D.pys b) = true
  | [], [], _ => rfl
  | [], _ :: _, _ => rfl
  | _ :: _, [], _ => rfl
  | x :: xs, y :: ys, h => by
    rw [D.pys, D.pys, alikeAll, py_alike x y (Bool.and_eq_true_iff.mp h).1, pys_alike xs ys (Bool.and_eq_true_iff.mp h).2]
    rfl
end
mutual
theorem py_lt : ∀ (a b : D), D.alike a b = true → a.pl = true → b.pl = true → dataLt a.py b.py = D.lt a b
  | .int a, b, h, _, _ => by
    cases b with
    | int b => rw [D.py, D.py, dataLt_int, D.lt]
    | _ => cases h
  | .str a, b, h, _, _ => by
    cases b with
    | str b => rw [D.py, D.py, dataLt_str, D.lt]
    | _ => cases h
  | .tup xs, b, h, ha, hb => by
    cases b with
    | tup ys => rw [D.py, D.py, dataLt_tuple, D.lt]; exact pys_lt xs ys h ha hb
    | _ => cases h
  | .lst xs, b, h, ha, hb => by
    cases b with
    | lst ys => rw [D.py, D.py, dataLt_list, D.lt]; exact pys_lt xs ys h ha hb
    | _ => cases h
  | .non, b, h, _, _ => by cases b <;> cases h
  | .bl _, b, h, _, _ => by cases b <;> cases h
  | .dic _ _ _, b, h, _, _ => by cases b <;> cases h
  | .st _, b, h, _, _ => by cases b <;> cases h
  | .box _, b, h, _, _ => by cases b <;> cases h
  | .own _, b, h, _, _ => by cases b <;> cases h
  | .err _ _, b, h, _, _ => by cases b <;> cases h
  | .fo _, b, h, _, _ => by cases b <;> cases h
  | .fn _ _, b, h, _, _ => by cases b <;> cases h
theorem pys_lt : ∀ (a b : List D), D.alikes a b = true → D.pls a = true → D.pls b = true → PyProof.Rows.lexLt itemOrd (keyToksAll (D.pys a)) (keyToksAll (D.pys b)) = D.lts a b
  | [], [], _, _, _ => by rw [D.pys]; exact lex_irrefl _
  | [], y :: ys, _, _, _ => by
    rw [D.pys, D.pys, toks_all_cons, D.lts, keyToksAll]
    rw [lex_diff (by intro z; cases z)]
    rfl
  | x :: xs, [], _, _, _ => by
    rw [D.pys, D.pys, toks_all_cons, D.lts, keyToksAll]
    rw [lex_diff (by intro z; cases z)]
    rfl
  | x :: xs, y :: ys, h, ha, hb => by
    have h1 := (Bool.and_eq_true_iff.mp h).1
    have h2 := (Bool.and_eq_true_iff.mp h).2
    have a1 := (Bool.and_eq_true_iff.mp ha).1
    have a2 := (Bool.and_eq_true_iff.mp ha).2
    have b1 := (Bool.and_eq_true_iff.mp hb).1
    have b2 := (Bool.and_eq_true_iff.mp hb).2
    rw [D.pys, D.pys, dataLt_cons (py_alike x y h1), py_eqv x y a1 b1, pys_lt xs ys h2 a2 b2, py_lt x y h1 a1 b1, D.lts]
end
/-! ### the call -/
section
variable {prog : Program} {w : World} {A : Around} {E : Value → Shared → Prop} {s : Shared}
/-- the heap with a new list of these items -/
abbrev listed (h : Heap) (vs : List Value) : Heap := h.push (seqObj "list" vs.toArray 0)
theorem listed_at (h : Heap) (vs : List Value) : (listed h vs).get? h.objs.size = some (seqObj "list" vs.toArray 0) := Heap.get?_push_size _ rfl
/-- what is older than the new list stands while it is sorted, and behind it -/
theorem listed_sorting {h : Heap} {vs : List Value} {b : Addr} {o : Obj} (e : h.get? b = some o) : (sortingHeap (listed h vs) h.objs.size vs).get? b = some o :=
  sortingHeap_old (Nat.ne_of_lt (Heap.lt_size e)) (Heap.get?_push_of_some _ e)
theorem listed_sorted {h : Heap} {vs : List Value} {out : Array Value} {b : Addr} {o : Obj} (e : h.get? b = some o) : (PyProof.Rows.sortedHeap (listed h vs) h.objs.size vs out).get? b = some o := by
  have lt := Heap.lt_size e
  rw [PyProof.Rows.sortedHeap_old (Nat.ne_of_lt lt) (by rw [Heap.size_push]; exact Nat.lt_succ_of_lt lt)]
  exact Heap.get?_push_of_some _ e
/-- sorted(xs) of a list or a tuple: its items in a new list, which is sorted -/
theorem sorted_seq {l : Addr} {vs : List Value} {T : String} {o : Obj} {n : Nat} {κ : Heap → KeyKind} {Q : Value → Shared → Prop} (hT : T = "list" ∨ T = "tuple") (ho : s.heap.get? l = some o) (hc : o.cls = .type T) (hd : o.data = .seq vs.toArray n) (hL : vs.length ≤ sizeLine)
    (k : ∀ h', (∀ b o, s.heap.get? b = some o → h'.get? b = some o) → SortsAt prog w A.in1.in1 { s with heap := sortingHeap (listed h' vs) h'.objs.size vs } (κ h') vs ∧
      Q (.ref h'.objs.size) { s with heap := PyProof.Rows.sortedHeap (listed h' vs) h'.objs.size vs (sortVals (κ h') false vs vs).toArray }) : wpAny (model prog w) A (call (.builtin "sorted") [.ref l]) Q E s := by
  have run : ∀ h', (∀ b o, s.heap.get? b = some o → h'.get? b = some o) → ∀ E', wpAny (model prog w) A.in1.in1 (Builtin.«list.sort» ⟨[.ref h'.objs.size], []⟩) (fun f s' => f = .done (.ret .none) ∧ Q (.ref h'.objs.size) s') E' { s with heap := listed h' vs } :=
    fun h' hk E' => list_sort_vals (s := { s with heap := listed h' vs }) (listed_at h' vs) (k h' hk).1 hL ⟨rfl, (k h' hk).2⟩
  refine call_function_entry_kw kind_sorted plain_sorted entry_sorted (args_sorted1 _) ?_
  unfold Builtin.«sorted»
  refine wpAny_bind (m := checkCount "sorted" 1 1 _) (wpAny_pure (wpAny_bind (wpAny_collect_seq l hT ho hc hd (fun h' hk => ?_) (by rw [List.size_toArray]; exact hL))))
  refine wpAny_bind (wpAny_newList (wpAny_bind (wpAny_holding (wpAny_call_entry_kw slot_list_sort ⟨_, listed_at h' vs, rfl⟩ entry_list_sort ?_ (args_list_sort _)))) hL)
  refine wpAny_mono (run h' hk _) (fun f s' hf => ?_) fun _ _ e => e
  obtain ⟨rfl, hq⟩ := hf
  exact ⟨_, rfl, wpAny_pure ⟨_, rfl, hq⟩⟩
end
section
variable {F : Fx} {X : Cx} [C : Ctx F X]
theorem each_zip {W : Wo} {G : Gh} {H : Hp} : ∀ {ys : List V} {ds : List D} {us : List Value}, Rs W G H ys ds → Vals ys us → EachIs (fun (v : Value) (b : V × D) => RelV b.1 v ∧ R W G H b.1 b.2) us (ys.zip ds)
  | _, _, _, .nil, .nil => .nil
  | _, _, _, .cons h t, .cons r q => .cons ⟨r, h⟩ (each_zip t q)
theorem zip_snd {α β : Type} : ∀ {xs : List α} {ys : List β}, xs.length = ys.length → (xs.zip ys).map Prod.snd = ys
  | [], [], _ => rfl
  | x :: xs, y :: ys, h => by
    rw [List.zip_cons_cons, List.map_cons, zip_snd (by simpa using h)]
theorem each_out {W : Wo} {G : Gh} {H : Hp} : ∀ {us : List Value} {bs : List (V × D)}, EachIs (fun (v : Value) (b : V × D) => RelV b.1 v ∧ R W G H b.1 b.2) us bs → Vals (bs.map Prod.fst) us ∧ Rs W G H (bs.map Prod.fst) (bs.map Prod.snd)
  | _, _, .nil => ⟨.nil, .nil⟩
  | _, _, .cons ⟨h1, h2⟩ t => let ⟨k1, k2⟩ := each_out t; ⟨.cons h1 k1, .cons h2 k2⟩
def rSortD (F : Fx) : List V → Hp → VK → Prop := fun xs H Q => ∃ G a ys ds, xs = [.ref a] ∧ (SqL F.W.K H a ys ∨ SqT F.W.K H a ys) ∧ Rs F.W G H ys ds ∧ D.sorts ds = true ∧ ds.length ≤ line ∧
  ∀ p zs, H p = none → Rs F.W G H zs (ds.mergeSort D.le) → Q (.ref p) (upd H p (.lst zs))
theorem cr_sortD : CallR X (.builtin "sorted") (rSortD F) := by
  intro pins s σ H vs us Q I r h
  obtain ⟨G, a, ys, ds, rfl, hs, rs, hsort, hlen, q⟩ := h
  rw [Vals.ref1 r]
  have key : ∀ (its : List Value) (T : String) (o : Obj) (n : Nat), Vals ys its → (T = "list" ∨ T = "tuple") → s.heap.get? a = some o → o.cls = .type T → o.data = .seq its.toArray n → wpAny (model X.prog X.w) X.A (call (.builtin "sorted") [.ref a]) (EP X pins σ Q) X.xe s := by
    intro its T o n rv hT ho hc hd
    unfold D.sorts at hsort
    rw [Bool.and_eq_true] at hsort
    have hal : ∀ d ∈ ds, ∀ d' ∈ ds, D.alike d d' = true := fun d hd d' hd' => List.all_eq_true.mp (List.all_eq_true.mp hsort.1 d hd) d' hd'
    have hpl : ∀ d ∈ ds, d.pl = true ∧ d.dep ≤ 50 := fun d hd => by
      have := List.all_eq_true.mp hsort.2 d hd
      rw [Bool.and_eq_true, decide_eq_true_eq] at this
      exact this
    have hyl := rs.length
    have hvl := rv.length
    have hmem : ∀ b ∈ ys.zip ds, b.2 ∈ ds := fun b hb => (List.of_mem_zip hb).2
    have e := each_zip (W := F.W) (G := G) (H := H) rs rv
    have er : EachIs (fun (v : Value) (b : V × D) => ∃ as, Reads s.heap v b.2.py as) its (ys.zip ds) := by
      have : ∀ {us : List Value} {bs : List (V × D)}, (∀ b ∈ bs, b.2 ∈ ds) → EachIs (fun (v : Value) (b : V × D) => RelV b.1 v ∧ R F.W G H b.1 b.2) us bs → EachIs (fun (v : Value) (b : V × D) => ∃ as, Reads s.heap v b.2.py as) us bs := by
        intro us bs hm h
        induction h with
        | nil => exact .nil
        | cons h t ih =>
          refine .cons ?_ (ih fun b hb => hm b (List.mem_cons_of_mem _ hb))
          have hp := hpl _ (hm _ List.mem_cons_self)
          exact Dp.reads I _ _ _ (C.K ▸ dp_of h.2 hp.1) h.1
      exact this hmem e
    have ala : AllAlike ((ys.zip ds).map fun b : V × D => b.2.py) := by
      intro d hd d' hd'
      obtain ⟨b, hb, rfl⟩ := List.mem_map.mp hd
      obtain ⟨b', hb', rfl⟩ := List.mem_map.mp hd'
      exact py_alike _ _ (hal _ (hmem b hb) _ (hmem b' hb'))
    have hne : ∀ d ∈ (ys.zip ds).map (fun b : V × D => b.2.py), d ≠ .none := by
      intro d hd z
      obtain ⟨b, hb, rfl⟩ := List.mem_map.mp hd
      have := ala _ hd _ hd
      have h2 := hal _ (hmem b hb) _ (hmem b hb)
      cases hb2 : b.2 <;> rw [hb2] at z h2 <;> first | (cases z; done) | (cases h2; done)
    have hL : its.length ≤ sizeLine := by rw [← hvl, hyl, ← line_eq]; exact hlen
    refine sorted_seq (κ := fun h' => dataKind (sortingHeap (listed h' its) h'.objs.size its) ((ys.zip ds).map fun b : V × D => b.2.py)) hT ho hc hd hL fun h' hk => ?_
    have old : ∀ b o, s.heap.get? b = some o → (sortingHeap (listed h' its) h'.objs.size its).get? b = some o := fun b o e => listed_sorting (hk b o e)
    have I' : Inv X pins σ H { s with heap := h' } := I.kept (t' := s.toks) hk
    have er2 : EachIs (fun (v : Value) (b : V × D) => ∃ as, Reads (sortingHeap (listed h' its) h'.objs.size its) v b.2.py as) its (ys.zip ds) := er.mono fun _ _ ⟨as, r⟩ => ⟨as, PyProof.Rows.Reads.keeps old r⟩
    have er' : EachIs (fun (v : Value) (d : PyData) => ∃ as, Reads (sortingHeap (listed h' its) h'.objs.size its) v d as) its ((ys.zip ds).map fun b : V × D => b.2.py) :=
      each_map (R := fun v d => ∃ as, Reads (sortingHeap (listed h' its) h'.objs.size its) v d as) (fun b : V × D => b.2.py) er2
    refine ⟨SortsAt.any (s := { s with heap := sortingHeap (listed h' its) h'.objs.size its }) er' ala hne fun d hd => ?_, ?_⟩
    · obtain ⟨b, hb, rfl⟩ := List.mem_map.mp hd
      have h1 := py_depth b.2
      have h2 := (hpl _ (hmem b hb)).2
      have h3 := C.un
      show X.A.units + 1 + 1 + _ < cLine
      omega
    · obtain ⟨o1, o2⟩ := each_out (sortVals_data (h' := sortingHeap (listed h' its) h'.objs.size its) (enc := fun b : V × D => b.2.py) false e er2 ala)
      have hsnd : (((ys.zip ds).mergeSort (dataLe false fun b : V × D => b.2.py)).map Prod.snd) = ds.mergeSort D.le := by
        rw [List.map_mergeSort (s := D.le)]
        · rw [zip_snd hyl]
        · intro b hb b' hb'
          rw [dataLe_eq]
          show (!dataLt b'.2.py b.2.py) = !D.lt b'.2 b.2
          rw [py_lt _ _ (hal _ (hmem b' hb') _ (hmem b hb)) (hpl _ (hmem b' hb')).1 (hpl _ (hmem b hb)).1]
      rw [hsnd] at o2
      obtain ⟨ep, he'⟩ := PyProof.Rows.sortedHeap_at (h := listed h' its) (out := (sortVals (dataKind (sortingHeap (listed h' its) h'.objs.size its) ((ys.zip ds).map fun b : V × D => b.2.py)) false its its).toArray) (listed_at h' its)
      refine ⟨.ref _, upd H h'.objs.size (.lst (((ys.zip ds).mergeSort (dataLe false fun b : V × D => b.2.py)).map Prod.fst)), I'.laid (t' := s.toks) (fun _ _ e => listed_sorted e) (Nat.le_refl _) ⟨?_, _, ep, o1, he'⟩, rfl, q _ _ (I'.hok.fresh (Nat.le_refl _)) o2⟩
      rw [o2.length, (List.mergeSort_perm _ _).length_eq, ← line_eq]
      exact hlen
  rcases hs with hs | hs
  · rw [C.K] at hs
    obtain ⟨its, rv, hl, _⟩ := I.list hs
    obtain ⟨o, ho, hc, n, hd⟩ := hl.isList
    exact key its "list" o n rv (.inl rfl) ho hc hd
  · rw [C.K] at hs
    obtain ⟨its, rv, ⟨o, ho, hc, n, hd⟩, _⟩ := I.tuple hs
    exact key its "tuple" o n rv (.inr rfl) ho hc hd
omit C in
theorem link_sorted : CalD F (f1 fun _ => bSorted) (rSortD F) := cal1 fun {p G rr st σ H x a d Q} L hx e q => by
  cases a <;> (try (simp [bSorted] at e; done))
  · simp only [bSorted, msort_eq] at e
    split at e
    · rename_i h
      rw [Bool.and_eq_true, decide_eq_true_eq] at h
      cases e
      obtain ⟨b, ys, rfl, h1, r⟩ := hx.tup
      exact ⟨G, b, ys, _, rfl, .inr h1, r, h.1, h.2, fun pp zs hp hz => new_lst L hp hz q⟩
    · cases e
  · simp only [bSorted, msort_eq] at e
    split at e
    · rename_i h
      rw [Bool.and_eq_true, decide_eq_true_eq] at h
      cases e
      obtain ⟨b, ys, rfl, h1, r⟩ := hx.seq
      exact ⟨G, b, ys, _, rfl, .inl h1, r, h.1, h.2, fun pp zs hp hz => new_lst L hp hz q⟩
    · cases e
end
end Mg
end
/-! ## DEnum -/
section
set_option Elab.async false
set_option linter.all false
set_option maxRecDepth 100000
set_option maxHeartbeats 2500000
/-! The data layer: enumerate of lists and tuples; zip; dicts walked and listed; count, index. -/
namespace PySem.W
open PySem.Calls PySem PyProof.Rows
end PySem.W
namespace Mg
open PySem PySem.Spec PyProof.Rows L2 GxR PySem.W
section
variable {F : Fx} {ds : List D} {G : Gh} {H : Hp} {a b : Addr} {xs ys : List V}
theorem pair_R {T : Addr} {x y : V} {d e : D} (h : H T = none) (hx : R F.W G H x d) (hy : R F.W G H y e) : R F.W G (upd H T (.tup [x, y])) (.ref T) (.tup [d, e]) :=
  .tup (.inl (.inl upd_same)) (.cons (R.mono (.lay h) hx) (.cons (R.mono (.lay h) hy) .nil))
end
def wEnum (a : Ex) : Wk := fun r st => (a r st).bind fun x => match x.1 with
  | .lst l => .ok (enumF 0 l, x.2)
  | .tup l => .ok (enumF 0 l, x.2)
  | _ => .bad
end Mg
end
/-! ## DEnum2 -/
section
set_option Elab.async false
set_option linter.all false
set_option maxRecDepth 100000
set_option maxHeartbeats 2500000
namespace Mg
open PySem PySem.Spec PyProof.Rows L2 GxR PySem.W
/-! ### zip -/
section
variable {F : Fx} {ds es : List D} {G : Gh} {H : Hp} {a b : Addr} {xs ys : List V}
theorem zipL_get : ∀ (ds es : List D) (i : Nat), (zipL ds es)[i]? = match ds[i]?, es[i]? with | some d, some e => some (.tup [d, e]) | _, _ => none
  | [], es, i => by simp [zipL]
  | d :: ds, [], i => by
    simp only [zipL, List.getElem?_nil]
    cases (d :: ds)[i]? <;> rfl
  | d :: ds, e :: es, 0 => by simp [zipL]
  | d :: ds, e :: es, i + 1 => by
    rw [zipL, List.getElem?_cons_succ, zipL_get ds es i, List.getElem?_cons_succ, List.getElem?_cons_succ]
theorem zipL_length : ∀ (ds es : List D), (zipL ds es).length = min ds.length es.length
  | [], es => by simp [zipL]
  | d :: ds, [] => by simp [zipL]
  | d :: ds, e :: es => by
    rw [zipL, List.length_cons, zipL_length ds es, List.length_cons, List.length_cons]
    omega
theorem walks_zipL {K : PySem.W.Frag} (h : SqL K H a xs) (h' : SqL K H b ys) (r : Rs F.W G H xs ds) (r' : Rs F.W G H ys es) : Walks F (Itz K a b) (zipL ds es) G H :=
  ⟨fun i d e => (by
    rw [zipL_get] at e
    split at e
    · rename_i d1 d2 e1 e2
      cases e
      obtain ⟨v, h1, hr⟩ := r.get e1
      obtain ⟨u, h2, hr2⟩ := r'.get e2
      refine ⟨⟨xs, ys, v, u, h, h', h1, h2⟩, fun x H' ⟨T, y, z, ex, hT, eH, hy, hz⟩ => ?_⟩
      subst ex eH
      have q1 := hy xs h
      have q2 := hz ys h'
      rw [h1] at q1
      rw [h2] at q2
      cases q1
      cases q2
      exact ⟨.inr ⟨T, _, hT, rfl⟩, pair_R hT hr hr2⟩
    · cases e), ⟨xs, ys, h, h', by rw [zipL_length, r.length, r'.length]; omega⟩⟩
theorem walks_zipT {K : PySem.W.Frag} (h : SqT K H a xs) (h' : SqT K H b ys) (r : Rs F.W G H xs ds) (r' : Rs F.W G H ys es) : Walks F (RZ.ItzT K a b) (zipL ds es) G H :=
  ⟨fun i d e => (by
    rw [zipL_get] at e
    split at e
    · rename_i d1 d2 e1 e2
      cases e
      obtain ⟨v, h1, hr⟩ := r.get e1
      obtain ⟨u, h2, hr2⟩ := r'.get e2
      refine ⟨⟨xs, ys, v, u, h, h', h1, h2⟩, fun x H' ⟨T, y, z, ex, hT, eH, hy, hz⟩ => ?_⟩
      subst ex eH
      have q1 := hy xs h
      have q2 := hz ys h'
      rw [h1] at q1
      rw [h2] at q2
      cases q1
      cases q2
      exact ⟨.inr ⟨T, _, hT, rfl⟩, pair_R hT hr hr2⟩
    · cases e), ⟨xs, ys, h, h', by rw [zipL_length, r.length, r'.length]; omega⟩⟩
end
def wZip (a b : Ex) : Wk := fun r st => (a r st).bind fun x => (b r x.2).bind fun y => match x.1, y.1 with
  | .lst l, .lst m => .ok (zipL l m, y.2)
  | .tup l, .tup m => .ok (zipL l m, y.2)
  | _, _ => .bad
section
variable {F : Fx} {X : Cx} [C : Ctx F X] {p : Bool} {tg e e2 : Expr} {φ ψ : Ex} {pp pos tpos : Pos} {elts : List Expr} {kk : Nat}
theorem di_zip {q : Option Bool} (hg : Gl X "zip") (hm : X.mg "zip" = none) (he : PE X e (tD F p φ)) (he2 : PE X e2 (tD F p ψ)) (hs : starEach [e, e2] X.env = (false, eval e X.env) :: starEach [e2] X.env := by rfl) (hs2 : starEach [e2] X.env = (false, eval e2 X.env) :: starEach [] X.env := by rfl) (hpl : (backTo pos (starEach [e2] X.env)).any (·.1) = false := by rfl) :
    PI X (.Tuple elts kk tpos) (.Call (.Name "zip" pp) [e, e2] [] pos) (tI F p q (wZip φ ψ)) :=
  (RZ.pi_zipA hg hm (pa_cons he (pa_cons he2 pa_nil hs2) hs) hs hpl).mimp fun σ H Rr ⟨G, r, st, L, k⟩ => by
  refine ⟨G, r, st, L, ?_⟩
  unfold wZip at k
  revert k
  generalize φ r st = m
  intro k
  cases m with
  | bad => exact k
  | exn c fs st' => exact k
  | ok x =>
    intro v H1 G1 L1 ev1 hx
    refine ⟨G1, r, x.2, L1, ?_⟩
    obtain ⟨d, st'⟩ := x
    simp only [Res.ok_bind] at k
    revert k
    generalize ψ r st' = m
    intro k
    cases m with
    | bad => exact k
    | exn c fs st' => exact fun H' G' L' e => k H' G' L' (ev1.trans e)
    | ok y =>
      intro u H2 G2 L2 ev2 hy
      obtain ⟨d2, st2⟩ := y
      have hx2 := R.mono ev2.s1 hx
      simp only [Res.ok_bind] at k
      cases d <;> cases d2 <;> (try (exact k.elim))
      · obtain ⟨a, xs, rfl, h, r'⟩ := RV.tup (F := F) (p := p) (.inl hx2)
        obtain ⟨b, ys, rfl, h', r''⟩ := RV.tup (F := F) (p := p) (.inl hy)
        refine ⟨a, b, xs, ys, rfl, .inr ⟨by rw [← C.K]; exact h, by rw [← C.K]; exact h', k _ H2 G2 L2 (ev1.trans ev2) fun G3 H3 e3 => ?_⟩⟩
        obtain ⟨a2, xs2, e, h2, r2⟩ := RV.tup (F := F) (p := p) (.inl (R.mono e3.s1 hx2))
        obtain ⟨b2, ys2, e', h3, r3⟩ := RV.tup (F := F) (p := p) (.inl (R.mono e3.s1 hy))
        cases e
        cases e'
        rw [← C.K]
        exact walks_zipT h2 h3 r2 r3
      · obtain ⟨a, xs, rfl, h, r'⟩ := RV.seq (F := F) (p := p) (.inl hx2)
        obtain ⟨b, ys, rfl, h', r''⟩ := RV.seq (F := F) (p := p) (.inl hy)
        refine ⟨a, b, xs, ys, rfl, .inl ⟨by rw [← C.K]; exact h, by rw [← C.K]; exact h', k _ H2 G2 L2 (ev1.trans ev2) fun G3 H3 e3 => ?_⟩⟩
        obtain ⟨a2, xs2, e, h2, r2⟩ := RV.seq (F := F) (p := p) (.inl (R.mono e3.s1 hx2))
        obtain ⟨b2, ys2, e', h3, r3⟩ := RV.seq (F := F) (p := p) (.inl (R.mono e3.s1 hy))
        cases e
        cases e'
        rw [← C.K]
        exact walks_zipL h2 h3 r2 r3
end
/-! ### a dict's entries -/
/-! ### count -/
section
variable {X : Cx} {F : Fx} [C : CtxW F X] {p : Bool} {e o : Expr} {φ ψ : Ex} {apos cp : Pos}
/-- a method of a list, with one argument -/
def sLm1 (f : List D → D → Option D) (a b : Ex) : Ex := fun r st => (a r st).bind fun x => match x.1 with
  | .lst l => (b r x.2).bind fun y => (Res.of (f l y.1)).bind fun d => .ok (d, y.2)
  | _ => .bad
end
end Mg
end
/-! ## DRules -/
section
set_option Elab.async false
set_option linter.all false
set_option maxRecDepth 100000
set_option maxHeartbeats 2500000
/-! The data layer: the rules, each in one piece, as the printed proofs name them. -/
namespace Mg
open PySem PySem.Spec PyProof.Rows L2 GxR
/-- a comparison that serves f -/
def OpOk (F : Fx) (X : Cx) (op : CmpOp) (f : D → D → Option D) : Prop := ∃ r, OpR X (compareOp op) r ∧ OpD F (fun _ => f) r ∧ BlF fun _ => f
section
variable {F : Fx} {X : Cx} [C : CtxW F X] {p : Bool} {a b c : Expr} {φ ψ χ : Ex} {pos : Pos}
theorem ok_eq : OpOk F X .Eq cEq := ⟨_, op_eqD (by have := C.un; omega), C.K ▸ link_eq, blf_eq⟩
theorem ok_ne : OpOk F X .NotEq cNe := ⟨_, op_neD (by have := C.un; omega), C.K ▸ link_ne, blf_ne⟩
theorem ok_lt : OpOk F X .Lt cLt := ⟨_, op_ltD (F := F), C.K ▸ link_lt, blf_lt⟩
theorem ok_le : OpOk F X .LtE cLe := ⟨_, op_leD (F := F), C.K ▸ link_le, blf_le⟩
omit C in
theorem ok_gt : OpOk F X .Gt cGt := ⟨_, op_gt, link_cInt, blf_int⟩
omit C in
theorem ok_ge : OpOk F X .GtE cGe := ⟨_, op_ge, link_cInt, blf_int⟩
theorem ok_in : OpOk F X .In cIn := ⟨_, op_inAll (F := F), link_in, blf_in⟩
theorem ok_notin : OpOk F X .NotIn cNotIn := ⟨_, op_notInAll (F := F), link_notin, blf_notin⟩
omit C in
theorem ve_cmp {op : CmpOp} {f : D → D → Option D} (h : OpOk F X op f) (ha : PE X a (tV F p φ)) (hb : PE X b (tV F p ψ)) (hm : behindInMarks op b = false := by with_unfolding_all rfl) : PE X (.Compare a [op] [b] pos) (tD F p (sOp2 f φ ψ)) :=
  let ⟨_, h1, h2, _⟩ := h; de_cmp h1 h2 ha hb hm
omit C in
theorem vt_cmp {op : CmpOp} {f : D → D → Option D} (h : OpOk F X op f) (ha : PE X a (tV F p φ)) (hb : PE X b (tV F p ψ)) (hm : behindInMarks op b = false := by with_unfolding_all rfl) : PT X (.Compare a [op] [b] pos) (tT F p (tTru (sOp2 f φ ψ))) :=
  let ⟨_, h1, h2, h3⟩ := h; dt_cmp h1 h2 h3 ha hb hm
omit C in
theorem ve_chain {op op' : CmpOp} {f g : D → D → Option D} (h : OpOk F X op f) (h' : OpOk F X op' g) (ha : PE X a (tV F p φ)) (hb : PE X b (tV F p ψ)) (hc : PE X c (tV F p χ)) (hm : lastMarks [op, op'] [b, c] = false := by with_unfolding_all rfl) : PE X (.Compare a [op, op'] [b, c] pos) (tD F p (sChain f g φ ψ χ)) :=
  let ⟨_, h1, h2, _⟩ := h; let ⟨_, h3, h4, _⟩ := h'; de_chain h1 h3 h2 h4 ha hb hc hm
omit C in
theorem vt_chain {op op' : CmpOp} {f g : D → D → Option D} (h : OpOk F X op f) (h' : OpOk F X op' g) (ha : PE X a (tV F p φ)) (hb : PE X b (tV F p ψ)) (hc : PE X c (tV F p χ)) (hm : lastMarks [op, op'] [b, c] = false := by with_unfolding_all rfl) : PT X (.Compare a [op, op'] [b, c] pos) (tT F p (tTru (sChain f g φ ψ χ))) :=
  let ⟨_, h1, h2, _⟩ := h; let ⟨_, h3, h4, h5⟩ := h'; dt_chain h1 h3 h2 h4 h5 ha hb hc hm
theorem ve_add (ha : PE X a (tV F p φ)) (hb : PE X b (tV F p ψ)) : PE X (.BinOp a .Add b pos) (tD F p (sOp2 opAdd φ ψ)) := de_op op_addD (C.K ▸ link_add) ha hb
omit C in
theorem ve_sub (ha : PE X a (tV F p φ)) (hb : PE X b (tV F p ψ)) : PE X (.BinOp a .Sub b pos) (tD F p (sOp2 opSub φ ψ)) := de_op op_sub link_sub ha hb
omit C in
theorem ve_mul (ha : PE X a (tV F p φ)) (hb : PE X b (tV F p ψ)) : PE X (.BinOp a .Mult b pos) (tD F p (sOp2 opMul φ ψ)) := de_op op_mul link_mul ha hb
omit C in
theorem ve_div (ha : PE X a (tV F p φ)) (hb : PE X b (tV F p ψ)) : PE X (.BinOp a .FloorDiv b pos) (tD F p (sOp2 opDiv φ ψ)) := de_op op_fdiv link_div ha hb
omit C in
theorem ve_mod (ha : PE X a (tV F p φ)) (hb : PE X b (tV F p ψ)) : PE X (.BinOp a .Mod b pos) (tD F p (sOp2 opMod φ ψ)) := de_op op_mod link_mod ha hb
omit C in
theorem ve_pow (ha : PE X a (tV F p φ)) (hb : PE X b (tV F p ψ)) : PE X (.BinOp a .Pow b pos) (tD F p (sOp2 opPow φ ψ)) := de_op op_pow link_pow ha hb
omit C in
theorem ve_shl (ha : PE X a (tV F p φ)) (hb : PE X b (tV F p ψ)) : PE X (.BinOp a .LShift b pos) (tD F p (sOp2 opShl φ ψ)) := de_op op_shl link_shl ha hb
omit C in
theorem ve_shr (ha : PE X a (tV F p φ)) (hb : PE X b (tV F p ψ)) : PE X (.BinOp a .RShift b pos) (tD F p (sOp2 opShr φ ψ)) := de_op op_shr link_shr ha hb
omit C in
theorem ve_and (ha : PE X a (tV F p φ)) (hb : PE X b (tV F p ψ)) : PE X (.BinOp a .BitAnd b pos) (tD F p (sOp2 opAnd φ ψ)) := de_op op_and link_and ha hb
omit C in
theorem ve_xor (ha : PE X a (tV F p φ)) (hb : PE X b (tV F p ψ)) : PE X (.BinOp a .BitXor b pos) (tD F p (sOp2 opXor φ ψ)) := de_op op_xor link_xor ha hb
omit C in
theorem ve_neg (ha : PE X a (tV F p φ)) : PE X (.UnaryOp .USub a pos) (tD F p (sOp1 opNeg φ)) := de_un un_neg link_neg ha
theorem ve_ix (ha : PE X a (tV F p φ)) (hb : PE X b (tV F p ψ)) (hs : PlainIx b := by intro _ _; rfl) : PE X (.Subscript a b pos) (tD F p (sOpS2 opIx φ ψ)) := de_ix (ix_All (F := F)) link_ix ha hb hs
end
/-! built-in functions -/
section
variable {F : Fx} {X : Cx} [C : CtxW F X] {p : Bool} {e c : Expr} {es : List Expr} {ψ : Exs} {pp pos : Pos}
theorem ve_len (hg : Gl X "len") (hm : X.mg "len" = none) (ha : PA X [e] (tAV F p ψ)) (he : starEach [e] X.env = (false, eval e X.env) :: starEach [] X.env := by rfl) : PE X (.Call (.Name "len" pp) [e] [] pos) (tD F p (sCall (f1 bLen) ψ)) :=
  de_callB (r := rLen X.K) call_len (C.K ▸ link_len) hg hm boot_len ha (by decide) (by decide) he rfl
theorem ve_sum [Cc : Ctx F X] (hg : Gl X "sum") (hm : X.mg "sum" = none) (ha : PA X [e] (tAV F p ψ)) (he : starEach [e] X.env = (false, eval e X.env) :: starEach [] X.env := by rfl) : PE X (.Call (.Name "sum" pp) [e] [] pos) (tD F p (sCall (f1 fun _ => bSum) ψ)) :=
  de_callB (r := rSum X.K) (cr_sum Cc.calm) (C.K ▸ link_sum) hg hm rfl ha (by decide) (by decide) he rfl
theorem ve_min2 [Cc : Ctx F X] (hg : Gl X "min") (hm : X.mg "min" = none) (ha : PA X [e, c] (tAV F p ψ)) (he : starEach [e, c] X.env = (false, eval e X.env) :: starEach [c] X.env := by rfl) (hpl : (backTo pos (starEach [c] X.env)).any (·.1) = false := by rfl) : PE X (.Call (.Name "min" pp) [e, c] [] pos) (tD F p (sCall (f2 fun _ => bMin2) ψ)) :=
  de_callB (r := rMin2) (call_min2 Cc.calm) link_min2 hg hm rfl ha (by decide) (by decide) he hpl
theorem ve_sorted [Cc : Ctx F X] (hg : Gl X "sorted") (hm : X.mg "sorted" = none) (ha : PA X [e] (tAV F p ψ)) (he : starEach [e] X.env = (false, eval e X.env) :: starEach [] X.env := by rfl) : PE X (.Call (.Name "sorted" pp) [e] [] pos) (tD F p (sCall (f1 fun _ => bSorted) ψ)) :=
  de_callB (r := rSortD F) cr_sortD link_sorted hg hm rfl ha (by decide) (by decide) he rfl
theorem ve_tuple (hg : Gl X "tuple") (hm : X.mg "tuple" = none) (ha : PA X [e] (tAV F p ψ)) (he : starEach [e] X.env = (false, eval e X.env) :: starEach [] X.env := by rfl) : PE X (.Call (.Name "tuple" pp) [e] [] pos) (tD F p (sCall (f1 bTuple) ψ)) :=
  de_callTy (r := rTupD X.K) call_tuple_of (C.K ▸ link_tuple) hg hm rfl ha (by decide) (by decide) he rfl
omit C in
theorem ve_int (hg : Gl X "int") (hm : X.mg "int" = none) (ha : PA X [e] (tAV F p ψ)) (he : starEach [e] X.env = (false, eval e X.env) :: starEach [] X.env := by rfl) : PE X (.Call (.Name "int" pp) [e] [] pos) (tD F p (sCall (f1 fun _ => bInt) ψ)) :=
  de_callTy (r := rIntD) call_int1 link_int hg hm rfl ha (by decide) (by decide) he rfl
omit C in
theorem ve_ty {x : Str} (t : Ty) (hg : Gl X x) (hm : X.mg x = none) (hv : bootBuiltins x = some (.type t.nm) := by rfl) (hn : x ≠ "__name__" := by decide) (hd : (x == ("__debug__" : Str)) = false := by decide) : PE X (.Name x pos) (tC (.ty t.nm)) := pe_bltn hg hm hv rfl hn hd
end
/-! defs -/
def sFn (f : List D → Sto → Res (D × Sto)) (ψ : Exs) : Ex := sCallE (fun a st => (f a st).nx) ψ
/-- a def of the program keeps the promise s -/
structure DefOk (P : Program) (w : World) (K : PySem.W.Frag) (mg : Str → Option Value) (base : Heap) (Tb : TbT) (x : Str) (n : Nat) (s : List D → Sto → Res (D × Sto)) (k : Nat) : Prop where
  ok : ∃ fa fd ps, FnOk P w K mg base CX0 k fa fd ps (spD (mkF P w K Tb) n s) ∧ mg x = some (.ref fa) ∧ PySem.W.keepIn K (.ref fa) = true ∧ Binds K fd ps []
theorem DefOk.mono {P : Program} {w : World} {K : PySem.W.Frag} {mg : Str → Option Value} {base : Heap} {Tb : TbT} {x : Str} {n : Nat} {s : List D → Sto → Res (D × Sto)} {k k' : Nat} (h : DefOk P w K mg base Tb x n s k) (hk : k ≤ k') : DefOk P w K mg base Tb x n s k' :=
  let ⟨fa, fd, ps, h1, h2⟩ := h.ok; ⟨fa, fd, ps, h1.mono hk, h2⟩
section
variable {F : Fx} {X : Cx} [C : CtxW F X] {ψ : Exs} {e : Expr} {es : List Expr} {x : Str} {pp pos : Pos} {Tb : TbT}
theorem ve_call [Cc : Ctx F X] {n : Nat} {f : List D → Sto → Res (D × Sto)} {k j : Nat} (d : DefOk X.prog X.w X.K X.mg X.base Tb x n f k) (hr : Room j X.A) (hT : F.Tb = Tb := by rfl) (hg : Gl X x := by rfl) (hkj : k ≤ j := by omega) (ha : PA X (e :: es) (tA F false ψ)) (hn : ∀ r st y, ψ r st = .ok y → y.1.length = n)
    (hdb : (x == ("__debug__" : Str)) = false := by decide) (he : starEach (e :: es) X.env = (false, eval e X.env) :: starEach es X.env := by rfl) (hpl : (backTo pos (starEach es X.env)).any (·.1) = false := by rfl) :
    PE X (.Call (.Name x pp) (e :: es) [] pos) (tD F false (sFn f ψ)) := by
  obtain ⟨fa, fd, ps, h1, h2, h3, h4⟩ := d.ok
  have hF : F.noex = mkF X.prog X.w X.K Tb := by
    obtain ⟨⟨P, w, K, T⟩, ex⟩ := F
    have z1 : P = X.prog := C.P
    have z2 : w = X.w := C.w
    have z3 : K = X.K := C.K
    have z4 : T = Tb := hT
    subst z1 z2 z3 z4
    rfl
  have h1' : FnOk X.prog X.w X.K X.mg X.base CX0 k fa fd ps (spD F n f) := by
    have : spD F n f = spD (mkF X.prog X.w X.K Tb) n f := by
      rw [← hF]
      rfl
    rw [this]
    exact h1
  exact de_call h1' (hr.mono hkj) hg h2 h3 h4 ha hn hdb he hpl
end
end Mg
end
/-! ## DRules2 -/
section
set_option Elab.async false
set_option linter.all false
set_option maxRecDepth 100000
set_option maxHeartbeats 2500000
namespace Mg
open PySem PySem.Spec PyProof.Rows L2 GxR
/-! ### list(range(n)), tuple(range(n)) -/
def bRgL : D → Option D
  | .int n => if okEnd n && decide (n ≤ 16777216) then some (.lst (rngF 0 1 n.toNat)) else none
  | _ => none
section
variable {F : Fx} {X : Cx} [C : Ctx F X] {p : Bool} {e : Expr} {φ : Ex} {pp p2 pos pos2 : Pos}
theorem rgV_at {W : Wo} {G : Gh} {H : Hp} (n : Int) : Rs W G H (rgV 0 n) (rngF 0 1 n.toNat) := by
  unfold rgV
  rw [Int.sub_zero]
  have : ∀ (m : Nat) (lo : Int), Rs W G H ((List.range m).map fun i => V.int (lo + (i : Nat))) (rngF lo 1 m) := by
    intro m
    induction m with
    | zero => exact fun _ => .nil
    | succ m ih =>
      intro lo
      rw [List.range_succ_eq_map, List.map_cons, List.map_map, rngF]
      have h := ih (lo + 1)
      have e : ((fun i : Nat => V.int (lo + (i : Nat))) ∘ Nat.succ) = fun i : Nat => V.int (lo + 1 + (i : Nat)) := by
        funext i
        show V.int (lo + ((i + 1 : Nat) : Int)) = _
        rw [Int.natCast_add, Int.add_comm (i : Int) ((1 : Nat) : Int), ← Int.add_assoc]
        rfl
      rw [e]
      refine .cons ?_ h
      show R W G H (V.int (lo + ((0 : Nat) : Int))) (D.int lo)
      rw [show lo + ((0 : Nat) : Int) = lo by omega]
      exact .int lo
  exact this n.toNat 0
theorem ve_listRg (hg : Gl X "list") (hm : X.mg "list" = none) (hg2 : Gl X "range") (hm2 : X.mg "range" = none) (he : PE X e (tV F p φ)) (na : starEach [e] X.env = (false, eval e X.env) :: starEach [] X.env := by rfl)
    (na2 : starEach [.Call (.Name "range" p2) [e] [] pos2] X.env = (false, eval (.Call (.Name "range" p2) [e] [] pos2) X.env) :: starEach [] X.env := by rfl) :
    PE X (.Call (.Name "list" pp) [.Call (.Name "range" p2) [e] [] pos2] [] pos) (tD F p (sOp1 bRgL φ)) := (pe_listRg C.calm hg hm (prg_1 hg2 hm2 he na) na2).mimp fun σ H Q ⟨G, r, st, L, k⟩ => by
  refine ⟨G, r, st, L, postV_bind k fun x v H1 G1 e1 L1 ev1 hx k1 => ?_⟩
  obtain ⟨d, e, k2⟩ := post_of k1
  obtain ⟨dx, st'⟩ := x
  cases dx <;> (try (simp [bRgL] at e; done))
  rename_i n
  obtain rfl := hx.int
  simp only [bRgL] at e
  split at e
  · rename_i h
    rw [Bool.and_eq_true, decide_eq_true_eq] at h
    have h2 := okEnd_lt h.1
    have h3 := h.2
    cases e
    exact ⟨n, rfl, ⟨by omega, by omega, by omega, by omega, by omega⟩, fun pp hp => new_lst L1 hp (rgV_at n) fun v' H' G' L' ev hr => k2 v' H' G' L' ev.low hr⟩
  · cases e
end
/-! ### several targets, the pair laid -/
/-! ### a recursive def, out of fuel -/
end Mg
end
/-! ## DMore -/
section
set_option Elab.async false
set_option linter.all false
set_option maxRecDepth 100000
set_option maxHeartbeats 2500000
/-! The data layer: more statements and calls. -/
namespace Mg
open PySem PySem.Spec PyProof.Rows L2 GxR
section
variable {F : Fx} [E : Fr0 F] {X : Cx} [C : CtxW F X] {e : Expr} {φ ψ : Ex} {b : Stm} {s : Stmt} {pos ppos apos : Pos} {i j : Nat} {x y : Str}
omit C in
/-- x += a new list, x a list of one's own -/
theorem ds_ext (he : PE X e (tF F false φ)) (hN : X.N.Nodup) (hi : X.N[i]? = some x := by rfl) (hx : Loc X.env.scope x := by first | exact Or.inl rfl | exact Or.inr rfl)
    (hf : X.fn x = true ∨ X.env.scope.names.lookup x = some .local := by first | exact .inl rfl | exact .inr rfl) : PS X (.AugAssign (.Name x ppos) .Add e pos) (tS F (stExt i φ)) := (ps_aug hN hi hx he iop_ext hf).mimp fun D σ H ⟨G, r, st, L, k⟩ => by
  unfold stExt at k
  split at k
  · rename_i l hi'
    obtain ⟨a, h1, h2, o, ho, q⟩ := L.ow i _ hi'
    cases q with
    | lst rs =>
      rename_i xs
      refine ⟨.ref a, h1, G, r, st, L, ?_⟩
      revert k
      generalize φ r st = m
      intro k
      cases m with
      | bad => exact k
      | exn c fs st' => exact fun H' G' L' e => E.fr _ _ _ _ _ _ _ (k σ H' G' L'.drop e.evs)
      | ok z =>
        intro c H1 G1 L1 ev1 hn hr ha
        obtain ⟨k2, k3⟩ := ev1.sl a _ (fun n => by rw [h2]; simp) (fun n i => by rw [h2]; simp) ho (fun _ z => nomatch z)
        have hr1 := k3.trans h2
        have rs1 := Rs.mono ev1.s1 rs
        have k1 := PostS.adv k ev1.evs
        obtain ⟨d, st'⟩ := z
        obtain ⟨o2, ho2, q2⟩ := ha
        simp only [Res.ok_bind] at k1
        cases q2 with
        | lst rs2 =>
          rename_i ys m
          simp only at k1
          split at k1
          · rename_i hz
            refine ⟨a, c, xs, ys, rfl, rfl, k2, ho2, by rw [List.length_append] at hz; rw [rs.length, rs2.length, ← line_eq]; exact hz, ?_⟩
            have s1 := St1.wrOwn (o' := .lst (xs ++ ys)) k2 (.lst rs1) hr1
            have L2 := L1.wrOwn (d' := .lst (l ++ m)) hi' k2 (.lst rs1) hr1 h1 (.lst (Rs.mono s1 (rs1.append rs2)))
            have hs : σ.set i (some (.ref a)) = σ := by
              apply List.ext_getElem?
              intro n
              rw [List.getElem?_set]
              by_cases hin : i = n
              · subst hin
                rw [if_pos rfl, h1]
                have : i < σ.length := by
                  have := (List.getElem?_eq_some_iff.mp h1).1
                  exact this
                rw [if_pos this]
              · rw [if_neg hin]
            show D.nx (σ.set i (some (.ref a))) _
            rw [hs]
            exact k1 σ _ G1 L2 (.wrOwn k2 (.lst rs1) hr1)
          · exact k1.elim
        | _ => exact k1.elim
  · exact k.elim
end
end Mg
end
/-! ## DDict3 -/
section
set_option Elab.async false
set_option linter.all false
set_option maxRecDepth 100000
set_option maxHeartbeats 2500000
/-! The data layer: dict comprehensions. -/
namespace Mg
open PySem PySem.Spec PyProof.Rows L2 GxR
section
variable {F : Fx} {p : Bool} {G G' : Gh} {r : Env} {st : Sto} {σ : L2.St} {H H' : Hp} {Ad : Addr} {o o' : HO} {d : D}
/-- an object that nobody has but the walk is changed -/
theorem St1.wrO (h : H Ad = some o) (q : Ob F.W G H Ad o d) (hr : G.rl Ad = none) : St1 G H G (upd H Ad o') :=
  ⟨fun a zs e => by rw [upd_ne (fun z => by rw [z, h] at e; cases e; exact q.ntup.1 _ rfl)]; exact e, fun a x u e => by rw [upd_ne (fun z => by rw [z, h] at e; cases e; exact q.ntup.2 _ _ rfl)]; exact e,
    fun a x e ho _ => by rw [upd_ne (fun z => by rw [z, hr] at e; cases e)]; exact ho, fun _ e => e, Nat.le_refl _, fun _ _ => rfl, fun a e => by
      by_cases hx : a = Ad
      · subst hx; rw [upd_same]; simp
      · rw [upd_ne hx]; exact e⟩
theorem Rel.wrO (L : Rel F G r st σ H) (h : H Ad = some o) (q : Ob F.W G H Ad o d) (hr : G.rl Ad = none) : Rel F G r st σ (upd H Ad o') := by
  have s := St1.wrO (o' := o') h q hr
  refine ⟨L.len, fun i d e ho => ?_, fun i d e => ?_, L.nb, fun n b e => ?_, ?_, fun a q e => s.up a (L.on a q e)⟩
  · obtain ⟨v, h1, h2⟩ := L.vl i d e ho
    exact ⟨v, h1, R.mono s h2⟩
  · obtain ⟨a, h1, h2, h3⟩ := L.ow i d e
    exact ⟨a, h1, h2, h3.mono s fun o e _ => by rw [upd_ne (fun z => by rw [z, hr] at h2; cases h2)]; exact e⟩
  · obtain ⟨h1, h2⟩ := L.bx n b e
    exact ⟨h1, h2.mono s (fun o e _ => by rw [upd_ne (fun z => by rw [z, hr] at h1; cases h1)]; exact e) fun y j o hy e _ => ⟨by rw [upd_ne (fun z => by rw [z, hr] at hy; cases hy)]; exact e, hy⟩⟩
  · exact s.tbs L.tb fun P ps e => by rw [upd_ne (fun z => by rw [z, h] at e; cases e; exact q.ntbl _ rfl)]; exact e
theorem Ev.wrO (e : Ev p G H G' H') (h0 : H Ad = none) (h : H' Ad = some o) (q : Ob F.W G' H' Ad o d) (hr : G'.rl Ad = none) : Ev p G H G' (upd H' Ad o') :=
  ⟨e.s1.trans (.wrO h q hr), fun a x q1 q2 ha nt => let ⟨k1, k2⟩ := e.sl a x q1 q2 ha nt; ⟨by rw [upd_ne (fun z => by rw [z, h0] at ha; cases ha)]; exact k1, k2⟩,
    fun z a x ha nt => let ⟨k1, k2⟩ := e.eq z a x ha nt; ⟨by rw [upd_ne (fun z => by rw [z, h0] at ha; cases ha)]; exact k1, k2⟩⟩
theorem dc_ok {t : Tg} {w : Wk} {c : Tst} {ek ev : Ex} {g : TG} {vs : List Nat} {σ : L2.St} {H : Hp} {Q : VK}
    (hg : ∀ {G : Gh} {r r' : Env} {st : Sto} {σ : L2.St} {H : Hp} {x : V} {d : D} {Q : L2.St → Hp → Prop}, Rel F.noex G r st σ H → R F.W G H x d → t.bind d r = some r' →
      (∀ σ', Rel F.noex G r' st σ' H → σ'.length = σ.length → (∀ i, i ∉ t.ixs → σ'[i]? = σ[i]?) → Q σ' H) → g x σ H Q) (hv : ∀ i ∈ t.ixs, i ∈ vs)
    (h : tF F p (sDComp false vs t w c ek ev) σ H Q) : tDc (tI F p (some p) w) g (tT F.noex p c) (tD F.noex p ek) (tD F.noex p ev) vs σ H Q := by
  obtain ⟨G, r, st, L, k⟩ := h
  refine ⟨G, r, st, L, ?_⟩
  unfold sDComp at k
  revert k
  generalize w r st = m
  intro k
  cases m with
  | bad => exact k
  | exn c fs st' => exact k
  | ok x =>
    obtain ⟨ds, st1⟩ := x
    intro J H1 G1 L1 ev1 wk D hD
    simp only [Res.ok_bind] at k
    have k1 := PostF.adv k ev1
    refine ⟨fun i m H' => m = ds.length - i ∧ i ≤ ds.length ∧ ∃ (G' : Gh) (st' : Sto) (kvs : List (Key × V)) (ks : List Int) (dvs : List Mg.D), Rel F G' r st' σ H' ∧ Ev p G1 H1 G' H' ∧ H' D = some (.dK kvs) ∧ G'.rl D = none ∧ kvs.map (·.1) = ks.map Sum.inl ∧ ks.Nodup ∧ Rs F.W G' H' (kvs.map (·.2)) dvs ∧
      PostF F p r σ G1 H1 ((dcompL false t c ek ev (wipeE r vs) (ks.map .int) dvs (ds.drop i) st').bind fun y => .ok (.dic false y.1.1 y.1.2, y.2)) Q, ⟨_, rfl, Nat.zero_le _, G1, st1, [], [], [], L1.lay hD, Ev.lay hD, upd_same, L1.noRole hD, rfl, List.nodup_nil, .nil, k1⟩, ?_⟩
    rintro i m H' ⟨rfl, hi, G', st', kvs, ks, dvs, L', ev', hH, hr, e1, hn, hrs, k'⟩
    obtain ⟨wgo, wstop⟩ := wk G' H' ev'
    by_cases hlt : i < ds.length
    · rw [mem_of_drop hlt, dcompL] at k'
      obtain ⟨go, yl⟩ := wgo i ds[i] (by simp [hlt])
      refine .inr ⟨go, fun H2 => ∃ (G' : Gh) (st' : Sto) (kvs : List (Key × V)) (ks : List Int) (dvs : List Mg.D), Rel F G' r st' σ H2 ∧ Ev p G1 H1 G' H2 ∧ H2 D = some (.dK kvs) ∧ G'.rl D = none ∧ kvs.map (·.1) = ks.map Sum.inl ∧ ks.Nodup ∧ Rs F.W G' H2 (kvs.map (·.2)) dvs ∧
        PostF F p r σ G1 H1 ((dcompL false t c ek ev (wipeE r vs) (ks.map .int) dvs (ds.drop (i + 1)) st').bind fun y => .ok (.dic false y.1.1 y.1.2, y.2)) Q, fun H2 h2 => ⟨_, (by omega : ds.length - (i + 1) < ds.length - i), rfl, hlt, h2⟩, fun x H2 hy => ?_⟩
      obtain ⟨y1, hx⟩ := yl x H2 hy
      obtain ⟨L2, ev2, kp⟩ := yld_ok (p := p) L' y1
      cases hb : t.bind ds[i] (wipeE r vs) with
      | none => rw [hb] at k'; exact k'.elim
      | some r' =>
        rw [hb] at k'
        simp only at k'
        refine hg (L2.wipe vs).noex hx hb fun σ2 L3 hl3 hs3 => ⟨?_, G', r', st', L3, ?_⟩
        · rw [wipe_eq (σ := wipe σ vs) hl3 fun j hj => hs3 j fun z => hj (hv j z), wipe_wipe]
        · revert k'
          generalize c r' st' = m
          intro k'
          cases m with
          | bad => exact k'
          | exn cc fs st2 => exact k'.elim
          | ok b =>
            intro H3 G3 L4 ev3
            have ev13 := (ev'.trans ev2).trans ev3
            have L5 := L2.back ev3 L4.exn
            have hH3 := ev3.sl D _ (fun n => by rw [hr]; simp) (fun n i => by rw [hr]; simp) (kp _ _ hH) (fun _ z => nomatch z)
            have hrs3 := Rs.mono (ev2.s1.trans ev3.s1) hrs
            obtain ⟨b, st2⟩ := b
            cases b with
            | false =>
              exact ⟨G3, st2, kvs, ks, dvs, L5, ev13, hH3.1, hH3.2.trans hr, e1, hn, hrs3, k'⟩
            | true =>
              rw [if_pos rfl]
              refine ⟨G3, r', st2, L4, ?_⟩
              simp only [Res.nx, Res.ok_bind, if_true] at k'
              revert k'
              generalize ek r' st2 = m
              intro k'
              cases m with
              | bad => exact k'
              | exn cc fs st2 => exact k'.elim
              | ok y =>
                intro v H4 G4 L6 ev4 hvv
                have hH4 := ev4.sl D _ (fun n => by rw [hH3.2, hr]; simp) (fun n i => by rw [hH3.2, hr]; simp) hH3.1 (fun _ z => nomatch z)
                have hr4 := hH4.2.trans (hH3.2.trans hr)
                have hrs4 := Rs.mono ev4.s1 hrs3
                have L7 := L5.back ev4 L6.exn
                refine ⟨G4, r', y.2, L6, ?_⟩
                simp only [Res.nx, Res.ok_bind] at k'
                revert k'
                generalize ev r' y.2 = m
                intro k'
                cases m with
                | bad => exact k'
                | exn cc fs st2 => exact k'.elim
                | ok z =>
                  intro u H5 G5 L8 ev5 huu
                  have L9 := L7.back ev5 L8.exn
                  have hH5 := ev5.sl D _ (fun n => by rw [hr4]; simp) (fun n i => by rw [hr4]; simp) hH4.1 (fun _ z => nomatch z)
                  have hr5 := hH5.2.trans hr4
                  have hrs5 := Rs.mono ev5.s1 hrs4
                  have hvv5 := R.mono ev5.s1 hvv
                  simp only [Res.nx, Res.ok_bind] at k'
                  split at k'
                  · rename_i hz
                    rw [Bool.and_eq_true, decide_eq_true_eq] at hz
                    obtain ⟨i', hi'⟩ := keyOk_f hz.1
                    rw [hi'] at k' hvv5 hz
                    have hvi : v = .int i' := RV.int (F := F) (p := true) (.inl hvv5)
                    obtain ⟨ks', z1, z2, z3, z4⟩ := keys_put (i := i') huu e1 hn hrs5
                    have hkl : kvs.length < sizeLine := by
                      have := congrArg List.length e1
                      have h2 := hz.2
                      simp only [List.length_map] at this h2
                      rw [← line_eq]; omega
                    have hob : Ob F.W G5 H5 D (.dK kvs) (.dic false (ks.map .int) dvs) := .dI e1 hn hrs5
                    rw [z1] at k'
                    have s6 := St1.wrO (o' := .dK (putK kvs (Sum.inl i') u)) hH5.1 hob hr5
                    exact ⟨kvs, .inl i', hvi, hH5.1, hkl, G5, z.2, _, ks', _, L9.wrO hH5.1 hob hr5, ((ev13.trans ev4).trans ev5).wrO hD hH5.1 hob hr5, upd_same, hr5, z2, z3, Rs.mono s6 z4, k'⟩
                  · exact k'.elim
    · have : i = ds.length := by omega
      subst this
      refine .inl ⟨wstop, ?_⟩
      rw [List.drop_length, dcompL] at k'
      exact k' D H' G' L' ev' hD hr ⟨_, hH, .dI e1 hn hrs⟩
end
section
variable {F : Fx} {X : Cx} [C : Ctx F X] {p : Bool} {kx vx tg iter : Expr} {scope : Scope} {own : List (Str × Nat)} {pos spos py : Pos} {g : TG} {t : Tg} {w : Wk} {c : Tst} {φ ψ : Ex}
theorem de_dcF {ifs : List Expr} (hN : X.N.Nodup) (hi : PI X tg iter (tI F p (some p) w)) (ok : BlkOk X.N X.env.scope scope own)
    (hg : ∀ (s : Shared) (H : Hp) (C : Addr) (cl : List (Str × Addr)) (fp : List Addr), DG F.noex (X.blk s H scope (compEnvC scope cl C X.env) fp) tg g t) (ht : ∀ (s : Shared) (H : Hp) (C : Addr) (cl : List (Str × Addr)) (fp : List Addr), PTs (X.blk s H scope (compEnvC scope cl C X.env) fp) ifs (tT F.noex p c))
    (hk : ∀ (s : Shared) (H : Hp) (C : Addr) (cl : List (Str × Addr)) (fp : List Addr), PE (X.blk s H scope (compEnvC scope cl C X.env) fp) kx (tD F.noex p φ))
    (he : ∀ (s : Shared) (H : Hp) (C : Addr) (cl : List (Str × Addr)) (fp : List Addr), PE (X.blk s H scope (compEnvC scope cl C X.env) fp) vx (tD F.noex p ψ)) (hv : ∀ i ∈ t.ixs, i ∈ own.map (·.2) := by decide) (hs : ∀ x, foldedSetIterable iter X.env x = pure x := by intro _; rfl) :
    PE X (.DictComp kx vx [⟨tg, iter, ifs, 0⟩] scope pos) (tF F p (sDComp false (own.map (·.2)) t w c φ ψ)) :=
  (pe_dc C.calm hN hi ok (fun s H C cl fp => (hg s H C cl fp).pg) ht hk he hs).mimp fun σ H Q h => by
    exact dc_ok (fun L h1 h2 h3 => (hg X.s_0 H 0 [] []).ok L h1 h2 h3) hv h
theorem de_dc {ifs : List Expr} (hN : X.N.Nodup) (hi : PI X tg iter (tI F p (some p) w)) (ok : BlkOk X.N X.env.scope scope own)
    (hg : ∀ (s : Shared) (H : Hp) (C : Addr) (cl : List (Str × Addr)) (fp : List Addr), DG F.noex (X.blk s H scope (compEnvC scope cl C X.env) fp) tg g t) (ht : ∀ (s : Shared) (H : Hp) (C : Addr) (cl : List (Str × Addr)) (fp : List Addr), PTs (X.blk s H scope (compEnvC scope cl C X.env) fp) ifs (tT F.noex p c))
    (hk : ∀ (s : Shared) (H : Hp) (C : Addr) (cl : List (Str × Addr)) (fp : List Addr), PE (X.blk s H scope (compEnvC scope cl C X.env) fp) kx (tD F.noex p φ))
    (he : ∀ (s : Shared) (H : Hp) (C : Addr) (cl : List (Str × Addr)) (fp : List Addr), PE (X.blk s H scope (compEnvC scope cl C X.env) fp) vx (tD F.noex p ψ)) (hv : ∀ i ∈ t.ixs, i ∈ own.map (·.2) := by decide) (hs : ∀ x, foldedSetIterable iter X.env x = pure x := by intro _; rfl) :
    PE X (.DictComp kx vx [⟨tg, iter, ifs, 0⟩] scope pos) (tD F p (sDComp false (own.map (·.2)) t w c φ ψ)) := (de_dcF hN hi ok hg ht hk he hv hs).frz
end
end Mg
end
/-! ## DKey -/
section
set_option Elab.async false
set_option linter.all false
set_option maxRecDepth 100000
set_option maxHeartbeats 2500000
/-! The data layer: sorted by a def as key. -/
namespace PySem.W
open PySem PySem.Calls PyProof.Rows
section
variable {prog : Program} {w : World} {A : Around} {E : Value → Shared → Prop} {s : Shared} {a kS : Addr} {b : Bool} {vs : List Value} {e1 : Nat} {P : PySem.Fin → Shared → Prop}
/-- the keys are reckoned one after another: J tells the state -/
theorem keyJ_rest {f : Value} (J : Nat → Array Value → Shared → Prop) (h0 : J 0 #[] s) (hZ : vs.length ≤ sizeLine)
    (step : ∀ i v kA s', vs[i]? = some v → J i kA s' → kA.size = i ∧ wpAny (model prog w) A (call f [v]) (fun k s'' => (∃ e, s''.heap.get? kS = some (seqObj "list" kA e)) ∧ J (i + 1) (kA.push k) { s'' with heap := s''.heap.update kS (Obj.mapSeq (·.push k)) }) (fun _ _ => False) s')
    (fin : ∀ kA s', J vs.length kA s' → (∃ e, s'.heap.get? kS = some (seqObj "list" kA e)) ∧ wpAny (model prog w) A (ksk_end a b vs.toArray e1 (.ref kS) kA) P E s') :
    wpAny (model prog w) A (ksk_rest a f b vs.toArray e1 (.ref kS)) P E s := by
  unfold ksk_rest
  refine wpAny_bind (wpAny_rule ?_); rw [List.forIn_toArray]; refine wpAny_bind (ksk_fold (fun i s' => ∃ kA, J i kA s') vs 0 s ⟨_, h0⟩ ?_ ?_)
  · rintro j x s' hx ⟨kA, hJ⟩
    simp only [Nat.zero_add] at hJ ⊢
    obtain ⟨hj, _⟩ := List.getElem?_eq_some_iff.mp hx
    obtain ⟨hs, hw⟩ := step j x kA s' hx hJ
    refine wpAny_bind (wpAny_attempt (wpAny_mono hw (fun v s'' he => ?_) fun _ _ hF => hF.elim))
    obtain ⟨⟨e, nk⟩, hJ'⟩ := he
    try dsimp only
    have hz : kA.size ≤ sizeLine := by omega
    refine wpAny_bind (listUpdate_at nk rfl ?_ hz (by rw [Array.size_push]; omega))
    exact wpAny_pure ⟨rfl, _, hJ'⟩
  · rintro s' ⟨kA, hJ⟩
    simp only [Nat.zero_add] at hJ
    obtain ⟨⟨e, nk⟩, hw⟩ := fin kA s' hJ
    try dsimp only
    exact wpAny_bind (listItems_at nk rfl hw)
end
end PySem.W
namespace Mg
open PySem PySem.Spec PyProof.Rows L2 GxR PySem.W PySem.Calls
/-- the keys of some things, one after another -/
def keysL (f : List D → Sto → Res (D × Sto)) : List D → Sto → Res (List D × Sto)
  | [], st => .ok ([], st)
  | d :: ds, st => (f [d] st).nx.bind fun x => (keysL f ds x.2).bind fun y => .ok (x.1 :: y.1, y.2)
/-- things sorted by their keys -/
def sortK (ks ds : List D) : List D := (msort (ks.zip ds) fun a b => D.le a.1 b.1).map (·.2)
theorem sortK_old (ks ds : List D) : sortK ks ds = ((ks.zip ds).mergeSort fun a b => D.le a.1 b.1).map (·.2) := by unfold sortK; rw [msort_eq]
theorem keysL_length (f : List D → Sto → Res (D × Sto)) : ∀ {ds : List D} {st st' : Sto} {ks : List D}, keysL f ds st = .ok (ks, st') → ks.length = ds.length
  | [], st, st', ks, h => by cases h; rfl
  | d :: ds, st, st', ks, h => by
    unfold keysL at h
    cases q : f [d] st with
    | bad => rw [q] at h; cases h
    | exn => rw [q] at h; cases h
    | ok x =>
      rw [q] at h
      simp only [Res.nx, Res.ok_bind] at h
      cases q2 : keysL f ds x.2 with
      | bad => rw [q2] at h; cases h
      | exn => rw [q2] at h; cases h
      | ok y =>
        rw [q2] at h
        cases h
        exact congrArg (· + 1) (keysL_length f (st' := y.2) (ks := y.1) (by rw [q2]))
section
variable {X : Cx} {F : Fx} [C : Ctx F X]
theorem turn_call {pins : List (Addr × Obj)} {σ : L2.St} {H : Hp} {s : Shared} {A : Around} {k n : Nat} {fa : Addr} {fd : FuncData} {ps : List Str} {f : List D → Sto → Res (D × Sto)} {us : List Value} {vs : List V} {Q : VK} (FO : FnOk X.prog X.w X.K X.mg X.base CX0 k fa fd ps (spD F n f)) (hr : Room k A)
    (he : Env0 X.prog X.w X.K X.mg X.base A X.stack s H) (hb : Binds X.K fd ps []) (I : Inv X pins σ H s) (r : Vals vs us) (h : spD F n f vs H Q (fun _ _ _ => False)) : wpAny (model X.prog X.w) A (call (.ref fa) us) (EP X pins σ Q) (fun _ _ => False) s := by
  have hl : (us ++ []).length = ps.length := by rw [List.append_nil, ← r.length]; exact FO.len _ _ _ _ h
  refine wpAny_call (codeAny_mono (FO.run A X.stack s H ⟨us, []⟩ (us ++ []) vs Q _ hr he (hb s us I.kIn hl) (by rw [List.append_nil]; exact r) h) fun r s' hq => ?_)
  cases r with
  | error e => exact hq
  | ok fl =>
    cases fl with
    | ret u => exact I.after hq
    | next => exact False.elim hq
    | brk => exact False.elim hq
    | cont => exact False.elim hq
theorem Rs.zip3 {W : Wo} {G : Gh} {H : Hp} : ∀ {ys : List V} {ds : List D} {us : List Value} {ks : List D}, Rs W G H ys ds → Vals ys us → ks.length = ds.length → EachIs (fun (v : Value) (b : D × V × D) => RelV b.2.1 v ∧ R W G H b.2.1 b.2.2) us (ks.zip (ys.zip ds))
  | _, _, _, [], .nil, .nil, _ => .nil
  | _, _, _, k :: ks, .cons h t, .cons r q, hl => .cons ⟨r, h⟩ (Rs.zip3 t q (by simpa using hl))
theorem zip3_key : ∀ {ks : List D} {ys : List V} {ds : List D}, ks.length = ds.length → ys.length = ds.length → (ks.zip (ys.zip ds)).map (fun b => b.1.py) = ks.map D.py
  | [], _, _, _, _ => rfl
  | k :: ks, [], ds, h, h2 => by
    cases ds with
    | nil => cases h
    | cons => cases h2
  | k :: ks, y :: ys, [], h, h2 => by cases h
  | k :: ks, y :: ys, d :: ds, h, h2 => by
    rw [List.zip_cons_cons, List.zip_cons_cons, List.map_cons, List.map_cons, zip3_key (by simpa using h) (by simpa using h2)]
theorem zip3_two : ∀ {ks : List D} {ys : List V} {ds : List D}, ys.length = ds.length → (ks.zip (ys.zip ds)).map (fun b => (b.1, b.2.2)) = ks.zip ds
  | [], _, _, _ => rfl
  | k :: ks, [], ds, h => by
    cases ds with
    | nil => rfl
    | cons => cases h
  | k :: ks, y :: ys, [], h => by cases h
  | k :: ks, y :: ys, d :: ds, h => by
    rw [List.zip_cons_cons, List.zip_cons_cons, List.map_cons, List.zip_cons_cons, zip3_two (by simpa using h)]
theorem each_out3 {W : Wo} {G : Gh} {H : Hp} : ∀ {us : List Value} {bs : List (D × V × D)}, EachIs (fun (v : Value) (b : D × V × D) => RelV b.2.1 v ∧ R W G H b.2.1 b.2.2) us bs → Vals (bs.map fun b => b.2.1) us ∧ Rs W G H (bs.map fun b => b.2.1) (bs.map fun b => b.2.2)
  | _, _, .nil => ⟨.nil, .nil⟩
  | _, _, .cons ⟨h1, h2⟩ t => let ⟨k1, k2⟩ := each_out3 t; ⟨.cons h1 k1, .cons h2 k2⟩
theorem reads_keys {pins : List (Addr × Obj)} {σ : L2.St} {G : Gh} {H : Hp} {s : Shared} (I : Inv X pins σ H s) : ∀ {kvs : List V} {ks : List D} {us : List Value}, Rs F.W G H kvs ks → Vals kvs us → (∀ d ∈ ks, d.pl = true) → EachIs (fun v d => ∃ as, Reads s.heap v d as) us (ks.map D.py)
  | _, _, _, .nil, .nil, _ => .nil
  | _, d :: ks, _, .cons h t, .cons r q, hp => .cons (Dp.reads I _ _ _ (C.K ▸ dp_of h (hp d List.mem_cons_self)) r) (reads_keys I t q fun d hd => hp d (List.mem_cons_of_mem _ hd))
def rSortK (F : Fx) (fa : Addr) (f : List D → Sto → Res (D × Sto)) : List V → List V → Hp → VK → Prop := fun vs zs H Q => ∃ G st st' a ys ds ks, vs = [.ref a] ∧ zs = [.ref fa] ∧ (SqL F.W.K H a ys ∨ SqT F.W.K H a ys) ∧ Rs F.W G H ys ds ∧ Rel F.noex G [] st [] H ∧
  keysL f ds st = .ok (ks, st') ∧ D.sorts ks = true ∧ ds.length ≤ line ∧ ∀ p zs' H' G', Rel F.noex G' [] st' [] H' → Evs G H G' H' → H' p = none → Rs F.W G' H' zs' (sortK ks ds) → Q (.ref p) (upd H' p (.lst zs'))
theorem pin_two {pins : List (Addr × Obj)} {σ : L2.St} {H : Hp} {s : Shared} {a b : Addr} {oa ob : Obj} (I : Inv X pins σ H s) (fa : FpOk X pins H a) (fb : FpOk X pins H b) (ha : s.heap.get? a = some oa) (hb : s.heap.get? b = some ob) (na : ∀ v, oa.data ≠ .cell v) (nb : ∀ v, ob.data ≠ .cell v) :
    Inv X (pins ++ [(a, oa), (b, ob)]) σ H s := I.pins_of fun p hp => by
  rcases List.mem_append.mp hp with z | z
  · exact I.pin p (List.mem_append_right _ z)
  · rcases List.mem_cons.mp z with rfl | z
    · exact ⟨ha, fa.1, fa.2.1, fa.2.2.1, na⟩
    · rcases List.mem_cons.mp z with rfl | z
      · exact ⟨hb, fb.1, fb.2.1, fb.2.2.1, nb⟩
      · cases z
theorem fp_next {pins : List (Addr × Obj)} {H H' : Hp} {a : Addr} (f : FpOk X pins H a) (h : H' a = none) : FpOk X pins H' a := ⟨h, f.2⟩
/-- list.sort(key=f) on a list that nobody else has -/
theorem sort_body {k : Nat} {fa : Addr} {fd : FuncData} {ps : List Str} {f : List D → Sto → Res (D × Sto)} (FO : FnOk X.prog X.w X.K X.mg X.base CX0 k fa fd ps (spD F 1 f)) (hr : Room (k + 2) X.A) (hb : Binds X.K fd ps [])
    {pins : List (Addr × Obj)} {σ : L2.St} {H : Hp} {s2 : Shared} {a n0 : Nat} {its : List Value} {Q : VK} {G : Gh} {st st' : Sto} {ys : List V} {ds ks : List D} (I2 : Inv X pins σ H s2) (fpa : FpOk X pins H a) (ho1 : s2.heap.get? a = some (seqObj "list" its.toArray n0))
    (rs : Rs F.W G H ys ds) (rv : Vals ys its) (L : Rel F.noex G [] st [] H) (hk : keysL f ds st = .ok (ks, st')) (hsort : D.sorts ks = true) (hlen : ds.length ≤ line)
    (q : ∀ p zs' H' G', Rel F.noex G' [] st' [] H' → Evs G H G' H' → H' p = none → Rs F.W G' H' zs' (sortK ks ds) → Q (.ref p) (upd H' p (.lst zs'))) :
    wpAny (model X.prog X.w) X.A.in1.in1 (Builtin.«list.sort» ⟨[.ref a], [(Str.ofString "key", .ref fa)]⟩) (fun f s' => f = .done (.ret .none) ∧ EP X pins σ Q (.ref a) s') (fun _ _ => False) s2 := by
  have hyl := rs.length
  have hvl := rv.length
  have hL : its.length ≤ sizeLine := by rw [← hvl, hyl, ← line_eq]; exact hlen
  rw [ksk_t1]
  obtain ⟨e1, ho2⟩ : ∃ e1, (s2.heap.update a (Obj.mapSeq fun _ => (#[] : Array Value))).get? a = some (seqObj "list" #[] e1) := ⟨_, get?_update_seq ho1 fun _ => #[]⟩
  unfold ksk_tree
  refine wpAny_bind (listItems_at ho1 rfl ?_)
  refine wpAny_bind (listUpdate_at ho1 rfl ?_ (by rw [List.size_toArray]; exact hL) (Nat.zero_le _))
  refine wpAny_bind (seqEpoch_at ho2 rfl ?_)
  refine wpAny_bind (wpAny_newTuple ?_ (by show its.length ≤ _; exact hL))
  refine wpAny_bind (wpAny_newList ?_ (Nat.zero_le _))
  refine wpAny_holding ?_
  have hkS : ((s2.heap.update a (Obj.mapSeq fun _ => (#[] : Array Value))).push (seqObj "tuple" its.toArray 0)).objs.size = s2.heap.objs.size + 1 := by rw [size_push', Heap.size_update]
  show wpAny _ _ (ksk_rest a (.ref fa) false its.toArray e1 (.ref ((s2.heap.update a (Obj.mapSeq fun _ => (#[] : Array Value))).push (seqObj "tuple" its.toArray 0)).objs.size)) _ _ { s2 with heap := ((s2.heap.update a (Obj.mapSeq fun _ => (#[] : Array Value))).push (seqObj "tuple" its.toArray 0)).push (seqObj "list" #[] 0) }
  generalize hgk : ((s2.heap.update a (Obj.mapSeq fun _ => (#[] : Array Value))).push (seqObj "tuple" its.toArray 0)).objs.size = kS at hkS ⊢
  have hal : a < s2.heap.objs.size := Heap.lt_size ho1
  have hka : kS ≠ a := fun z => by rw [z] at hkS; exact absurd hal (Nat.not_lt.mpr (by rw [hkS]; exact Nat.le_succ _))
  have hsk : s2.heap.objs.size ≤ kS := by rw [hkS]; exact Nat.le_succ _
  generalize hs3 : ({ s2 with heap := ((s2.heap.update a (Obj.mapSeq fun _ => (#[] : Array Value))).push (seqObj "tuple" its.toArray 0)).push (seqObj "list" #[] 0) } : Shared) = s3
  have h3a : s3.heap.get? a = some (seqObj "list" #[] e1) := by rw [← hs3]; exact Heap.get?_push_of_some _ (Heap.get?_push_of_some _ ho2)
  have h3k : s3.heap.get? kS = some (seqObj "list" #[] 0) := by rw [← hs3, ← hgk]; exact Heap.get?_push_size _ rfl
  have I3 : Inv X pins σ H s3 := by
    rw [← hs3]
    refine I2.turned (t' := s2.toks) (it := a) (fun b o hb e => ?_) fpa.1 fpa.2.1 fpa.2.2.2.1 fpa.2.2.2.2.1 fpa.2.2.2.2.2
    exact Heap.get?_push_of_some _ (Heap.get?_push_of_some _ (((Heap.SameBut.update s2.heap a (Obj.mapSeq fun _ => (#[] : Array Value))).2 b hb).trans e))
  have fpk : FpOk X pins H kS := I2.fpOk hsk (I2.hok.fresh hsk)
  have rm2 : Room k X.A.in1.in1 := hr.in1.in1
  refine keyJ_rest (fun i kA s' => kA.size = i ∧ ∃ (H' : Hp) (G' : Gh) (sti : Sto) (kvs : List V) (dks rest : List D) (ek : Nat), Inv X (pins ++ [(a, seqObj "list" #[] e1), (kS, seqObj "list" kA ek)]) σ H' s' ∧ Rel F.noex G' [] sti [] H' ∧ Evs G H G' H' ∧
    Rs F.W G' H' kvs dks ∧ Vals kvs kA.toList ∧ keysL f (ds.drop i) sti = .ok (rest, st') ∧ ks = dks ++ rest)
    ⟨rfl, H, G, st, [], [], ks, 0, pin_two I3 fpa fpk h3a h3k (fun v z => nomatch z) (fun v z => nomatch z), L, .refl, .nil, .nil, hk, rfl⟩ hL ?_ ?_
  · rintro i v kA s' hv ⟨hsi, H', G', sti, kvs, dks, rest, ek, I', L', ev', hrs, hvs, hkl, hks⟩
    refine ⟨hsi, ?_⟩
    have hi : i < its.length := (List.getElem?_eq_some_iff.mp hv).1
    have hid : i < ds.length := by omega
    have hiy : i < ys.length := by omega
    obtain ⟨u0, hu0, ry⟩ := rv.get (List.getElem?_eq_getElem hiy)
    rw [hv] at hu0
    cases hu0
    generalize hyv : ys[i] = y at ry
    have hy : ys[i]? = some y := by rw [List.getElem?_eq_getElem hiy, hyv]
    obtain ⟨d, hd', rd⟩ := rs.get' hy
    have hdd : ds[i] = d := by
      have := List.getElem?_eq_getElem hid
      rw [hd'] at this
      exact (Option.some.inj this).symm
    rw [mem_of_drop hid, hdd, keysL] at hkl
    have rd' := R.mono ev'.s1 rd
    cases hfm : f [d] sti with
    | bad => rw [hfm] at hkl; cases hkl
    | exn => rw [hfm] at hkl; cases hkl
    | ok x =>
      rw [hfm] at hkl
      simp only [Res.nx, Res.ok_bind] at hkl
      cases hrest : keysL f (ds.drop (i + 1)) x.2 with
      | bad => rw [hrest] at hkl; cases hkl
      | exn => rw [hrest] at hkl; cases hkl
      | ok z =>
        rw [hrest] at hkl
        cases hkl
        have sp : spD F 1 f [y] H' (fun v' H'' => ∃ G'', Rel F.noex G'' [] x.2 [] H'' ∧ Evs G' H' G'' H'' ∧ R F.W G'' H'' v' x.1) (fun _ _ _ => False) :=
          ⟨rfl, G', sti, [d], L', .cons rd' .nil, by rw [hfm]; exact fun v' H'' G'' l e r => ⟨G'', l, e, r⟩⟩
        refine wpAny_mono (turn_call FO rm2 I'.env0.in1.in1 hb I' (.cons ry .nil) sp) (fun u s'' he => ?_) fun _ _ e => e
        obtain ⟨v', H'', I'', ru, G'', L'', ev'', hr''⟩ := he
        have pa := I''.pin (a, seqObj "list" #[] e1) (List.mem_append_right _ (List.mem_append_right _ List.mem_cons_self))
        have pk := I''.pin (kS, seqObj "list" kA ek) (List.mem_append_right _ (List.mem_append_right _ (List.mem_cons_of_mem _ List.mem_cons_self)))
        refine ⟨⟨ek, pk.1⟩, by rw [Array.size_push, hsi], H'', G'', x.2, kvs ++ [v'], dks ++ [x.1], z.1, ?_⟩
        obtain ⟨e2, hk2⟩ : ∃ e2, (s''.heap.update kS (Obj.mapSeq (·.push u))).get? kS = some (seqObj "list" (kA.push u) e2) := ⟨_, get?_update_seq pk.1 (·.push u)⟩
        have sb := Heap.SameBut.update s''.heap kS (Obj.mapSeq (·.push u))
        have fpa' := fp_next fpa pa.2.1
        have fpk' := fp_next fpk pk.2.1
        have I5 : Inv X pins σ H'' { s'' with heap := s''.heap.update kS (Obj.mapSeq (·.push u)), toks := s''.toks } :=
          (I''.unpinned (pins := pins)).turned (fun b o hb e => (sb.2 b hb).trans e) pk.2.1 fpk'.2.1 fpk'.2.2.2.1 fpk'.2.2.2.2.1 fpk'.2.2.2.2.2
        exact ⟨e2, pin_two I5 fpa' fpk' ((sb.2 a hka.symm).trans pa.1) hk2 (fun v z => nomatch z) (fun v z => nomatch z), L'', ev'.trans ev'', Rs.append (Rs.mono ev''.s1 hrs) (.cons hr'' .nil), by
          rw [Array.toList_push]; exact hvs.append (.cons ru .nil), hrest, by rw [hks, List.append_assoc]; rfl⟩
  · rintro kA s' ⟨hsi, H', G', sti, kvs, dks, rest, ek, I', L', ev', hrs, hvs, hkl, hks⟩
    have hdl : its.length = ds.length := by omega
    rw [hdl, List.drop_length] at hkl
    cases hkl
    rw [List.append_nil] at hks
    subst hks
    have pa := I'.pin (a, seqObj "list" #[] e1) (List.mem_append_right _ (List.mem_append_right _ List.mem_cons_self))
    have pk := I'.pin (kS, seqObj "list" kA ek) (List.mem_append_right _ (List.mem_append_right _ (List.mem_cons_of_mem _ List.mem_cons_self)))
    refine ⟨⟨ek, pk.1⟩, ?_⟩
    have hkl2 : ks.length = ds.length := keysL_length f hk
    have hspl : (∀ d ∈ ks, ∀ d' ∈ ks, D.alike d d' = true) ∧ ∀ d ∈ ks, d.pl = true ∧ d.dep ≤ 50 := by
      unfold D.sorts at hsort
      rw [Bool.and_eq_true] at hsort
      refine ⟨fun d hd d' hd' => List.all_eq_true.mp (List.all_eq_true.mp hsort.1 d hd) d' hd', fun d hd => ?_⟩
      have := List.all_eq_true.mp hsort.2 d hd
      rw [Bool.and_eq_true, decide_eq_true_eq] at this
      exact this
    have rds : EachIs (fun v d => ∃ as, Reads s'.heap v d as) kA.toList (ks.map D.py) := reads_keys I' hrs hvs fun d hd => (hspl.2 d hd).1
    have hala : AllAlike (ks.map D.py) := by
      intro d hd d' hd'
      obtain ⟨b, hb, rfl⟩ := List.mem_map.mp hd
      obtain ⟨b', hb', rfl⟩ := List.mem_map.mp hd'
      exact py_alike _ _ (hspl.1 b hb b' hb')
    have hne : ∀ d ∈ ks.map D.py, d ≠ .none := by
      intro d hd z
      obtain ⟨b, hb, rfl⟩ := List.mem_map.mp hd
      have h2 := hspl.1 b hb b hb
      cases b <;> first | (cases z; done) | (cases h2; done)
    have hun : ∀ d ∈ ks.map D.py, X.A.in1.in1.units + d.depth < cLine := by
      intro d hd
      obtain ⟨b, hb, rfl⟩ := List.mem_map.mp hd
      have h1 := py_depth b
      have h2 := (hspl.2 b hb).2
      have h3 := C.un
      show X.A.units + 1 + 1 + _ < cLine
      omega
    have SA : SortsAt X.prog X.w X.A.in1.in1 s' (dataKind s'.heap (ks.map D.py)) kA.toList := SortsAt.any rds hala hne hun
    obtain ⟨h1, hr1, hr2⟩ := restrict s'.heap fun b => decide (b ≠ kS)
    have kp1 : KeepsBut a h1 s'.heap := fun b o hb e => by
      by_cases z : b = kS
      · rw [hr2 b (by simp [z])] at e; cases e
      · rw [← hr1 b (by simp [z])]; exact e
    refine keyH_end (h₁ := h1) kp1 (hr2 kS (by simp)) pk.1 pa.1 hka SA (by rw [hsi]) hL fun h' tk c kp' hout => ⟨rfl, ?_⟩
    -- what came out
    have hzz := Rs.zip3 (W := F.W) (G := G') (H := H') (Rs.mono ev'.s1 rs) rv hkl2
    have hko : KeyedOut false ((ks.zip (ys.zip ds)).map fun b => b.1.py) its (sortVals (dataKind s'.heap (ks.map D.py)) false kA.toList its) :=
      ⟨s'.heap, kA.toList, by rw [zip3_key hkl2 hyl]; exact hala, by rw [zip3_key hkl2 hyl], by rw [zip3_key hkl2 hyl]; exact rds⟩
    have out := keyedOut_each (fun b : D × V × D => b.1.py) hko hzz
    obtain ⟨o1, o2⟩ := each_out3 out
    have hmap : (((ks.zip (ys.zip ds)).mergeSort (dataLe false fun b : D × V × D => b.1.py)).map fun b => b.2.2) = sortK ks ds := by
      rw [sortK_old]
      rw [← zip3_two (ks := ks) (ys := ys) (ds := ds) hyl]
      rw [← List.map_mergeSort (r := dataLe false fun b : D × V × D => b.1.py) (s := fun a b : D × D => D.le a.1 b.1) (f := fun b : D × V × D => (b.1, b.2.2))]
      · rw [List.map_map]
        rfl
      · intro b hb b' hb'
        have m1 := (List.of_mem_zip hb).1
        have m2 := (List.of_mem_zip hb').1
        rw [dataLe_eq]
        show (!dataLt b'.1.py b.1.py) = !D.lt b'.1 b.1
        rw [py_lt _ _ (hspl.1 _ m2 _ m1) (hspl.2 _ m2).1 (hspl.2 _ m1).1]
    rw [hmap] at o2
    have kpa : ∀ b o, b ∉ [a, kS] → s'.heap.get? b = some o → h'.get? b = some o := fun b o hb e => by
      simp only [List.mem_cons, List.not_mem_nil, or_false, not_or] at hb
      exact kp' b o hb.1 (by rw [hr1 b (by simp [hb.2])]; exact e)
    have I6 : Inv X pins σ H' { s' with heap := h', toks := tk } := (I'.unpinned (pins := pins)).turnedL kpa fun b hb => by
      simp only [List.mem_cons, List.not_mem_nil, or_false] at hb
      rcases hb with rfl | rfl
      · exact fp_next fpa pa.2.1
      · exact fp_next fpk pk.2.1
    have hlz : (((ks.zip (ys.zip ds)).mergeSort (dataLe false fun b : D × V × D => b.1.py)).map fun b => b.2.1).length ≤ sizeLine := by
      rw [List.length_map, List.length_mergeSort, List.length_zip, List.length_zip]
      omega
    have I7 := I6.take (it := a) (h' := h') (t' := tk) (o := .lst (((ks.zip (ys.zip ds)).mergeSort (dataLe false fun b : D × V × D => b.1.py)).map fun b => b.2.1)) (fun b ob _ e => e) (fp_next fpa pa.2.1) ⟨hlz, _, c, o1, hout⟩
    exact ⟨.ref a, _, I7, rfl, q a _ H' G' L' ev' pa.2.1 o2⟩
theorem cr_sortK {k : Nat} {fa : Addr} {fd : FuncData} {ps : List Str} {f : List D → Sto → Res (D × Sto)} (FO : FnOk X.prog X.w X.K X.mg X.base CX0 k fa fd ps (spD F 1 f)) (hr : Room (k + 2) X.A) (hb : Binds X.K fd ps []) :
    CallRK X (.builtin "sorted") [Str.ofString "key"] (rSortK F fa f) := by
  intro pins s σ H vs zs us ws Q I r rz h
  obtain ⟨G, st, st', a0, ys, ds, ks, rfl, rfl, hs, rs, L, hk, hsort, hlen, q⟩ := h
  rw [Vals.ref1 r, Vals.ref1 rz]
  have key : ∀ (its : List Value) (T : String) (o : Obj) (n : Nat), Vals ys its → (T = "list" ∨ T = "tuple") → s.heap.get? a0 = some o → o.cls = .type T → o.data = .seq its.toArray n → wpAny (model X.prog X.w) X.A (call (.builtin "sorted") [.ref a0] [(Str.ofString "key", .ref fa)]) (EP X pins σ Q) X.xe s := by
    intro its T o n rv hT ho hc hd
    have hyl := rs.length
    have hvl := rv.length
    have hL : its.length ≤ sizeLine := by rw [← hvl, hyl, ← line_eq]; exact hlen
    refine call_function_entry_kw kind_sorted plain_sorted entry_sorted (ksk_s1 _ _) ?_
    unfold Builtin.«sorted»
    refine wpAny_bind (m := checkCount "sorted" 1 1 _) (wpAny_pure (wpAny_bind (wpAny_collect_seq a0 hT ho hc hd (fun h' hk' => ?_) (by rw [List.size_toArray]; exact hL))))
    have I' : Inv X pins σ H { s with heap := h' } := I.kept (t' := s.toks) hk'
    have I2 : Inv X pins σ H { s with heap := listed h' its } := I'.kept (t' := s.toks) fun b o e => Heap.get?_push_of_some _ e
    refine wpAny_bind (wpAny_newList (wpAny_bind (wpAny_holding (wpAny_call_entry_kw slot_list_sort ⟨_, listed_at h' its, rfl⟩ entry_list_sort ?_ (ksk_l1 _ _)))) hL)
    refine wpAny_mono (sort_body FO hr hb I2 (I'.fpOk (Nat.le_refl _) (I'.hok.fresh (Nat.le_refl _))) (listed_at h' its) rs rv L hk hsort hlen q) (fun f s' hf => ?_) fun _ _ e => e.elim
    obtain ⟨rfl, hq⟩ := hf
    exact ⟨_, rfl, wpAny_pure ⟨_, rfl, hq⟩⟩
  rcases hs with hs | hs
  · rw [C.K] at hs
    obtain ⟨its, rv, hl, _⟩ := I.list hs
    obtain ⟨o, ho, hc, n, hd⟩ := hl.isList
    exact key its "list" o n rv (.inl rfl) ho hc hd
  · rw [C.K] at hs
    obtain ⟨its, rv, ⟨o, ho, hc, n, hd⟩, _⟩ := I.tuple hs
    exact key its "tuple" o n rv (.inr rfl) ho hc hd
end
end Mg
end
/-! ## DKey2 -/
section
set_option Elab.async false
set_option linter.all false
set_option maxRecDepth 100000
set_option maxHeartbeats 2500000
namespace Mg
open PySem PySem.Spec PyProof.Rows L2 GxR PySem.W PySem.Calls
/-- sorted(xs, key=f) -/
def sSortK (f : List D → Sto → Res (D × Sto)) (a : Ex) : Ex := fun r st => (a r st).bind fun x => match seqOf x.2 x.1 with
  | some l => (keysL f l x.2).bind fun y => if D.sorts y.1 && decide (l.length ≤ line) then .ok (.lst (sortK y.1 l), y.2) else .bad
  | none => .bad
section
variable {F : Fx} {X : Cx} [C : Ctx F X] {φ : Ex} {e : Expr} {x : Str} {pp pk pkk pos : Pos} {Tb : TbT}
theorem FO_of {n k : Nat} {fa : Addr} {fd : FuncData} {ps : List Str} {f : List D → Sto → Res (D × Sto)} (hT : F.Tb = Tb) (h1 : FnOk X.prog X.w X.K X.mg X.base CX0 k fa fd ps (spD (mkF X.prog X.w X.K Tb) n f)) : FnOk X.prog X.w X.K X.mg X.base CX0 k fa fd ps (spD F n f) := by
  have hF : F.noex = mkF X.prog X.w X.K Tb := by
    obtain ⟨⟨P, w, K, T⟩, ex⟩ := F
    have z1 : P = X.prog := C.P
    have z2 : w = X.w := C.w
    have z3 : K = X.K := C.K
    have z4 : T = Tb := hT
    subst z1 z2 z3 z4
    rfl
  have : spD F n f = spD (mkF X.prog X.w X.K Tb) n f := by
    rw [← hF]
    rfl
  rw [this]
  exact h1
theorem new_lstB {G1 G' : Gh} {r : Env} {st1 st' : Sto} {σ : L2.St} {H1 H' : Hp} {p : Addr} {zs : List V} {ds : List D} (L1 : Rel F G1 r st1 σ H1) (L2 : Rel F.noex G' [] st' [] H') (e2 : Evs G1.fgt H1 G' H') (hp : H' p = none) (hz : Rs F.W G' H' zs ds) {m : Res (D × Sto)} {Q : VK}
    (k : Post F false r σ G1 H1 (.ok (.lst ds, st')) Q) : Q (.ref p) (upd H' p (.lst zs)) := by
  obtain ⟨L3, ev3⟩ := L1.after e2 L2
  exact new_lst L3 hp (Rs.mono .mrg hz) fun v H'' G'' L' ev hr => k v H'' G'' L' (ev3.trans ev.low) hr
theorem ve_sortK {f : List D → Sto → Res (D × Sto)} {k j : Nat} (d : DefOk X.prog X.w X.K X.mg X.base Tb x 1 f k) (hr : Room j X.A) (hg : Gl X "sorted") (hm : X.mg "sorted" = none) (he : PE X e (tV F false φ)) (hT : F.Tb = Tb := by rfl) (hgx : Gl X x := by rfl) (hkj : k + 2 ≤ j := by omega)
    (hdb : (x == ("__debug__" : Str)) = false := by decide) (hs : starEach [e] X.env = (false, eval e X.env) :: starEach [] X.env := by rfl) (he1 : backTo pos (starEach [e] X.env) = (false, eval e X.env) :: backTo pos (starEach [] X.env) := by rfl) (hpl : (backTo pos (starEach [e] X.env)).any (·.1) = false := by rfl)
    (hall : (backToKw pos (keywordEach [⟨some "key", .Name x pk, pkk⟩] X.env)).all (·.1.isSome) = true := by rfl) (hnone : (backToKw pos (keywordEach [⟨some "key", .Name x pk, pkk⟩] X.env)).any (·.1.isNone) = false := by rfl) (hks : (backToKw pos (keywordEach [⟨some "key", .Name x pk, pkk⟩] X.env)).filterMap (·.1) = [Str.ofString "key"] := by rfl) :
    PE X (.Call (.Name "sorted" pp) [e] [⟨some "key", .Name x pk, pkk⟩] pos) (tD F false (sSortK f φ)) := by
  obtain ⟨fa, fd, ps, h1, h2, h3, h4⟩ := d.ok
  refine (pe_callBK (cr_sortK (FO_of hT h1) (hr.mono hkj) h4) hg hm rfl (pa_cons he pa_nil hs) (pk_cons (pe_glob (v := .ref fa) hgx h2 rfl hdb) pk_nil) (by decide) (by decide) he1 hpl hall hnone hks).mimp fun σ H Q ⟨G, r, st, L, k⟩ => ?_
  refine ⟨G, r, st, L, postV_bind k fun y v H1 G1 e1 L1 ev1 hy k1 => ?_⟩
  obtain ⟨dy, st1⟩ := y
  simp only at k1
  cases hq : seqOf st1 dy with
  | none => rw [hq] at k1; exact k1.elim
  | some l =>
    rw [hq] at k1
    simp only at k1
    obtain ⟨a, ys, rfl, hs', rs⟩ := seq_at L1 hy hq
    cases hk : keysL f l st1 with
    | bad => rw [hk] at k1; exact k1.elim
    | exn c fs st2 =>
      exfalso
      have : ∀ (l : List D) (st1 : Sto), keysL f l st1 ≠ .exn c fs st2 := by
        intro l
        induction l with
        | nil => intro st1 z; cases z
        | cons d l ih =>
          intro st1 z
          unfold keysL at z
          cases q : f [d] st1 with
          | bad => rw [q] at z; cases z
          | exn => rw [q] at z; cases z
          | ok x =>
            rw [q] at z
            simp only [Res.nx, Res.ok_bind] at z
            cases q2 : keysL f l x.2 with
            | bad => rw [q2] at z; cases z
            | ok => rw [q2] at z; cases z
            | exn c' fs' st' => rw [q2] at z; cases z; exact ih _ q2
      exact this _ _ hk
    | ok z =>
      rw [hk] at k1
      obtain ⟨ks, st2⟩ := z
      simp only [Res.ok_bind] at k1
      split at k1
      · rename_i hc
        rw [Bool.and_eq_true, decide_eq_true_eq] at hc
        exact ⟨G1.fgt, st1, st2, a, ys, l, ks, rfl, rfl, hs', Rs.mono .fgt rs, L1.fgt, hk, hc.1, hc.2, fun p zs' H' G' L' ev' hp hz => new_lstB L1 L' ev' hp hz (m := .bad) k1⟩
      · exact k1.elim
/-! ### sorted(range(n), key=f) -/
theorem cr_range1 : CallR X (.type "range") (fun vs H Q => ∃ n, vs = [V.int n] ∧ ∀ p, H p = none → Q (.ref p) (upd H p (.rng 0 n))) := by
  intro pins s σ H xs us Q I r h
  obtain ⟨n, rfl, q⟩ := h
  cases r with
  | cons ra rt =>
    cases rt
    obtain ⟨t, rfl⟩ := ra
    exact call_range_1 ⟨.ref s.heap.objs.size, upd H s.heap.objs.size (.rng 0 n), I.laid (t' := s.toks + 2) (fun b o e => Heap.get?_push_of_some _ e) (Nat.le_refl _) ⟨_, _, _, Heap.get?_push_size _ rfl⟩, rfl, q _ (I.hok.fresh (Nat.le_refl _))⟩
def rSortKR (F : Fx) (fa : Addr) (f : List D → Sto → Res (D × Sto)) : List V → List V → Hp → VK → Prop := fun vs zs H Q => ∃ G st st' a n ks, vs = [.ref a] ∧ zs = [.ref fa] ∧ H a = some (.rng 0 n) ∧ n < 1000000 ∧ -1000000 < n ∧ Rel F.noex G [] st [] H ∧
  keysL f (rngF 0 1 n.toNat) st = .ok (ks, st') ∧ D.sorts ks = true ∧ ∀ p zs' H' G', Rel F.noex G' [] st' [] H' → Evs G H G' H' → H' p = none → Rs F.W G' H' zs' (sortK ks (rngF 0 1 n.toNat)) → Q (.ref p) (upd H' p (.lst zs'))
theorem vals_rng {P : Int → Value → Prop} : ∀ (m : Nat) (lo : Int) (us : List Value), us.length = m → (∀ i v, us[i]? = some v → ∃ t : Tok, v = Value.int (lo + (i : Nat)) t) → Vals ((List.range m).map fun i : Nat => V.int (lo + (i : Nat))) us
  | 0, lo, [], _, _ => .nil
  | m + 1, lo, u :: us, hl, h => by
    rw [List.range_succ_eq_map, List.map_cons, List.map_map]
    refine .cons ?_ ?_
    · obtain ⟨t, e⟩ := h 0 u rfl
      rw [e]
      exact ⟨t, by simp⟩
    · have := vals_rng (P := P) m (lo + 1) us (by simpa using hl) fun i v hv => by
        obtain ⟨t, e⟩ := h (i + 1) v (by simpa using hv)
        refine ⟨t, ?_⟩
        rw [e]
        congr 1
        rw [Int.natCast_add, Int.add_comm (i : Int) ((1 : Nat) : Int), ← Int.add_assoc]
        rfl
      have e : ((fun i : Nat => V.int (lo + (i : Nat))) ∘ Nat.succ) = fun i : Nat => V.int (lo + 1 + (i : Nat)) := by
        funext i
        show V.int (lo + ((i + 1 : Nat) : Int)) = _
        rw [Int.natCast_add, Int.add_comm (i : Int) ((1 : Nat) : Int), ← Int.add_assoc]
        rfl
      rw [e]
      exact this
theorem cr_sortKR {k : Nat} {fa : Addr} {fd : FuncData} {ps : List Str} {f : List D → Sto → Res (D × Sto)} (FO : FnOk X.prog X.w X.K X.mg X.base CX0 k fa fd ps (spD F 1 f)) (hr : Room (k + 2) X.A) (hb : Binds X.K fd ps []) :
    CallRK X (.builtin "sorted") [Str.ofString "key"] (rSortKR F fa f) := by
  intro pins s σ H vs zs us ws Q I r rz h
  obtain ⟨G, st, st', a0, n, ks, rfl, rfl, hs, hn1, hn2, L, hk, hsort, q⟩ := h
  rw [Vals.ref1 r, Vals.ref1 rz]
  obtain ⟨t, u, v, hrng⟩ := I.hok a0 _ hs
  refine call_function_entry_kw kind_sorted plain_sorted entry_sorted (ksk_s1 _ _) ?_
  unfold Builtin.«sorted»
  refine wpAny_bind (m := checkCount "sorted" 1 1 _) (wpAny_pure ?_)
  refine wpAny_bind (collect_range (n := n.toNat) C.hd hrng (small_one (by omega) (by omega) (by omega) (by omega)) (by have := rangeSize_nat 0 n; rw [Int.sub_zero] at this; exact this) (by omega) fun h' tk acc hkp hit => ?_)
  have hal : acc.toList.length = n.toNat := by rw [Array.length_toList]; exact hit.1
  have hL : acc.toList.length ≤ sizeLine := by rw [hal, ← line_eq, line]; omega
  refine wpAny_bind (wpAny_newList ?_ hL)
  have I2 : Inv X pins σ H { s with heap := h', toks := tk } := I.kept hkp
  have ho1 : (h'.push (seqObj "list" acc.toList.toArray 0)).get? h'.objs.size = some (seqObj "list" acc.toList.toArray 0) := Heap.get?_push_size _ rfl
  refine wpAny_bind (wpAny_holding (wpAny_call_entry_kw slot_list_sort ⟨_, ho1, rfl⟩ entry_list_sort ?body (ksk_l1 _ _)))
  case body =>
    show wpAny (model X.prog X.w) X.A.in1.in1 (Builtin.«list.sort» ⟨[.ref h'.objs.size], [(Str.ofString "key", .ref fa)]⟩) _ _ _
    have rv : Vals ((List.range n.toNat).map fun i : Nat => V.int (0 + (i : Nat))) acc.toList := vals_rng (P := fun _ _ => True) _ 0 _ hal fun i v hv => by
      obtain ⟨t, e⟩ := hit.2 i v (by rw [← Array.getElem?_toList]; exact hv)
      exact ⟨t, by rw [e, Int.mul_one]⟩
    have rs : Rs F.W G H ((List.range n.toNat).map fun i : Nat => V.int (0 + (i : Nat))) (rngF 0 1 n.toNat) := by
      have := rgV_at (W := F.W) (G := G) (H := H) n
      unfold rgV at this
      rw [Int.sub_zero] at this
      exact this
    refine wpAny_mono (sort_body FO hr hb (I2.kept (t' := tk) fun b o e => Heap.get?_push_of_some _ e) (I2.fpOk (Nat.le_refl _) (I2.hok.fresh (Nat.le_refl _))) ho1 rs rv L hk hsort (by rw [rngF_length, line]; omega) q) (fun f s' hf => ?_) fun _ _ e => e.elim
    obtain ⟨rfl, hq⟩ := hf
    exact ⟨_, rfl, wpAny_pure ⟨_, rfl, hq⟩⟩
/-- sorted(range(n), key=f) -/
def sSortKR (f : List D → Sto → Res (D × Sto)) (a : Ex) : Ex := fun r st => (a r st).bind fun x => match x.1 with
  | .int n => if decide (n < 1000000) && decide (-1000000 < n) then (keysL f (rngF 0 1 n.toNat) x.2).bind fun y => if D.sorts y.1 then .ok (.lst (sortK y.1 (rngF 0 1 n.toNat)), y.2) else .bad else .bad
  | _ => .bad
theorem keysL_noexn {f : List D → Sto → Res (D × Sto)} {c : Nat} {fs : List D} {st2 : Sto} : ∀ (l : List D) (st1 : Sto), keysL f l st1 ≠ .exn c fs st2 := by
  intro l
  induction l with
  | nil => intro st1 z; cases z
  | cons d l ih =>
    intro st1 z
    unfold keysL at z
    cases q : f [d] st1 with
    | bad => rw [q] at z; cases z
    | exn => rw [q] at z; cases z
    | ok x =>
      rw [q] at z
      simp only [Res.nx, Res.ok_bind] at z
      cases q2 : keysL f l x.2 with
      | bad => rw [q2] at z; cases z
      | ok => rw [q2] at z; cases z
      | exn c' fs' st' => rw [q2] at z; cases z; exact ih _ q2
theorem ve_sortKR {f : List D → Sto → Res (D × Sto)} {k j : Nat} {p2 pos2 : Pos} (d : DefOk X.prog X.w X.K X.mg X.base Tb x 1 f k) (hr : Room j X.A) (hg : Gl X "sorted") (hm : X.mg "sorted" = none) (hg2 : Gl X "range") (hm2 : X.mg "range" = none) (he : PE X e (tV F false φ)) (hT : F.Tb = Tb := by rfl) (hgx : Gl X x := by rfl) (hkj : k + 2 ≤ j := by omega)
    (hdb : (x == ("__debug__" : Str)) = false := by decide) (hs0 : starEach [e] X.env = (false, eval e X.env) :: starEach [] X.env := by rfl) (hpl0 : (backTo pos2 (starEach [] X.env)).any (·.1) = false := by rfl)
    (hs : starEach [.Call (.Name "range" p2) [e] [] pos2] X.env = (false, eval (.Call (.Name "range" p2) [e] [] pos2) X.env) :: starEach [] X.env := by rfl) (he1 : backTo pos (starEach [.Call (.Name "range" p2) [e] [] pos2] X.env) = (false, eval (.Call (.Name "range" p2) [e] [] pos2) X.env) :: backTo pos (starEach [] X.env) := by rfl) (hpl : (backTo pos (starEach [.Call (.Name "range" p2) [e] [] pos2] X.env)).any (·.1) = false := by rfl)
    (hall : (backToKw pos (keywordEach [⟨some "key", .Name x pk, pkk⟩] X.env)).all (·.1.isSome) = true := by rfl) (hnone : (backToKw pos (keywordEach [⟨some "key", .Name x pk, pkk⟩] X.env)).any (·.1.isNone) = false := by rfl) (hks : (backToKw pos (keywordEach [⟨some "key", .Name x pk, pkk⟩] X.env)).filterMap (·.1) = [Str.ofString "key"] := by rfl) :
    PE X (.Call (.Name "sorted" pp) [.Call (.Name "range" p2) [e] [] pos2] [⟨some "key", .Name x pk, pkk⟩] pos) (tD F false (sSortKR f φ)) := by
  obtain ⟨fa, fd, ps, h1, h2, h3, h4⟩ := d.ok
  refine (pe_callBK (cr_sortKR (FO_of hT h1) (hr.mono hkj) h4) hg hm rfl (pa_cons (pe_callTy cr_range1 hg2 hm2 rfl (pa_cons he pa_nil hs0) (by decide) (by decide) hs0 hpl0) pa_nil hs) (pk_cons (pe_glob (v := .ref fa) hgx h2 rfl hdb) pk_nil) (by decide) (by decide) he1 hpl hall hnone hks).mimp fun σ H Q ⟨G, r, st, L, k⟩ => ?_
  refine ⟨G, r, st, L, postV_bind k fun y v H1 G1 e1 L1 ev1 hy k1 => ?_⟩
  obtain ⟨dy, st1⟩ := y
  cases dy <;> (try (exact k1.elim))
  rename_i n
  obtain rfl := hy.int
  simp only at k1
  split at k1
  · rename_i hn
    rw [Bool.and_eq_true, decide_eq_true_eq, decide_eq_true_eq] at hn
    refine ⟨n, rfl, fun p hp => ?_⟩
    cases hk : keysL f (rngF 0 1 n.toNat) st1 with
    | bad => rw [hk] at k1; exact k1.elim
    | exn c fs st2 => exact absurd hk (keysL_noexn _ _)
    | ok z =>
      rw [hk] at k1
      obtain ⟨ks, st2⟩ := z
      simp only [Res.ok_bind] at k1
      split at k1
      · rename_i hc
        have L1' := L1.lay (o := .rng 0 n) hp
        exact ⟨G1.fgt, st1, st2, p, n, ks, rfl, rfl, upd_same, hn.1, hn.2, L1'.fgt, hk, hc, fun p' zs' H' G' L' ev' hp' hz => new_lstB L1' L' ev' hp' hz (m := .bad) (Post.adv k1 (Ev.lay hp))⟩
      · exact k1.elim
  · exact k1.elim
end
end Mg
end
/-! ## DMore2 -/
section
set_option Elab.async false
set_option linter.all false
set_option maxRecDepth 100000
set_option maxHeartbeats 2500000
/-! The data layer: range with a step. -/
namespace Mg
open PySem PySem.Spec PyProof.Rows L2 GxR PySem.W PySem.Calls
/-- range(i, j, c) -/
def rng3 (i j c : Int) : Option (List D) :=
  if okEnd i && okEnd j then
    if 0 < c ∧ c < 1000000 then some (rngF i c (if i < j then ((j - i - 1) / c + 1).toNat else 0))
    else if c = -1 then some (rngF i (-1) (i - j).toNat) else none
  else none
def wRng3 (a b c : Ex) : Wk := fun r st => (a r st).bind fun x => (b r x.2).bind fun y => (c r y.2).bind fun z => match x.1, y.1, z.1 with
  | .int i, .int j, .int k => (Res.of (rng3 i j k)).bind fun l => .ok (l, z.2)
  | _, _, _ => .bad
end Mg
end
/-! ## DComp2 -/
section
set_option Elab.async false
set_option linter.all false
set_option maxRecDepth 100000
set_option maxHeartbeats 2500000
/-! The data layer: comprehensions of two clauses. -/
namespace Mg
open PySem PySem.Spec PyProof.Rows L2 GxR
section
variable {F : Fx} {p : Bool}
/-- an address's role is taken back -/
def Gh.un (G : Gh) (a : Addr) : Gh := { G with rl := fun x => if x = a then none else G.rl x }
theorem Gh.un_ne {G : Gh} {a x : Addr} (h : x ≠ a) : (G.un a).rl x = G.rl x := by simp [Gh.un, h]
theorem Gh.un_same {G : Gh} {a : Addr} : (G.un a).rl a = none := by simp [Gh.un]
section
variable {G G' : Gh} {H H' : Hp} {a : Addr} {k : Nat} {r : Env} {st : Sto} {σ : L2.St} {xs ys : List V}
theorem St1.un (h : G.rl a = some (.sl k)) : St1 G H (G.un a) H :=
  ⟨fun _ _ e => e, fun _ _ _ e => e, fun _ _ _ e _ => e, fun x e => by
    rw [Gh.un_ne fun z => by rw [z, h] at e; cases e]; exact e, Nat.le_refl _, fun _ _ => rfl, fun _ e => e⟩
theorem Rel.un (L : Rel F G r st σ H) (h : G.rl a = some (.sl k)) (hk : r.length ≤ k) : Rel F (G.un a) r st σ H := by
  have s := St1.un (H := H) h
  refine ⟨L.len, fun i d e ho => ?_, fun i d e => ?_, L.nb, fun n b e => ?_, s.tbs L.tb (fun _ _ e => e), fun x q e => ?_⟩
  · obtain ⟨v, h1, h2⟩ := L.vl i d e ho
    exact ⟨v, h1, R.mono s h2⟩
  · obtain ⟨x, h1, h2, h3⟩ := L.ow i d e
    have hi : i < r.length := (List.getElem?_eq_some_iff.mp e).1
    exact ⟨x, h1, by rw [Gh.un_ne fun z => by rw [z, h] at h2; cases h2; omega]; exact h2, h3.mono s fun _ e _ => e⟩
  · obtain ⟨h1, h2⟩ := L.bx n b e
    exact ⟨by rw [Gh.un_ne (x := (G.un a).bx n) fun z => by rw [show (G.un a).bx n = G.bx n from rfl] at z; rw [z, h] at h1; cases h1]; exact h1, h2.mono s (fun _ e _ => e) fun y j o hy e _ => ⟨e, by rw [Gh.un_ne fun z => by rw [z, h] at hy; cases hy]; exact hy⟩⟩
  · by_cases hx : x = a
    · subst hx; rw [Gh.un_same] at e; cases e
    · rw [Gh.un_ne hx] at e; exact L.on x q e
theorem Ev.un (e : Ev p G H G' H') (h : G'.rl a = some (.sl k)) (h0 : H a = none) : Ev p G H (G'.un a) H' :=
  ⟨e.s1.trans (.un h), fun x o q1 q2 ho nt => let ⟨k1, k2⟩ := e.sl x o q1 q2 ho nt; ⟨k1, by rw [Gh.un_ne fun z => by rw [z, h0] at ho; cases ho]; exact k2⟩,
    fun z x o ho nt => let ⟨k1, k2⟩ := e.eq z x o ho nt; ⟨k1, by rw [Gh.un_ne fun z => by rw [z, h0] at ho; cases ho]; exact k2⟩⟩
theorem Ev.give2 {q : Role} (e : Ev p G H G' H') (h : G'.rl a = none) (h0 : H a = none) : Ev p G H (G'.give a q) H' :=
  ⟨e.s1.trans (.give h), fun x o q1 q2 ho nt => let ⟨k1, k2⟩ := e.sl x o q1 q2 ho nt; ⟨k1, by rw [Gh.give_ne fun z => by rw [z, h0] at ho; cases ho]; exact k2⟩,
    fun z x o ho nt => let ⟨k1, k2⟩ := e.eq z x o ho nt; ⟨k1, by rw [Gh.give_ne fun z => by rw [z, h0] at ho; cases ho]; exact k2⟩⟩
/-- a list with a slot's role that no slot has is changed -/
theorem St1.wrS (h : H a = some (.lst xs)) (hr : G.rl a = some (.sl k)) : St1 G H G (upd H a (.lst ys)) :=
  ⟨fun x zs e => by rw [upd_ne (fun z => by rw [z, h] at e; cases e)]; exact e, fun x o u e => by rw [upd_ne (fun z => by rw [z, h] at e; cases e)]; exact e,
    fun x o e ho _ => by rw [upd_ne (fun z => by rw [z, hr] at e; cases e)]; exact ho, fun _ e => e, Nat.le_refl _, fun _ _ => rfl, fun x e => by
      by_cases hx : x = a
      · subst hx; rw [upd_same]; simp
      · rw [upd_ne hx]; exact e⟩
theorem Rel.wrS (L : Rel F G r st σ H) (h : H a = some (.lst xs)) (hr : G.rl a = some (.sl k)) (hk : r.length ≤ k) : Rel F G r st σ (upd H a (.lst ys)) := by
  have s := St1.wrS (ys := ys) h hr
  refine ⟨L.len, fun i d e ho => ?_, fun i d e => ?_, L.nb, fun n b e => ?_, ?_, fun a q e => s.up a (L.on a q e)⟩
  · obtain ⟨v, h1, h2⟩ := L.vl i d e ho
    exact ⟨v, h1, R.mono s h2⟩
  · obtain ⟨x, h1, h2, h3⟩ := L.ow i d e
    have hi : i < r.length := (List.getElem?_eq_some_iff.mp e).1
    exact ⟨x, h1, h2, h3.mono s fun o e _ => by rw [upd_ne (fun z => by rw [z, hr] at h2; cases h2; omega)]; exact e⟩
  · obtain ⟨h1, h2⟩ := L.bx n b e
    exact ⟨h1, h2.mono s (fun o e _ => by rw [upd_ne (fun z => by rw [z, hr] at h1; cases h1)]; exact e) fun y j o hy e _ => ⟨by rw [upd_ne (fun z => by rw [z, hr] at hy; cases hy)]; exact e, hy⟩⟩
  · exact s.tbs L.tb fun P ps e => by rw [upd_ne (fun z => by rw [z, h] at e; cases e)]; exact e
theorem Ev.wrS (e : Ev p G H G' H') (h0 : H a = none) (h : H' a = some (.lst xs)) (hr : G'.rl a = some (.sl k)) : Ev p G H G' (upd H' a (.lst ys)) :=
  ⟨e.s1.trans (.wrS h hr), fun x o q1 q2 ha nt => let ⟨k1, k2⟩ := e.sl x o q1 q2 ha nt; ⟨by rw [upd_ne (fun z => by rw [z, h0] at ha; cases ha)]; exact k1, k2⟩,
    fun z x o ha nt => let ⟨k1, k2⟩ := e.eq z x o ha nt; ⟨by rw [upd_ne (fun z => by rw [z, h0] at ha; cases ha)]; exact k1, k2⟩⟩
theorem Evs.wrS (e : Evs G H G' H') (h0 : G.rl a ≠ none) (h : H' a = some (.lst xs)) (hr : G'.rl a = some (.sl k)) : Evs G H G' (upd H' a (.lst ys)) :=
  ⟨e.s1.trans (.wrS h hr), fun x o q ha nt => let ⟨k1, k2⟩ := e.no x o q ha nt; ⟨by rw [upd_ne (fun z => by rw [z] at q; exact h0 q)]; exact k1, k2⟩⟩
end
theorem lc2_ok {t t2 : Tg} {w w2 : Wk} {c1 c : Tst} {e : Ex} {g g1 : TG} {vs vs1 : List Nat} {σ : L2.St} {H : Hp} {Q : VK}
    (hg : ∀ {G : Gh} {r r' : Env} {st : Sto} {σ : L2.St} {H : Hp} {x : V} {d : D} {Q : L2.St → Hp → Prop}, Rel F.noex G r st σ H → R F.W G H x d → t.bind d r = some r' →
      (∀ σ', Rel F.noex G r' st σ' H → σ'.length = σ.length → (∀ i, i ∉ t.ixs → σ'[i]? = σ[i]?) → Q σ' H) → g x σ H Q) (hv : ∀ i ∈ t.ixs, i ∈ vs)
    (hg1 : ∀ {G : Gh} {r r' : Env} {st : Sto} {σ : L2.St} {H : Hp} {x : V} {d : D} {Q : L2.St → Hp → Prop}, Rel F.noex G r st σ H → R F.W G H x d → t2.bind d r = some r' →
      (∀ σ', Rel F.noex G r' st σ' H → σ'.length = σ.length → (∀ i, i ∉ t2.ixs → σ'[i]? = σ[i]?) → Q σ' H) → g1 x σ H Q) (hv1 : ∀ i ∈ t2.ixs, i ∈ vs1)
    (h : tF F p (sComp2 vs t w c1 vs1 t2 w2 c e) σ H Q) : tLc2 (tI F p (some p) w) g (tT F.noex p c1) (tI F.noex p none w2) g1 (tT F.noex p c) (tD F.noex p e) vs vs1 σ H Q := by
  obtain ⟨G, r, st, L, k⟩ := h
  refine ⟨G, r, st, L, ?_⟩
  unfold sComp2 at k
  revert k
  generalize w r st = m
  intro k
  cases m with
  | bad => exact k
  | exn cc fs st' => exact k
  | ok x =>
    obtain ⟨ds, st1⟩ := x
    intro J H1 G1 L1 ev1 wk D hD
    simp only [Res.ok_bind] at k
    have k1 := PostF.adv k ev1
    refine ⟨fun i m H' => m = ds.length - i ∧ i ≤ ds.length ∧ ∃ (G' : Gh) (st' : Sto) (acc : List V) (dacc : List Mg.D), Rel F G' r st' σ H' ∧ Ev p G1 H1 G' H' ∧ H' D = some (.lst acc) ∧ G'.rl D = none ∧ Rs F.W G' H' acc dacc ∧
      PostF F p r σ G1 H1 ((compL2 t c1 w2 vs1 t2 c e (wipeE r vs) dacc (ds.drop i) st').bind fun y => .ok (.lst y.1, y.2)) Q, ⟨_, rfl, Nat.zero_le _, G1, st1, [], [], L1.lay hD, Ev.lay hD, upd_same, L1.noRole hD, .nil, k1⟩, ?_⟩
    rintro i m H' ⟨rfl, hi, G', st', acc, dacc, L', ev', hH, hr, hrs, k'⟩
    obtain ⟨wgo, wstop⟩ := wk G' H' ev'
    by_cases hlt : i < ds.length
    · rw [mem_of_drop hlt, compL2] at k'
      obtain ⟨go, yl⟩ := wgo i ds[i] (by simp [hlt])
      refine .inr ⟨go, fun H2 => ∃ (G' : Gh) (st' : Sto) (acc : List V) (dacc : List Mg.D), Rel F G' r st' σ H2 ∧ Ev p G1 H1 G' H2 ∧ H2 D = some (.lst acc) ∧ G'.rl D = none ∧ Rs F.W G' H2 acc dacc ∧
        PostF F p r σ G1 H1 ((compL2 t c1 w2 vs1 t2 c e (wipeE r vs) dacc (ds.drop (i + 1)) st').bind fun y => .ok (.lst y.1, y.2)) Q, fun H2 h2 => ⟨_, (by omega : ds.length - (i + 1) < ds.length - i), rfl, hlt, h2⟩, fun x H2 hy => ?_⟩
      obtain ⟨y1, hx⟩ := yl x H2 hy
      obtain ⟨L2, ev2, kp⟩ := yld_ok (p := p) L' y1
      cases hb : t.bind ds[i] (wipeE r vs) with
      | none => rw [hb] at k'; exact k'.elim
      | some r' =>
        rw [hb] at k'
        simp only at k'
        refine hg (L2.wipe vs).noex hx hb fun σ2 L3 hl3 hs3 => ⟨?_, G', r', st', L3, ?_⟩
        · rw [wipe_eq (σ := wipe σ vs) hl3 fun j hj => hs3 j fun z => hj (hv j z), wipe_wipe]
        · revert k'
          generalize c1 r' st' = m
          intro k'
          cases m with
          | bad => exact k'
          | exn cc fs st2 => exact k'.elim
          | ok b =>
            intro H3 G3 L4 ev3
            have ev13 := (ev'.trans ev2).trans ev3
            have L5 := L2.back ev3 L4.exn
            have hH3 := ev3.sl D _ (fun n => by rw [hr]; simp) (fun n i => by rw [hr]; simp) (kp _ _ hH) (fun _ z => nomatch z)
            have hrs3 := Rs.mono (ev2.s1.trans ev3.s1) hrs
            obtain ⟨b, st2⟩ := b
            cases b with
            | false =>
              exact ⟨G3, st2, acc, dacc, L5, ev13, hH3.1, hH3.2.trans hr, hrs3, k'⟩
            | true =>
              rw [if_pos rfl]
              have hr3 : G3.rl D = none := hH3.2.trans hr
              have hD3 : H3 D ≠ none := by rw [hH3.1]; simp
              generalize hkk : r.length + r'.length = kk
              have hk1 : r.length ≤ kk := by omega
              have hk2 : r'.length ≤ kk := by omega
              refine ⟨G3.give D (.sl kk), r', st2, L4.give hr3 hD3, ?_⟩
              simp only [Res.nx, Res.ok_bind, if_true] at k'
              revert k'
              generalize w2 r' st2 = m
              intro k'
              cases m with
              | bad => exact k'
              | exn cc fs st2 => exact k'.elim
              | ok y =>
                obtain ⟨ds1, st3⟩ := y
                intro J1 H4 G4 L6 ev4 wk1
                simp only [Res.nx, Res.ok_bind] at k'
                have hH4 := ev4.sl D _ (fun n => by rw [Gh.give_same]; simp) (fun n i => by rw [Gh.give_same]; simp) hH3.1 (fun _ z => nomatch z)
                have hr4 : G4.rl D = some (.sl kk) := hH4.2.trans Gh.give_same
                have hrs4 := Rs.mono ev4.s1 (Rs.mono (.give hr3) hrs3)
                have L7 := (L5.give (q := .sl kk) hr3 hD3).back ev4 L6.exn
                have ev14 := (Ev.give2 (q := .sl kk) ev13 hr3 hD).trans ev4
                refine ⟨fun j m H' => m = ds1.length - j ∧ j ≤ ds1.length ∧ ∃ (G' : Gh) (st' : Sto) (acc : List V) (dacc : List Mg.D), Rel F G' r st' σ H' ∧ Rel F.noex G' r' st' σ2 H' ∧ Ev p G1 H1 G' H' ∧ Evs G4 H4 G' H' ∧ H' D = some (.lst acc) ∧ G'.rl D = some (.sl kk) ∧ Rs F.W G' H' acc dacc ∧
                  PostF F p r σ G1 H1 (((compL t2 c e (wipeE r' vs1) dacc (ds1.drop j) st').bind fun y => compL2 t c1 w2 vs1 t2 c e (wipeE r vs) y.1 (ds.drop (i + 1)) y.2).bind fun y => .ok (.lst y.1, y.2)) Q, ⟨_, rfl, Nat.zero_le _, G4, st3, acc, dacc, L7, L6, ev14, .refl, hH4.1, hr4, hrs4, k'⟩, ?_⟩
                rintro j m H' ⟨rfl, hj, G', st', acc, dacc, M', M2, ev', evi, hH, hr, hrs, k'⟩
                obtain ⟨wgo, wstop⟩ := wk1 G' H' evi
                by_cases hlt1 : j < ds1.length
                · rw [mem_of_drop hlt1, compL] at k'
                  obtain ⟨go, yl⟩ := wgo j ds1[j] (by simp [hlt1])
                  refine .inr ⟨go, fun H2 => ∃ (G' : Gh) (st' : Sto) (acc : List V) (dacc : List Mg.D), Rel F G' r st' σ H2 ∧ Rel F.noex G' r' st' σ2 H2 ∧ Ev p G1 H1 G' H2 ∧ Evs G4 H4 G' H2 ∧ H2 D = some (.lst acc) ∧ G'.rl D = some (.sl kk) ∧ Rs F.W G' H2 acc dacc ∧
                    PostF F p r σ G1 H1 (((compL t2 c e (wipeE r' vs1) dacc (ds1.drop (j + 1)) st').bind fun y => compL2 t c1 w2 vs1 t2 c e (wipeE r vs) y.1 (ds.drop (i + 1)) y.2).bind fun y => .ok (.lst y.1, y.2)) Q, fun H2 h2 => ⟨_, (by omega : ds1.length - (j + 1) < ds1.length - j), rfl, hlt1, h2⟩, fun x H2 hy => ?_⟩
                  obtain ⟨y1, hx⟩ := yl x H2 hy
                  obtain ⟨N1, ev2, kp⟩ := yld_ok (p := p) M' y1
                  obtain ⟨N2, ev2', _⟩ := yld_ok (p := p) M2 y1
                  cases hb : t2.bind ds1[j] (wipeE r' vs1) with
                  | none => rw [hb] at k'; exact k'.elim
                  | some r2 =>
                    rw [hb] at k'
                    simp only at k'
                    refine hg1 (N2.wipe vs1).noex hx hb fun σ3 L3 hl3 hs3 => ⟨?_, G', r2, st', L3, ?_⟩
                    · rw [wipe_eq (σ := wipe σ2 vs1) hl3 fun j hj => hs3 j fun z => hj (hv1 j z), wipe_wipe]
                    · revert k'
                      generalize c r2 st' = m
                      intro k'
                      cases m with
                      | bad => exact k'
                      | exn cc fs st2 => exact k'.elim
                      | ok b =>
                        intro H3 G3 L4 ev3
                        have ev13 := (ev'.trans ev2).trans ev3
                        have evi3 := (evi.trans ev2.evs).trans ev3.evs
                        have O1 := N1.back ev3 L4.exn
                        have O2 := N2.back ev3 L4
                        have hH3 := ev3.sl D _ (fun n => by rw [hr]; simp) (fun n i => by rw [hr]; simp) (kp _ _ hH) (fun _ z => nomatch z)
                        have hrs3 := Rs.mono (ev2.s1.trans ev3.s1) hrs
                        obtain ⟨b, st2⟩ := b
                        cases b with
                        | false =>
                          exact ⟨G3, st2, acc, dacc, O1, O2, ev13, evi3, hH3.1, hH3.2.trans hr, hrs3, k'⟩
                        | true =>
                          rw [if_pos rfl]
                          refine ⟨G3, r2, st2, L4, ?_⟩
                          simp only [Res.nx, Res.ok_bind, if_true] at k'
                          revert k'
                          generalize e r2 st2 = m
                          intro k'
                          cases m with
                          | bad => exact k'
                          | exn cc fs st2 => exact k'.elim
                          | ok y =>
                            intro v H5 G5 L8 ev5 hvv
                            have hH5 := ev5.sl D _ (fun n => by rw [hH3.2, hr]; simp) (fun n i => by rw [hH3.2, hr]; simp) hH3.1 (fun _ z => nomatch z)
                            have hr5 := hH5.2.trans (hH3.2.trans hr)
                            have hrs5 := Rs.mono ev5.s1 hrs3
                            have P1 := O1.back ev5 L8.exn
                            have P2 := O2.back ev5 L8
                            simp only [Res.nx, Res.ok_bind] at k'
                            split at k'
                            · rename_i hz
                              refine ⟨acc, hH5.1, by rw [hrs5.length, ← line_eq]; exact hz, G5, y.2, _, _, P1.wrS hH5.1 hr5 hk1, P2.wrS hH5.1 hr5 hk2, (ev13.trans ev5).wrS hD hH5.1 hr5, (evi3.trans ev5.evs).wrS (by rw [hr4]; simp) hH5.1 hr5, upd_same, hr5, Rs.mono (.wrS hH5.1 hr5) (hrs5.append (.cons hvv .nil)), k'⟩
                            · exact k'.elim
                · have : j = ds1.length := by omega
                  subst this
                  refine .inl ⟨wstop, G'.un D, st', acc, dacc, M'.un hr hk1, ev'.un hr hD, hH, Gh.un_same, Rs.mono (.un hr) hrs, ?_⟩
                  rw [List.drop_length, compL] at k'
                  exact k'
    · have : i = ds.length := by omega
      subst this
      refine .inl ⟨wstop, ?_⟩
      rw [List.drop_length, compL2] at k'
      exact k' D H' G' L' ev' hD hr ⟨_, hH, .lst hrs⟩
end
theorem sComp2_lst {vs : List Nat} {t : Tg} {w : Wk} {c1 : Tst} {vs1 : List Nat} {t2 : Tg} {w2 : Wk} {c : Tst} {e : Ex} {r : Env} {st : Sto} {x : D × Sto} (h : sComp2 vs t w c1 vs1 t2 w2 c e r st = .ok x) : x.1.isDic = false := by
  unfold sComp2 at h
  cases q : w r st with
  | bad => rw [q] at h; cases h
  | exn => rw [q] at h; cases h
  | ok y =>
    rw [q] at h
    simp only [Res.ok_bind] at h
    cases q2 : compL2 t c1 w2 vs1 t2 c e (wipeE r vs) [] y.1 y.2 with
    | bad => rw [q2] at h; cases h
    | exn => rw [q2] at h; cases h
    | ok z => rw [q2] at h; cases h; rfl
section
variable {F : Fx} {X : Cx} [C : Ctx F X] {p : Bool} {elt tg iter tg1 iter1 : Expr} {scope : Scope} {own : List (Str × Nat)} {pos spos py : Pos} {g g1 : TG} {t t2 : Tg} {w w2 : Wk} {c1 c : Tst} {φ : Ex} {ifs ifs1 : List Expr} {vs1 : List Nat}
theorem ds_asgLc2 [E : Fr0 F] {i : Nat} {y : Str} {py : Pos} (hN : X.N.Nodup) (hi : PI X tg iter (tI F false (some false) w)) (ok : BlkOk X.N X.env.scope scope own)
    (hg : ∀ (s : Shared) (H : Hp) (C : Addr) (cl : List (Str × Addr)) (fp : List Addr), DG F.noex (X.blk s H scope (compEnvC scope cl C X.env) fp) tg g t) (ht : ∀ (s : Shared) (H : Hp) (C : Addr) (cl : List (Str × Addr)) (fp : List Addr), PTs (X.blk s H scope (compEnvC scope cl C X.env) fp) ifs (tT F.noex false c1))
    (hi1 : ∀ (s : Shared) (H : Hp) (C : Addr) (cl : List (Str × Addr)) (fp : List Addr), PI (X.blk s H scope (compEnvC scope cl C X.env) fp) tg1 iter1 (tI F.noex false none w2))
    (hg1 : ∀ (s : Shared) (H : Hp) (C : Addr) (cl : List (Str × Addr)) (fp : List Addr), DG F.noex (X.blk s H scope (compEnvC scope cl C X.env) fp) tg1 g1 t2) (ht1 : ∀ (s : Shared) (H : Hp) (C : Addr) (cl : List (Str × Addr)) (fp : List Addr), PTs (X.blk s H scope (compEnvC scope cl C X.env) fp) ifs1 (tT F.noex false c))
    (he : ∀ (s : Shared) (H : Hp) (C : Addr) (cl : List (Str × Addr)) (fp : List Addr), PE (X.blk s H scope (compEnvC scope cl C X.env) fp) elt (tD F.noex false φ)) (hy : X.N[i]? = some y := by rfl) (hyl : X.env.scope.names.lookup y = some .local := by rfl)
    (hsw : swapsWith (.ListComp elt [⟨tg, iter, ifs, 0⟩, ⟨tg1, iter1, ifs1, 0⟩] scope pos) (some (.Name y py)) spos.line X.env = pure true := by rfl) (hv : ∀ i ∈ t.ixs, i ∈ own.map (·.2) := by decide) (hv1 : ∀ i ∈ t2.ixs, i ∈ vs1 := by decide) (hv2 : ∀ i ∈ vs1, i ∈ own.map (·.2) := by decide) (hs : ∀ x, foldedSetIterable iter X.env x = pure x := by intro _; rfl) (hs1 : ∀ env x, foldedSetIterable iter1 env x = pure x := by intro _ _; rfl) :
    PS X (.Assign [.Name y py] (.ListComp elt [⟨tg, iter, ifs, 0⟩, ⟨tg1, iter1, ifs1, 0⟩] scope pos) spos) (tS F (stAsg (.nm i) (sComp2 (own.map (·.2)) t w c1 vs1 t2 w2 c φ))) :=
  (ps_setLc2 C.calm hN hy hyl hsw hi ok hv2 (fun s H C cl fp => (hg s H C cl fp).pg) ht hi1 (fun s H C cl fp => (hg1 s H C cl fp).pg) ht1 he hs hs1).mimp fun D σ H ⟨G, r, st, L, k⟩ => by
    refine lc2_ok (fun L h1 h2 h3 => (hg X.s_0 H 0 [] []).ok L h1 h2 h3) hv (fun L h1 h2 h3 => (hg1 X.s_0 H 0 [] []).ok L h1 h2 h3) hv1 ⟨G, r, st, L, ?_⟩
    have k2 : Post F false r σ G H (sComp2 (own.map (·.2)) t w c1 vs1 t2 w2 c φ r st) fun x H1 => D.nx (σ.set i (some x)) H1 :=
      postS_of E.fr k fun x v H' G' _ L' _ hv k' => k' _ H' G' (L'.set hv) .refl
    have hl := fun x => sComp2_lst (vs := own.map (·.2)) (t := t) (w := w) (c1 := c1) (vs1 := vs1) (t2 := t2) (w2 := w2) (c := c) (e := φ) (r := r) (st := st) (x := x)
    revert k2 hl
    generalize sComp2 (own.map (·.2)) t w c1 vs1 t2 w2 c φ r st = m
    intro k2 hl
    cases m with
    | bad => exact k2
    | exn c fs st' => exact k2
    | ok x => exact fun a H' G' L' ev hn hr ha => fresh_fz (Q := fun x H1 => gName i x σ H1 D.nx) L' ev hn hr ha (hl x rfl) k2
end
end Mg
end
/-! ## DRep -/
section
set_option Elab.async false
set_option linter.all false
set_option maxRecDepth 100000
set_option maxHeartbeats 2500000
/-! The data layer: lists and tuples so often. -/
namespace Mg
open PySem PySem.Spec PyProof.Rows L2 GxR PySem.W PySem.Calls
def opRep : D → D → Option D
  | .lst l, .int k => if -1000000 ≤ k ∧ k ≤ 1000000 ∧ l.length * k.toNat ≤ 1000000 then some (.lst (List.replicate k.toNat l).flatten) else none
  | .tup l, .int k => if 1 ≤ k ∧ k ≤ 1000 ∧ l.length ≤ 1000 ∧ l.isEmpty = false then some (.tup (List.replicate k.toNat l).flatten) else none
  | _, _ => none
theorem rmul_list (a : Int) (t : Tok) (l : Addr) (items : Array Value) (n : Nat) (dd : Option Addr) (sl : Array (Option Value)) :
    Meets (Builtin.«int.__rmul__» ⟨[.int a t, .ref l], []⟩) (fun _ R s => s.heap.get? l = some { cls := .type "list", dict := dd, data := .seq items n, slots := sl } ∧ R (.ok (.ret Value.notImplemented)) s) :=
  .of_wp fun prog w A R ⟨hp, g, d, tk, os⟩ ⟨at_, fin⟩ => by (wp_walk using wpAny_loadPart' at_); exact ⟨_, rfl, fin⟩
/-- k may be an index, and so many items are no long list -/
structure RepRoom (m : Nat) (k : Int) : Prop where
  fits : Builtin.List.listFitsIndex k = true
  cap : m * k.toNat ≤ (2 ^ 63 - 1) / 8
  short : Builtin.List.listTooLong (m * k.toNat) = false
  line : m * k.toNat ≤ sizeLine
theorem rep_room {m : Nat} {k : Int} (lo : -1000000 ≤ k) (hi : k ≤ 1000000) (h : m * k.toNat ≤ 1000000) : RepRoom m k := by
  have z : m * k.toNat ≤ sizeLine := by rw [sizeLine_eq]; exact Nat.le_trans h (by decide)
  exact ⟨fitsIndex_both (by omega) (by omega), Nat.le_trans h (by decide), notLongL z, z⟩
/-- the items of a list, k times -/
theorem rep_items (its : List Value) (m : Nat) : List.foldl (fun x1 x2 => x1 ++ x2) #[] (List.replicate (if its.toArray.isEmpty = true then 0 else m) its.toArray) = (List.replicate m its).flatten.toArray := by
  rw [size_rep]
  by_cases q : its = []
  · subst q
    simp
  · have : its.toArray.isEmpty = false := by simpa using q
    simp [this]
theorem mul_list (l : Addr) (items new : Array Value) (n : Nat) (dd : Option Addr) (sl : Array (Option Value)) (x : Int) (u : Tok) (M : RepRoom items.size x)
    (whole : List.foldl (fun x1 x2 => x1 ++ x2) #[] (List.replicate (if items.isEmpty = true then 0 else x.toNat) items) = new) (long : new.size ≤ sizeLine) :
    Meets (Builtin.«list.__mul__» ⟨[.ref l, .int x u], []⟩) (fun _ R s => s.heap.get? l = some { cls := .type "list", dict := dd, data := .seq items n, slots := sl } ∧
      R (.ok (.ret (Value.ref s.heap.objs.size))) { s with heap := s.heap.push { cls := Value.type "list", data := Data.seq new }, toks := s.toks }) :=
  .of_wp fun prog w A R ⟨hp, g, d, tk, os⟩ ⟨at_, fin⟩ => by
    have c0 : ¬(!Builtin.List.listFitsIndex x) = true := by rw [M.fits]; decide
    have c1 : ¬items.size * x.toNat > (2 ^ 63 - 1) / 8 := Nat.not_lt.mpr M.cap
    have c2 : ¬Builtin.List.listTooLong (items.size * x.toNat) = true := by rw [M.short]; decide
    subst whole
    wp_walk using wpAny_loadPart' at_; refine wpAny_ite_false (decide_eq_false (Nat.not_lt.mpr long)) ?_; wp_walk
    exact ⟨_, rfl, fin⟩
theorem mul_tup1 (l : Addr) (items : Array Value) (n : Nat) (dd : Option Addr) (sl : Array (Option Value)) (u : Tok) :
    Meets (Builtin.«tuple.__mul__» ⟨[.ref l, .int 1 u], []⟩) (fun _ R s => s.heap.get? l = some { cls := .type "tuple", dict := dd, data := .seq items n, slots := sl } ∧ R (.ok (.ret (Value.ref l))) s) :=
  .of_wp fun prog w A R ⟨hp, g, d, tk, os⟩ ⟨at_, fin⟩ => by
    have one := AutoSeq1.idx_int
    (wp_walk using wpAny_loadPart' at_); exact ⟨_, rfl, fin⟩
/-- any list, k times: a new one -/
def rRepR (K : PySem.W.Frag) : R2 := fun x y H Q => ∃ l k xs, x = .ref l ∧ y = .int k ∧ SqL K H l xs ∧ -1000000 ≤ k ∧ k ≤ 1000000 ∧ xs.length * k.toNat ≤ 1000000 ∧ ∀ p, H p = none → Q (.ref p) (upd H p (.lst (List.replicate k.toNat xs).flatten))
theorem op_repR {X : Cx} : OpR X (binaryOp .Mult) (rRepR X.K) := fun pins s σ H x y v u Q I rx ry ⟨l, k, xs, ex, ey, at_, lo, hi, hz, q⟩ => by
  subst ex ey
  cases rx
  obtain ⟨t, rfl⟩ := ry
  obtain ⟨its, r, isL, _⟩ := I.list at_
  obtain ⟨⟨_, dd, _, sl⟩, ho, rfl, n, rfl⟩ := isL.isList
  have M := rep_room lo hi hz
  have long : (List.replicate k.toNat its).flatten.length ≤ sizeLine := by
    rw [PyProof.Rows.lm_len_rep_flat, Nat.mul_comm, ← r.length]
    exact M.line
  have new := I.lnew (t' := s.toks) (r.rep k.toNat) (by rw [PyProof.Rows.lm_len_rep_flat, Nat.mul_comm]; exact M.line)
  rw [r.length, ← List.size_toArray] at M
  exact wpAny_binaryOp_repeat_ref (T := "list") (U := "int") (by decide) ⟨_, ho, rfl⟩ (fun s' => typeIs_int s' k t) noFill_list_mul F.fills_int_mul F.slot_int_rmul repeat_list F.slot_int_index.lookup
    (call_meets F.slot_int_rmul (typeIs_int s k t) F.entry_int_rmul (F.args_int_rmul_2 _ _) (rmul_list k t l its.toArray n dd sl)
      ⟨ho, rfl, ⟨_, ho, rfl⟩, call_meets F.slot_list_mul ⟨_, ho, rfl⟩ F.entry_list_mul (F.args_list_mul_2 _ _) (mul_list l its.toArray _ n dd sl k t M (rep_items its k.toNat) long) ⟨ho, .ref _, _, new, rfl, q _ I.fresh⟩⟩)
/-- a tuple once: itself -/
def rRepT1 (K : PySem.W.Frag) : R2 := fun x y H Q => ∃ l xs, x = .ref l ∧ y = .int 1 ∧ SqT K H l xs ∧ Q (.ref l) H
theorem op_repT1 {X : Cx} : OpR X (binaryOp .Mult) (rRepT1 X.K) := fun pins s σ H x y v u Q I rx ry ⟨l, xs, ex, ey, at_, q⟩ => by
  subst ex ey
  cases rx
  obtain ⟨t, rfl⟩ := ry
  obtain ⟨its, r, ⟨⟨_, dd, _, sl⟩, ho, rfl, n, rfl⟩, _⟩ := I.tuple at_
  exact wpAny_binaryOp_repeat_ref (T := "tuple") (U := "int") (by decide) ⟨_, ho, rfl⟩ (fun s' => typeIs_int s' 1 t) noFill_tuple_mul F.fills_int_mul F.slot_int_rmul repeat_tuple F.slot_int_index.lookup
    (call_meets F.slot_int_rmul (typeIs_int s 1 t) F.entry_int_rmul (F.args_int_rmul_2 _ _) (int_rmul_tuple 1 t l its.toArray n dd sl)
      ⟨ho, rfl, ⟨_, ho, rfl⟩, call_meets F.slot_tuple_mul ⟨_, ho, rfl⟩ F.entry_tuple_mul (F.args_tuple_mul_2 _ _) (mul_tup1 l its.toArray n dd sl t) ⟨ho, .ref l, H, I, rfl, q⟩⟩)
def rRepA (K : PySem.W.Frag) : R2 := fun x y H Q => rRepR K x y H Q ∨ rRepT K x y H Q ∨ rRepT1 K x y H Q
theorem op_repA {X : Cx} : OpR X (binaryOp .Mult) (rRepA X.K) := op_repR.or (op_repT.or op_repT1)
theorem Rs.rep {W : Wo} {G : Gh} {H : Hp} {xs : List V} {ds : List D} (r : Rs W G H xs ds) : ∀ n : Nat, Rs W G H (List.replicate n xs).flatten (List.replicate n ds).flatten
  | 0 => .nil
  | n + 1 => by
    simp only [List.replicate_succ, List.flatten_cons]
    exact Rs.append r (Rs.rep r n)
section
variable {F : Fx}
theorem link_rep : OpD F (fun _ => opRep) (rRepA F.W.K) := by
  intro p G rr st σ H x y dx dy d Q L hx hy e q
  cases dx <;> (try (simp [opRep] at e; done))
  · cases dy <;> (try (simp [opRep] at e; done))
    obtain rfl := hy.int
    obtain ⟨a, xs, rfl, h1, r1⟩ := hx.tup
    simp only [opRep] at e
    split at e
    · rename_i l k h
      cases e
      by_cases hk : k = 1
      · subst hk
        have : (List.replicate (1 : Int).toNat l).flatten = l := by simp
        rw [this] at q
        exact .inr (.inr ⟨a, xs, rfl, rfl, h1, q _ _ _ L .refl (.tup h1 r1)⟩)
      · refine .inr (.inl ⟨a, k, xs, rfl, rfl, h1, ?_, by omega, h.2.1, by rw [r1.length]; exact h.2.2.1, fun p hp => new_tup L hp (r1.rep _) q⟩)
        intro z
        have := r1.length
        rw [z] at this
        cases l with
        | nil => simp at h
        | cons => simp at this
    · cases e
  · cases dy <;> (try (simp [opRep] at e; done))
    obtain rfl := hy.int
    obtain ⟨a, xs, rfl, h1, r1⟩ := hx.seq
    simp only [opRep] at e
    split at e
    · rename_i l k h
      cases e
      exact .inl ⟨a, k, xs, rfl, rfl, h1, h.1, h.2.1, by rw [r1.length]; exact h.2.2, fun p hp => new_lst L hp (r1.rep _) q⟩
    · cases e
end
section
variable {F : Fx} {X : Cx} [C : Ctx F X] {p : Bool} {a b : Expr} {φ ψ : Ex} {pos : Pos}
theorem ve_rep (ha : PE X a (tV F p φ)) (hb : PE X b (tV F p ψ)) : PE X (.BinOp a .Mult b pos) (tD F p (sOp2 opRep φ ψ)) := de_op op_repA (C.K ▸ link_rep) ha hb
end
end Mg
end
/-! ## DSumT -/
section
set_option Elab.async false
set_option linter.all false
set_option maxRecDepth 100000
set_option maxHeartbeats 2500000
/-! The data layer: sum of a tuple of ints. -/
namespace PySem.W
open PySem PySem.Spec PySem.Calls PyProof.Rows PyProof.V L2 GxR
end PySem.W
end
/-! ## DLend -/
/-! ## DDictP -/
/-! ## DMinV -/
/-! ## DHead -/
section
set_option Elab.async false
set_option linter.all false
set_option maxRecDepth 100000
set_option maxHeartbeats 2500000
namespace Mg
open PySem PySem.Spec PyProof.Rows L2 GxR
/-! the law's own end, whatever the law -/
theorem code_at {K : PySem.W.Frag} {z : Str × Option Str} {qual x : Str} {pa : Arguments} {bd : List Stmt} {sc : Scope} {dvs : List V} {kws : List (Str × V)} {fd : FuncData} (FD : FunD K x qual pa bd sc dvs kws (He.fAd K z) fd) : fd.code = .ref (He.cT K z).1 := by
  obtain ⟨oc, od, dV, kV, doc, pm, an, cdv, ct, osl, e, lk, hcd, _, _⟩ := FD.ex
  obtain ⟨c, rfl⟩ := He.codeIn_ref hcd
  have e1 : fd.code = .ref c := by rw [e]
  rw [e1]
  congr 1
  exact (He.codeOf_eq lk e1).symm
theorem rs_ints0 {W : Wo} {G : Gh} {H : Hp} : ∀ ns : List Int, Rs W G H (ns.map V.int) (ns.map D.int)
  | [] => .nil
  | n :: ns => .cons (.int n) (rs_ints0 ns)
end Mg
end
/-! ## DSetI -/
section
set_option Elab.async false
set_option linter.all false
set_option maxRecDepth 100000
set_option maxHeartbeats 3200000
/-! The data layer: sorted(set(xs)) of whole numbers. -/
namespace Mg
open PySem PySem.Spec PyProof.Rows L2 GxR PySem.W PySem.Calls
section
variable {prog : Program} {w : World} {A : Around} {E : Value → Shared → Prop} {s : Shared} {Q : Value → Shared → Prop}
/-- the set holds these numbers, all else stands -/
def Holds (w : World) (s : Shared) (ns : List Int) (s2 : Shared) : Prop := ∃ (h' : Heap) (tk c : Nat), s2 = { s with heap := h', toks := tk } ∧ SetR w h' s.heap.objs.size (fun j => decide (j ∈ ns)) c ∧ c ≤ ns.length ∧ ∀ b o, s.heap.get? b = some o → h'.get? b = some o
end
/-! ### the values -/
end Mg
end
/-! ## DSortC -/
/-! ## DCls -/
section
set_option Elab.async false
set_option linter.all false
set_option maxRecDepth 100000
set_option maxHeartbeats 2500000
/-! The data layer: instances of the program's classes. -/
namespace Mg
open PySem PySem.Spec PyProof.Rows L2 GxR PySem.W PySem.Calls
/-! ### reading -/
/-! ### writing -/
theorem txt_inj {a b : List Nat} (h : txt a = txt b) : a = b := by
  have : a.toArray = b.toArray := congrArg Str.cps h
  simpa using this
theorem Cid.at_inj {c : Cid} (hn : c.ats.Nodup) {i j : Nat} {x : Str} (hi : c.at i = some x) (hj : c.at j = some x) : i = j := by
  obtain ⟨a, ha, rfl⟩ := Option.map_eq_some_iff.mp hi
  obtain ⟨b, hb, e⟩ := Option.map_eq_some_iff.mp hj
  obtain rfl := txt_inj e
  obtain ⟨l1, e1⟩ := List.getElem?_eq_some_iff.mp ha
  obtain ⟨l2, e2⟩ := List.getElem?_eq_some_iff.mp hb
  exact (List.getElem_inj hn).mp (e1.trans e2.symm)
theorem putF_len {x : Str} {v : V} : ∀ {kvs : List (Str × V)} {u : V}, kvs.lookup x = some u → (putF x v kvs).length = kvs.length
  | [], u, h => by cases h
  | (y, z) :: kvs, u, h => by
    unfold putF
    split
    · rfl
    · rename_i q
      have hb : (x == y) = false := beq_eq_false_iff_ne.mpr (Ne.symm q)
      rw [List.lookup_cons, hb] at h
      exact congrArg (· + 1) (putF_len h)
theorem count_set : ∀ {fs : List (Option D)} {i : Nat} {d : D}, i < fs.length → (fs.set i (some d)).countP Option.isSome = fs.countP Option.isSome + (if (fs[i]?).join.isSome then 0 else 1)
  | [], i, d, h => by cases h
  | o :: fs, 0, d, h => by cases o <;> simp
  | o :: fs, i + 1, d, h => by
    have ih := count_set (fs := fs) (i := i) (d := d) (by simpa using h)
    cases o <;> simp [ih] <;> omega
section
variable {F : Fx} {G : Gh} {r : Env} {st : Sto} {σ : L2.St} {H : Hp} {c : Cid} {i n : Nat} {v : V} {d : D} {fs fs' : List (Option D)} {kvs kvs' : List (Str × V)} {x : Str} {dx : Addr}
theorem FsAt.put (h : FsAt F.W G H n c kvs fs) (hn : c.ats.Nodup) (hx : c.at i = some x) (hi : i < fs.length) (hv : (∀ e, d ≠ .own e) → R F.W G H v d) (ho : ∀ e, d = .own e → ∃ b, v = .ref b ∧ G.rl b = some (.fd n i) ∧ At F.W G H b e) :
    FsAt F.W G H n c (putF x v kvs) (fs.set i (some d)) := by
  have there : ∀ j, c.at j = some x → j = i := fun j e => Cid.at_inj hn e hx
  refine ⟨by rw [List.length_set]; exact h.len, ?_, fun y u e => ?_, fun j e hj hno => ?_, fun j e hj => ?_⟩
  · rw [count_set hi]
    have few := h.few
    have up := length_putF x v kvs
    split
    · rename_i q
      obtain ⟨e, he⟩ := Option.isSome_iff_exists.mp q
      have hf : fs[i]? = some (some e) := by
        cases z : fs[i]? with
        | none => rw [z] at he; cases he
        | some o =>
          rw [z] at he
          simp only [Option.join_some] at he
          rw [he]
      have : ∃ u, kvs.lookup x = some u := by
        by_cases z : ∃ e', e = .own e'
        · obtain ⟨e', rfl⟩ := z
          obtain ⟨y, b, h1, h2, _⟩ := h.ow i e' hf
          rw [hx] at h1
          cases h1
          exact ⟨_, h2⟩
        · obtain ⟨y, u, h1, h2, _⟩ := h.vl i e hf fun e' q => z ⟨e', q⟩
          rw [hx] at h1
          cases h1
          exact ⟨_, h2⟩
      obtain ⟨u, hu⟩ := this
      rw [putF_len hu]
      omega
    · omega
  · rw [lookup_putF] at e
    by_cases q : y = x
    · subst q
      exact ⟨i, d, hx, by rw [List.getElem?_set_self hi]⟩
    · rw [if_neg q] at e
      obtain ⟨j, e', h1, h2⟩ := h.nm y u e
      have hji : i ≠ j := fun z => by
        subst z
        rw [hx] at h1
        cases h1
        exact q rfl
      exact ⟨j, e', h1, by rw [List.getElem?_set_ne hji]; exact h2⟩
  · by_cases q : i = j
    · subst q
      rw [List.getElem?_set_self hi] at hj
      cases hj
      exact ⟨x, v, hx, by rw [lookup_putF, if_pos rfl], hv hno⟩
    · rw [List.getElem?_set_ne q] at hj
      obtain ⟨y, u, h1, h2, h3⟩ := h.vl j e hj hno
      exact ⟨y, u, h1, by rw [lookup_putF, if_neg (fun z => by subst z; exact q (there j h1).symm)]; exact h2, h3⟩
  · by_cases q : i = j
    · subst q
      rw [List.getElem?_set_self hi] at hj
      cases hj
      obtain ⟨b, rfl, h1, h2⟩ := ho e rfl
      exact ⟨x, b, hx, by rw [lookup_putF, if_pos rfl], h1, h2⟩
    · rw [List.getElem?_set_ne q] at hj
      obtain ⟨y, b, h1, h2, h3⟩ := h.ow j e hj
      exact ⟨y, b, h1, by rw [lookup_putF, if_neg (fun z => by subst z; exact q (there j h1).symm)]; exact h2, h3⟩
end
/-! ### methods, new instances -/
section
variable {F : Fx} {X : Cx} [C : Ctx F X] {φ : Ex} {ψ : Exs} {o e : Expr} {es : List Expr} {m cl : Str} {pos apos : Pos}
theorem FsAt.no {W : Wo} {G : Gh} {H : Hp} {n : Nat} {c : Cid} {kvs : List (Str × V)} {fs : List (Option D)} (h : FsAt W G H n c kvs fs) (hm : (c.ats.map txt).contains m = false) : kvs.lookup m = none := by
  cases q : kvs.lookup m with
  | none => rfl
  | some v =>
    obtain ⟨i, d, h1, _⟩ := h.nm m v q
    obtain ⟨a, ha, rfl⟩ := Option.map_eq_some_iff.mp h1
    have : (c.ats.map txt).contains (txt a) = true := by
      rw [List.contains_iff_mem]
      exact List.mem_map_of_mem (List.mem_of_getElem? ha)
    rw [this] at hm
    cases hm
end
/-! a method, a class's beginning that keeps its promise -/
end Mg
end
/-! ## DSetT -/
/-! ## DDicW -/
/-! ## DGame -/
/-! ## DPop -/
section
set_option Elab.async false
set_option linter.all false
set_option maxRecDepth 100000
set_option maxHeartbeats 2500000
/-! The data layer: d.pop(k), d a dict of one's own with tuples as keys. -/
namespace Mg
open PySem PySem.Spec PyProof.Rows L2 GxR PySem.W PySem.Calls
/-! bool(a list) -/
theorem Rs.isEmpty {W : Wo} {G : Gh} {H : Hp} {xs : List V} {ds : List D} (h : Rs W G H xs ds) : xs.isEmpty = ds.isEmpty := by cases h <;> rfl
end Mg
end
/-! ## DLendM -/
/-! ## DGet -/
/-! ## DIdx -/
section
set_option Elab.async false
set_option linter.all false
set_option maxRecDepth 100000
set_option maxHeartbeats 2500000
/-! The data layer: x.index(y), x a list or a tuple of data. -/
namespace Mg
open PySem PySem.Spec PyProof.Rows L2 GxR PySem.W PySem.Calls
/-- the first place of an equal one -/
def bIdx (l : List D) (d : D) : Option D := if d.plain && D.plains l then (l.findIdx? fun y => D.eq y d).map fun i => .int (i : Nat) else none
theorem pys_at : ∀ (l : List D) (i : Nat), (D.pys l)[i]? = (l[i]?).map D.py
  | [], i => by simp [D.pys]
  | x :: l, 0 => by simp [D.pys]
  | x :: l, i + 1 => by
    rw [D.pys, List.getElem?_cons_succ, List.getElem?_cons_succ]
    exact pys_at l i
theorem idx_some {l : List D} {d v : D} (h : bIdx l d = some v) : d.plain = true ∧ D.plains l = true ∧ ∃ (i : Nat) (z : D), v = .int (i : Nat) ∧ l[i]? = some z ∧ D.eq z d = true ∧ ∀ (m : Nat) (y : D), m < i → l[m]? = some y → D.eq y d = false := by
  unfold bIdx at h
  split at h
  · rename_i hp
    rw [Bool.and_eq_true] at hp
    obtain ⟨i, hi, rfl⟩ := Option.map_eq_some_iff.mp h
    obtain ⟨hl, h1, h2⟩ := List.findIdx?_eq_some_iff_getElem.mp hi
    refine ⟨hp.1, hp.2, i, l[i], rfl, List.getElem?_eq_getElem hl, h1, fun m y hm hy => ?_⟩
    obtain ⟨hml, rfl⟩ := List.getElem?_eq_some_iff.mp hy
    exact Bool.eq_false_iff.mpr (h2 m hm)
  · cases h
theorem pls_at {l : List D} (h : D.pls l = true) {i : Nat} {z : D} (e : l[i]? = some z) : z.pl = true := by
  induction l generalizing i with
  | nil => cases e
  | cons x l ih =>
    rw [D.pls, Bool.and_eq_true] at h
    cases i with
    | zero => cases e; exact h.1
    | succ i => exact ih h.2 (by simpa using e)
section
variable {X : Cx} {F : Fx} [C : CtxW F X]
variable {p : Bool} {e o : Expr} {φ ψ : Ex} {apos cp : Pos}
theorem de_idxL (ho : PE X o (tV F p φ)) (he : PE X e (tV F p ψ))
    (hb : attributeBase o "index" X.env (eval o X.env) = eval o X.env := by rfl)
    (hf : ((backTo cp (starEach [e] X.env)).all (fun x => !x.1) && (backToKw cp (keywordEach [] X.env)).all (fun x => x.1.isSome) && decide (([e] : List Expr).length + ([] : List Keyword).length + (if ([] : List Keyword).isEmpty then 0 else 1) < 30)) = true := by rfl)
    (hl : (apos.endLine == cp.line) = true := by rfl) (hs : starEach [e] X.env = (false, eval e X.env) :: starEach [] X.env := by rfl) (hp : (backTo cp (starEach [] X.env)).any (·.1) = false := by rfl) :
    PE X (.Call (.Attribute o "index" apos) [e] [] cp) (tD F p (sLm1 bIdx φ ψ)) :=
  (pe_bm PySem.F.plainAttrs_list PySem.F.slot_list_index PySem.F.type_list_index (mt_indexD (by have := C.un; omega)) ho (pa_cons he pa_nil hs) hb hf hl hs hp).mimp fun σ H Q ⟨G, r, st, L, k⟩ => by
  refine ⟨G, r, st, L, postV_bind k fun x v H1 G1 e1 L1 ev1 hx k1 => ?_⟩
  obtain ⟨d, st'⟩ := x
  cases d <;> (try (exact k1.elim))
  rename_i l
  obtain ⟨a, xs, rfl, h, r1⟩ := hx.seq
  refine ⟨.inl ⟨rfl, xs, by rw [← C.K]; exact h⟩, G1, r, st', L1, postV_bind k1 fun y u H2 G2 e2 L2 ev2 hy k2 => ?_⟩
  obtain ⟨w, e, k3⟩ := post_of k2
  obtain ⟨pd, pl, i, z, rfl, hz, hzd, hno⟩ := idx_some e
  refine ⟨a, u, y.1.py, D.pys l, i, z.py, rfl, rfl, by rw [← C.K]; exact (hx.mono ev2).dps (plains_pls pl), by rw [← C.K]; exact hy.dp (plain_pl pd), pys_shaped pl, py_shaped pd, by rw [pys_at, hz]; rfl, ?_, fun m z' hm hm2 => ?_, k3 _ _ _ L2 .refl (.int _)⟩
  · rw [py_eqv z y.1 (pls_at (plains_pls pl) hz) (plain_pl pd), hzd]
  · rw [pys_at] at hm2
    obtain ⟨z2, h1, rfl⟩ := Option.map_eq_some_iff.mp hm2
    rw [py_eqv z2 y.1 (pls_at (plains_pls pl) h1) (plain_pl pd), hno m z2 hm h1]
/-! tuple(a list): plain -/
end
/-! a def of one return whose value is such a tuple -/
end Mg
end
/-! ## DCnt -/
section
set_option Elab.async false
set_option linter.all false
set_option maxRecDepth 100000
set_option maxHeartbeats 2500000
/-! l.count(x), l a list of data of any kind. -/
namespace Mg
open PySem PySem.Spec PyProof.Rows L2 GxR
def bCountD (l : List D) (d : D) : Option D := if d.plain && D.plains l then some (.int (l.countP fun y => D.eq y d : Nat)) else none
theorem countP_py {d : D} (hd : d.pl = true) : ∀ {l : List D}, D.pls l = true → (D.pys l).countP (fun z => PyData.eqv z d.py) = l.countP fun y => D.eq y d
  | [], _ => rfl
  | x :: l, h => by
    rw [D.pls, Bool.and_eq_true] at h
    rw [D.pys, List.countP_cons, List.countP_cons, countP_py hd h.2, py_eqv x d h.1 hd]
section
variable {X : Cx} {F : Fx} [C : CtxW F X]
def rCntA (F : Fx) : V → List V → Hp → VK → Prop := fun x xs H Q => ∃ (a : Addr) (y : V) (l : List D) (d : D), x = .ref a ∧ xs = [y] ∧ Dp F.W.K H (.ref a) (.list (D.pys l)) ∧ Dp F.W.K H y d.py ∧ d.plain = true ∧ D.plains l = true ∧ Q (.int (l.countP fun y => D.eq y d : Nat)) H
theorem mt_cntA : MtR X "list.count" (rCntA F) := by
  rintro pins s σ H x xs v us Q I rx rxs ⟨a, y, l, d, rfl, rfl, hl, hy, pd, pl, q⟩
  cases rx
  obtain ⟨u, rfl, ru⟩ := vals1 rxs
  have ed : Dp X.K H y d.py := C.K ▸ hy
  obtain ⟨cs, rd⟩ := Dp.reads I _ _ u ed ru
  have el : Dp X.K H (.ref a) (.list (D.pys l)) := C.K ▸ hl
  cases el with
  | lst hs ha =>
    obtain ⟨its, rv, ⟨⟨cls, dd, data, sls⟩, n, ho, hc, hdn, hdt⟩, _⟩ := I.list hs
    simp only at hc hdt
    subst hc hdt
    obtain ⟨as, g4⟩ := Dp.readsAll I (D.pys l) _ its ha rv
    have lay := SeqAt.canLay_of_shaped (pys_shaped pl)
    have lay : PyData.canLayAll0 (D.pys l) = true := by rw [PyData.canLay0] at lay; exact lay
    have emap := SeqAt.readsAll_map (D.pys l) its as lay g4
    have ec : its.countP (fun b => PyData.eqv (SeqAt.readOf s.heap b) d.py) = l.countP fun y => D.eq y d := by
      rw [← countP_py (plain_pl pd) (plains_pls pl), ← emap, List.countP_map]
      rfl
    refine call_meets PySem.F.slot_list_count ⟨_, ho, rfl⟩ PySem.F.entry_list_count (PySem.F.args_list_count_2 _ _) (SeqAt.list_countAt a its.toArray n dd sls u (fun b => PyData.eqv (SeqAt.readOf s.heap b) d.py))
      ⟨ho, SeqAt.items_eqAt (vs := its.toArray) (show ReadsAll s.heap its.toArray.toList (D.pys l) as from g4) rd lay (SeqAt.canLay_of_shaped (py_shaped pd)) (room_in_shaped (py_shaped pd) (by have := C.un; omega)), ⟨.int (l.countP fun y => D.eq y d : Nat), H, I.tok _, ⟨s.toks, ?_⟩, q⟩⟩
    show Value.int ((its.toArray.toList.countP _ : Nat) : Int) s.toks = _
    rw [show its.toArray.toList.countP (fun b => PyData.eqv (SeqAt.readOf s.heap b) d.py) = l.countP fun y => D.eq y d from ec]
variable {p : Bool} {e o : Expr} {φ ψ : Ex} {apos cp : Pos}
theorem de_countD (ho : PE X o (tV F p φ)) (he : PE X e (tV F p ψ))
    (hbase : attributeBase o "count" X.env (eval o X.env) = eval o X.env := by rfl)
    (hfew : ((backTo cp (starEach [e] X.env)).all (fun x => !x.1) && (backToKw cp (keywordEach [] X.env)).all (fun x => x.1.isSome) && decide (([e] : List Expr).length + ([] : List Keyword).length + (if ([] : List Keyword).isEmpty then 0 else 1) < 30)) = true := by rfl)
    (hline : (apos.endLine == cp.line) = true := by rfl) (hs : starEach [e] X.env = (false, eval e X.env) :: starEach [] X.env := by rfl) (hplain : (backTo cp (starEach [] X.env)).any (·.1) = false := by rfl) :
    PE X (.Call (.Attribute o "count" apos) [e] [] cp) (tD F p (sLm1 bCountD φ ψ)) :=
  (pe_bm PySem.F.plainAttrs_list PySem.F.slot_list_count PySem.F.type_list_count (mt_cntA (F := F)) ho (pa_cons he pa_nil hs) hbase hfew hline hs hplain).mimp fun σ H Q ⟨G, r, st, L, k⟩ => by
  refine ⟨G, r, st, L, postV_bind k fun x v H1 G1 e1 L1 ev1 hx k1 => ?_⟩
  obtain ⟨d, st'⟩ := x
  cases d <;> (try (exact k1.elim))
  rename_i l
  obtain ⟨a, xs, rfl, h, r1⟩ := hx.seq
  refine ⟨.inl ⟨rfl, xs, by rw [← C.K]; exact h⟩, G1, r, st', L1, postV_bind k1 fun y u H2 G2 e2 L2 ev2 hy k2 => ?_⟩
  obtain ⟨d, e, k3⟩ := post_of k2
  obtain ⟨d2, st2⟩ := y
  unfold bCountD at e
  split at e
  · rename_i hp
    rw [Bool.and_eq_true] at hp
    cases e
    exact ⟨a, u, l, d2, rfl, rfl, by have := RV.dp (hx.mono ev2) (d := .lst l) (plains_pls hp.2); rw [D.py] at this; exact this, hy.dp (plain_pl hp.1), hp.1, hp.2, k3 _ _ _ L2 .refl (.int _)⟩
  · cases e
end
end Mg
end
/-! ## DErr -/
section
set_option Elab.async false
set_option linter.all false
set_option maxRecDepth 100000
set_option maxHeartbeats 2500000
/-! Errors that leave a def: what is raised, the promise of a def that raises, its call. -/
namespace L2
open PySem PySem.Spec PyProof.Rows
/-- C(), a class without an own beginning -/
theorem pmk_bare {X : Cx} {C : Addr} {bmB : List Value} {B newId initId : String} {x : Str} {p pos : Pos} (F : ExcBaseFacts B newId initId bmB) (q : PySem.W.excIn X.K C bmB newId = true) (gC : X.mg x = some (.ref C)) (kC : PySem.W.keepIn X.K (.ref C) = true) (r : Raises X (.ref C)) (hg : Gl X x)
    (hdb : (x == ("__debug__" : Str)) = false := by decide) : PMk X (.Call (.Name x p) [] [] pos) (fun _ H Q => Q (.ref C) none H) := fun pins s σ H Q I h => by
  obtain ⟨bm, N, nm, qn, bs, hdct, sn, sub, ab, col, dd, k0, k1, k2, k3, k5, mN, hC, hN, hni, T⟩ := exc_obj I.kIn q
  refine wpAny_Call_Name_kw (ld_glob I hg gC (PySem.W.callWith_K0 I.kIn kC ?_) hdb)
  exact wpAny_call_exc_subT F T hC hN hni (fun h' e hm => mk_of I hm r h (I.hok.gone hm.new)) (Nat.zero_le _)
end L2
namespace Mg
open PySem PySem.Spec PyProof.Rows L2 GxR
/-- the program's errors and their attributes -/
def exT : List (Str × List Str) := [("BadLibrary", ["part"]), ("BadMost", []), ("BadDays", ["index"]), ("BadTablet", []), ("BadNumber", []), ("BadString", []), ("BadShown", []), ("NoScheme", []), ("BadStep", []), ("TooMany", ["most"]), ("BadLine", ["line", "word"])]
def exNm (c : Nat) : Str := ((exT[c]?).map (·.1)).getD ""
def exNs (c : Nat) : List Str := ((exT[c]?).map (·.2)).getD []
/-- the error c with its attributes, of the class cls with its dict at d -/
def ErIs (W : Wo) (G : Gh) (H : Hp) (c : Nat) (fs : List D) (cls : Value) (d : Option Addr) : Prop :=
  cls = .ref (He.ga W.K (exNm c)) ∧ ∃ (kvs : List (Str × V)) (vs : List V), ((exNs c = [] ∧ d = none ∧ kvs = []) ∨ ∃ a, d = some a ∧ G.rl a = some .fz ∧ H a = some (.xd kvs)) ∧
    (∀ (i : Nat) (n : Str), (exNs c)[i]? = some n → ∃ v, vs[i]? = some v ∧ kvs.lookup n = some v) ∧ Rs W G H vs fs
theorem ErIs.mono {W : Wo} {G G' : Gh} {H H' : Hp} {c : Nat} {fs : List D} {cls : Value} {d : Option Addr} (s : St1 G H G' H') (h : ErIs W G H c fs cls d) : ErIs W G' H' c fs cls d := by
  obtain ⟨h1, kvs, vs, h2, h3, h4⟩ := h
  refine ⟨h1, kvs, vs, ?_, h3, Rs.mono s h4⟩
  rcases h2 with h2 | ⟨a, e, h5, h6⟩
  · exact .inl h2
  · exact .inr ⟨a, e, s.rl _ h5, s.fz _ _ h5 h6 fun _ z => by cases z⟩
/-- the same world where errors are wished so -/
def Fx.wx (F : Fx) (U : WX) : Fx := ⟨F.W, fun c fs st' G' σ H' => ∀ cls d, ErIs F.W G' H' c fs cls d → U cls d σ H'⟩
/-- errors may be raised here -/
class XTk (F : Fx) (X : Cx) : Prop where
  tk : ∃ U : WX, Takes X U ∧ ∀ c fs st' G' σ H', F.ex c fs st' G' σ H' → ∀ cls d, ErIs F.W G' H' c fs cls d → U cls d σ H'
def PostEx (F : Fx) (G : Gh) (H : Hp) (m : Res (D × Sto)) (Q : VK) (E : XK) : Prop := match m with
  | .ok x => ∀ v H' G', Rel F.noex G' [] x.2 [] H' → Evs G H G' H' → R F.W G' H' v x.1 → Q v H'
  | .exn c fs st' => ∀ cls d H' G', Rel F.noex G' [] st' [] H' → Evs G H G' H' → ErIs F.W G' H' c fs cls d → E cls d H'
  | .bad => False
/-- the promise of a def that may raise -/
def spDX (F : Fx) (n : Nat) (f : List D → Sto → Res (D × Sto)) : Sp := fun vs H Q E => vs.length = n ∧ ∃ G st ds, Rel F.noex G [] st [] H ∧ Rs F.W G H vs ds ∧ PostEx F G H (f ds st) Q E
/-! ### raise -/
def stRaise (c : Nat) : Stm := fun r st => .exn c [] st
section
variable {F : Fx} {X : Cx} {x : Str} {p pos rpos : Pos}
theorem ds_raise [C : Ctx F X] [T : XTk F X] (c : Nat) (hx : exNm c = x) (hn : exNs c = []) (f : PySem.W.excIn X.K (He.ga X.K x) He.veBase "ValueError.__new__" = true ∧ PySem.W.keepIn X.K (.ref (He.ga X.K x)) = true ∧ PySem.W.subIn X.K (.ref (He.ga X.K x)) (.type "BaseException") = some true ∧
    PySem.W.typeIn X.K (.ref (He.ga X.K x)) = some (.type "type")) (gC : X.mg x = some (.ref (He.ga X.K x))) (hg : Gl X x) (hdb : (x == ("__debug__" : Str)) = false := by decide) : PS X (.Raise (some (.Call (.Name x p) [] [] pos)) none rpos) (tS F (stRaise c)) := by
  obtain ⟨U, tk, hU⟩ := T.tk
  obtain ⟨f1, f2, f3, f4⟩ := f
  refine (ps_raise C.calm tk (pmk_bare PySem.F.excBase_ValueError f1 gC f2 (raises_own f3 f4) hg hdb)).mimp fun D σ H ⟨G, r, st, L, k⟩ => ?_
  refine hU _ _ _ _ _ _ (k σ H G L.drop .refl) _ _ ⟨?_, [], [], .inl ⟨hn, rfl, rfl⟩, fun i n e => ?_, .nil⟩
  · rw [hx, C.K]
  · rw [hn] at e
    simp at e
end
/-! ### a call that may raise -/
section
variable {F : Fx} {X : Cx} {ψ : Exs} {e : Expr} {es : List Expr} {x : Str} {pp pos : Pos}
theorem de_callX [C : CtxW F X] [T : XTk F X] {n : Nat} {f : List D → Sto → Res (D × Sto)} {k : Nat} {fa : Addr} {fd : FuncData} {ps : List Str} (FO : FnOk X.prog X.w X.K X.mg X.base (L2.CX X.prog X.w) k fa fd ps (spDX F n f)) (hr : Room k X.A) (hg : Gl X x) (hm : X.mg x = some (.ref fa)) (hk : PySem.W.keepIn X.K (.ref fa) = true)
    (hb : Binds X.K fd ps []) (ha : PA X (e :: es) (tA F false ψ)) (hn : ∀ r st y, ψ r st = .ok y → y.1.length = n) (hdb : (x == ("__debug__" : Str)) = false := by decide) (he : starEach (e :: es) X.env = (false, eval e X.env) :: starEach es X.env := by rfl) (hpl : (backTo pos (starEach es X.env)).any (·.1) = false := by rfl) :
    PE X (.Call (.Name x pp) (e :: es) [] pos) (tD F false (sCallE f ψ)) := by
  obtain ⟨U, tk, hU⟩ := T.tk
  refine (pe_callS (E := WE U) FO hr hg hm hk hb (passAt tk) ha hdb he hpl).mimp fun σ H Q ⟨G, r, st, L, k⟩ => ⟨G, r, st, L, ?_⟩
  unfold sCallE at k
  have hn := hn r st
  revert k hn
  generalize ψ r st = m
  intro k hn
  cases m with
  | bad => exact k
  | exn c fs st' => exact k
  | ok y =>
    intro vs H1 G1 L1 ev1 hvs
    obtain ⟨ds, st1⟩ := y
    simp only [Res.ok_bind] at k
    have k1 := Post.adv k ev1
    refine ⟨hvs.length.trans (hn _ rfl), G1.fgt, st1, ds, L1.fgt, Rs.mono .fgt hvs, ?_⟩
    revert k1
    generalize f ds st1 = m
    intro k1
    cases m with
    | bad => exact k1.elim
    | exn c fs st' =>
      intro cls d H2 G2 L2 e2 he2
      obtain ⟨L3, ev3⟩ := L1.after e2 L2
      exact hU _ _ _ _ _ _ (k1 H2 _ L3 ev3) _ _ (he2.mono .mrg)
    | ok z =>
      intro v H2 G2 L2 e2 hv
      obtain ⟨L3, ev3⟩ := L1.after e2 L2
      exact k1 v H2 _ L3 ev3 (R.mono .mrg hv)
end
/-! ### a def's body that may raise -/
section
variable {P : Program} {w : World} {K : PySem.W.Frag} {mg : Str → Option Value} {base : Heap} {Tb : TbT}
abbrev mkX (P : Program) (w : World) (K : PySem.W.Frag) (Tb : TbT) (E : XK) : Fx := (mkF P w K Tb).wx fun cls d _ H => E cls d H
instance fr0_mkX {E : XK} : Fr0 (mkX P w K Tb E) := ⟨fun _ _ _ _ _ _ _ h => h⟩
theorem fn_dataX {k : Nat} {f : Addr} {fd : FuncData} {x qual : Str} {params : Arguments} {body : List Stmt} {scope : Scope} {dvs : List V} {kws : List (Str × V)} {N ps : List Str} {b : Stm} (FD : FunD K x qual params body scope dvs kws f fd) (S : FnScope N ps scope)
    (hb : ∀ (c : Addr) (A : Around) (outer : List PySem.Env) (s : Shared) (H : Hp) (E : XK), fd.code = .ref c → Room k (A.deeper (envOfC qual scope s.heap.objs.size f (.ref c))) → Ctx (mkX P w K Tb E) (cxOf (L2.CX P w) P w K mg base N qual scope f (.ref c) A outer s H E) →
      XTk (mkX P w K Tb E) (cxOf (L2.CX P w) P w K mg base N qual scope f (.ref c) A outer s H E) →
      PSs (cxOf (L2.CX P w) P w K mg base N qual scope f (.ref c) A outer s H E) body (tS (mkX P w K Tb E) b)) : FnOk P w K mg base (L2.CX P w) (k + 1) f fd ps (spDX (mkF P w K Tb) ps.length (runE N.length b)) := by
  obtain ⟨oc, od, dV, kV, doc, pm, an, cdv, ct, osl, rfl, lk, hcd, _, _⟩ := FD.ex
  obtain ⟨c, rfl⟩ := He.codeIn_ref hcd
  refine fn_of lk hcd S (fun vs H Q E h => h.1) fun A outer s H vs Q E hr ⟨hl, G, st, ds, L, rs, k1⟩ => ⟨tS (mkX P w K Tb E) b, hb c A outer s H E rfl hr (Ctx.of rfl rfl rfl rfl (by have := hr.un; show (A.deeper (envOfC qual scope s.heap.objs.size f (.ref c))).units + 100 < cLine; omega) hr.hd)
    ⟨_, takes_of rfl rfl rfl rfl, fun c fs st' G' σ H' h => h⟩, ?_⟩
  refine ⟨G, _, st, fn_start (N := N) (F := mkX P w K Tb E) (Rel.exn (F := mkX P w K Tb E) L) rs, ?_⟩
  revert k1
  unfold runE
  generalize b _ st = m
  intro k1
  cases m with
  | bad => exact k1
  | exn c fs st' => exact fun σ' H' G' L' e cls d he => k1 cls d H' G' L'.noex e he
  | ok y =>
    obtain ⟨fl, r', st'⟩ := y
    cases fl with
    | nx => exact fun σ' H' G' L' e => k1 .non H' G' L'.drop.noex e .non
    | rt d => exact fun v H' G' L' e hv => k1 v H' G' L'.noex e hv
    | bk => exact k1.elim
    | ct => exact k1.elim
end
/-- a def of the program that may raise keeps the promise s -/
structure DefX (P : Program) (w : World) (K : PySem.W.Frag) (mg : Str → Option Value) (base : Heap) (Tb : TbT) (x : Str) (n : Nat) (s : List D → Sto → Res (D × Sto)) (k : Nat) : Prop where
  ok : ∃ fa fd ps, FnOk P w K mg base (L2.CX P w) k fa fd ps (spDX (mkF P w K Tb) n s) ∧ mg x = some (.ref fa) ∧ PySem.W.keepIn K (.ref fa) = true ∧ Binds K fd ps []
theorem DefX.mono {P : Program} {w : World} {K : PySem.W.Frag} {mg : Str → Option Value} {base : Heap} {Tb : TbT} {x : Str} {n : Nat} {s : List D → Sto → Res (D × Sto)} {k k' : Nat} (h : DefX P w K mg base Tb x n s k) (hk : k ≤ k') : DefX P w K mg base Tb x n s k' :=
  let ⟨fa, fd, ps, h1, h2⟩ := h.ok; ⟨fa, fd, ps, h1.mono hk, h2⟩
section
variable {F : Fx} {X : Cx} [C : CtxW F X] [T : XTk F X] {ψ : Exs} {e : Expr} {es : List Expr} {x : Str} {pp pos : Pos} {Tb : TbT}
theorem ve_callX {n : Nat} {f : List D → Sto → Res (D × Sto)} {k j : Nat} (d : DefX X.prog X.w X.K X.mg X.base Tb x n f k) (hr : Room j X.A) (hT : F.Tb = Tb := by rfl) (hg : Gl X x := by rfl) (hkj : k ≤ j := by omega) (ha : PA X (e :: es) (tA F false ψ)) (hn : ∀ r st y, ψ r st = .ok y → y.1.length = n)
    (hdb : (x == ("__debug__" : Str)) = false := by decide) (he : starEach (e :: es) X.env = (false, eval e X.env) :: starEach es X.env := by rfl) (hpl : (backTo pos (starEach es X.env)).any (·.1) = false := by rfl) :
    PE X (.Call (.Name x pp) (e :: es) [] pos) (tD F false (sCallE f ψ)) := by
  obtain ⟨fa, fd, ps, h1, h2, h3, h4⟩ := d.ok
  have hF : F.W = (mkF X.prog X.w X.K Tb).W := by
    obtain ⟨⟨P, w, K, U⟩, ex⟩ := F
    have z1 : P = X.prog := C.P
    have z2 : w = X.w := C.w
    have z3 : K = X.K := C.K
    have z4 : U = Tb := hT
    subst z1 z2 z3 z4
    rfl
  have e1 : spDX F n f = spDX (mkF X.prog X.w X.K Tb) n f := by
    have e2 : F.noex = (mkF X.prog X.w X.K Tb).noex := by
      show (⟨F.W, _⟩ : Fx) = ⟨(mkF X.prog X.w X.K Tb).W, _⟩
      rw [hF]
    unfold spDX PostEx
    rw [e2, hF]
  exact de_callX (e1 ▸ h1) (hr.mono hkj) hg h2 h3 h4 ha hn hdb he hpl
end
end Mg
end
/-! ## DSh -/
section
set_option Elab.async false
set_option linter.all false
set_option maxRecDepth 100000
set_option maxHeartbeats 2500000
/-! From one world to another: an error comes to hand, and goes. -/
namespace Mg
open PySem PySem.Spec PyProof.Rows L2 GxR
mutual
/-- no error in hand is told -/
def D.ner : D → Bool
  | .tup l => D.ners l
  | .lst l => D.ners l
  | .dic _ ks vs => D.ners ks && D.ners vs
  | .own d => D.ner d
  | .fn _ ds => D.ners ds
  | .err _ _ => false
  | _ => true
def D.ners : List D → Bool
  | [] => true
  | x :: xs => D.ner x && D.ners xs
end
def oner (o : Option D) : Bool := match o with
  | some d => d.ner
  | none => true
def Bx.ner : Bx → Bool
  | .lst l => D.ners l
  | .ins _ fs => fs.all oner
  | .dic _ ks vs => D.ners ks && D.ners vs
/-- from T to T'; k: told of things without an error in hand -/
structure Sh (k : Bool) (T T' : TbT) : Prop where
  tb : T.tb = T'.tb
  lt : T.lt = T'.lt
  cl : T.cl = T'.cl
  me : ∀ M, T.me = some M → T'.me = some M
  er : k = false → ∀ E, T.er = some E → T'.er = some E
mutual
theorem R.sh {P : Program} {w : World} {K : PySem.W.Frag} {T T' : TbT} {G : Gh} {H : Hp} {k : Bool} (s : Sh k T T') : ∀ {v : V} {d : D}, R ⟨P, w, K, T⟩ G H v d → (k = true → d.ner = true) → R ⟨P, w, K, T'⟩ G H v d
  | _, _, .non, _ => .non
  | _, _, .bl b, _ => .bl b
  | _, _, .int i, _ => .int i
  | _, _, .str x, _ => .str x
  | _, _, .tup h r, e => .tup h (Rs.sh s r fun z => by have := e z; rw [D.ner] at this; exact this)
  | _, _, .obj f h o n, e => .obj f h (Ob.sh s o e) n
  | _, _, .dic f h o, e => .dic f h (Ob.sh s o e)
  | _, _, .box n h, _ => .box n h
  | _, _, .kl h r, e => .kl h (Rs.sh s r fun z => by have := e z; rw [D.ner] at this; exact this)
  | _, _, .st f h t o, _ => .st f h t o
  | _, _, .fo m l h, _ => .fo (s.me _ m) l h
  | _, _, .fn m h n c r, e => .fn (by show T'.cl _ = _; rw [← s.cl]; exact m) h n c (Rs.sh s r fun z => by have := e z; rw [D.ner] at this; exact this)
  | _, _, .er m h l r, e => by
    cases k with
    | true => have := e rfl; rw [D.ner] at this; cases this
    | false => exact .er (s.er rfl _ m) h l (Rs.sh s r fun z => by cases z)
theorem Ob.sh {P : Program} {w : World} {K : PySem.W.Frag} {T T' : TbT} {G : Gh} {H : Hp} {k : Bool} (s : Sh k T T') : ∀ {a : Addr} {o : HO} {d : D}, Ob ⟨P, w, K, T⟩ G H a o d → (k = true → d.ner = true) → Ob ⟨P, w, K, T'⟩ G H a o d
  | _, _, _, .lst r, e => .lst (Rs.sh s r fun z => by have := e z; rw [D.ner] at this; exact this)
  | _, _, _, .dI q n r, e => .dI q n (Rs.sh s r fun z => by have := e z; rw [D.ner, Bool.and_eq_true] at this; exact this.2)
  | _, _, _, .dT a b c d v r, e => .dT (Rs.sh s a fun z => by have := e z; rw [D.ner, Bool.and_eq_true] at this; exact this.1) b c d v (Rs.sh s r fun z => by have := e z; rw [D.ner, Bool.and_eq_true] at this; exact this.2)
theorem Rs.sh {P : Program} {w : World} {K : PySem.W.Frag} {T T' : TbT} {G : Gh} {H : Hp} {k : Bool} (s : Sh k T T') : ∀ {vs : List V} {ds : List D}, Rs ⟨P, w, K, T⟩ G H vs ds → (k = true → D.ners ds = true) → Rs ⟨P, w, K, T'⟩ G H vs ds
  | _, _, .nil, _ => .nil
  | _, _, .cons h r, e => .cons (R.sh s h fun z => by have := e z; rw [D.ners, Bool.and_eq_true] at this; exact this.1) (Rs.sh s r fun z => by have := e z; rw [D.ners, Bool.and_eq_true] at this; exact this.2)
end
section
variable {P : Program} {w : World} {K : PySem.W.Frag} {T T' : TbT} {G : Gh} {H : Hp} {k : Bool}
theorem BxAt.sh (s : Sh k T T') {n : Nat} {a : Addr} {b : Bx} (h : BxAt ⟨P, w, K, T⟩ G H n a b) (e : k = true → b.ner = true) : BxAt ⟨P, w, K, T'⟩ G H n a b := by
  cases h with
  | lst h r => exact .lst h (Rs.sh s r e)
  | ins h q =>
    refine .ins h ⟨q.len, q.few, q.nm, fun i d hd ho => ?_, fun i d hd => ?_⟩
    · obtain ⟨x, v, h1, h2, h3⟩ := q.vl i d hd ho
      exact ⟨x, v, h1, h2, R.sh s h3 fun z => List.all_eq_true.mp (e z) (some d) (List.mem_of_getElem? hd)⟩
    · obtain ⟨x, b, h1, h2, h3, o, h4, h5⟩ := q.ow i d hd
      exact ⟨x, b, h1, h2, h3, o, h4, Ob.sh s h5 fun z => List.all_eq_true.mp (e z) (some (.own d)) (List.mem_of_getElem? hd)⟩
  | dic h q => exact .dic h (Ob.sh s q e)
end
section
variable {F F' : Fx} {G : Gh} {H : Hp} {k : Bool}
/-- the same program, tables and lambdas -/
structure ShF (k : Bool) (F F' : Fx) : Prop where
  P : F.W.P = F'.W.P
  w : F.W.w = F'.W.w
  K : F.W.K = F'.W.K
  s : Sh k F.W.Tb F'.W.Tb
theorem ShF.r (s : ShF k F F') {v : V} {d : D} (h : R F.W G H v d) (e : k = true → d.ner = true) : R F'.W G H v d := by
  obtain ⟨⟨P, w, K, T⟩, ex⟩ := F
  obtain ⟨⟨P', w', K', T'⟩, ex'⟩ := F'
  obtain ⟨s1, s2, s3, s4⟩ := s
  cases s1; cases s2; cases s3
  exact R.sh s4 h e
theorem ShF.rs (s : ShF k F F') {vs : List V} {ds : List D} (h : Rs F.W G H vs ds) (e : k = true → D.ners ds = true) : Rs F'.W G H vs ds := by
  obtain ⟨⟨P, w, K, T⟩, ex⟩ := F
  obtain ⟨⟨P', w', K', T'⟩, ex'⟩ := F'
  obtain ⟨s1, s2, s3, s4⟩ := s
  cases s1; cases s2; cases s3
  exact Rs.sh s4 h e
theorem ShF.rel (s : ShF k F F') {r : Env} {st : Sto} {σ : L2.St} (L : Rel F G r st σ H) (e : k = true → r.all oner = true ∧ st.all Bx.ner = true) (kp : ∀ p ∈ F'.W.Tb.keep, R F'.W.nE G H p.1 p.2) : Rel F' G r st σ H := by
  obtain ⟨⟨P, w, K, T⟩, ex⟩ := F
  obtain ⟨⟨P', w', K', T'⟩, ex'⟩ := F'
  obtain ⟨s1, s2, s3, s4⟩ := s
  cases s1; cases s2; cases s3
  refine ⟨L.len, fun i d h ho => ?_, fun i d h => ?_, L.nb, fun n b h => ?_, ⟨fun p hp => ?_, fun p hp => ?_, kp⟩, L.on⟩
  · obtain ⟨v, h1, h2⟩ := L.vl i d h ho
    exact ⟨v, h1, R.sh s4 h2 fun z => List.all_eq_true.mp (e z).1 (some d) (List.mem_of_getElem? h)⟩
  · obtain ⟨a, h1, h2, o, h3, h4⟩ := L.ow i d h
    exact ⟨a, h1, h2, o, h3, Ob.sh s4 h4 fun z => List.all_eq_true.mp (e z).1 (some (.own d)) (List.mem_of_getElem? h)⟩
  · obtain ⟨h1, h2⟩ := L.bx n b h
    exact ⟨h1, h2.sh s4 fun z => List.all_eq_true.mp (e z).2 b (List.mem_of_getElem? h)⟩
  · exact L.tb.tb p (by show p ∈ T.tb; rw [s4.tb]; exact hp)
  · exact L.tb.lt p (by show p ∈ T.lt; rw [s4.lt]; exact hp)
/-- the name is told nothing of -/
theorem Rel.unset {r : Env} {st : Sto} {σ : L2.St} (L : Rel F G r st σ H) (i : Nat) : Rel F G (r.set i none) st (σ.set i none) H := by
  exact L.wipe [i]
end
end Mg
end
/-! ## DTry -/
section
set_option Elab.async false
set_option linter.all false
set_option maxRecDepth 100000
set_option maxHeartbeats 2500000
/-! try: f(..) / except LibraryError as n: suite; isinstance(n, C). -/
namespace Mg
open PySem PySem.Spec PyProof.Rows L2 GxR
/-- what the written part says of the errors l (by their numbers) -/
structure ExF (K : PySem.W.Frag) (l : List Nat) : Prop where
  cls : ∀ c ∈ l, ExcC K (He.ga K (exNm c))
  sub : ∀ c ∈ l, PySem.W.exmOne K (.ref (He.ga K (exNm c))) (.ref (He.ga K "LibraryError")) = some true
  is : ∀ c ∈ l, ∀ c' ∈ l, PySem.W.kitOne K (.ref (He.ga K (exNm c))) (.ref (He.ga K (exNm c'))) = some (c == c')
  ve : ∀ c ∈ l, PySem.W.kitOne K (.ref (He.ga K (exNm c))) (.type "ValueError") = some true
def excCB (K : PySem.W.Frag) (D : Addr) : Bool :=
  decide (PySem.W.findIn K (.ref D) "__getattribute__" = some (some (.builtin "BaseException.__getattribute__"))) && (decide (PySem.W.findIn K (.ref D) "__getattr__" = some none) && (decide (PySem.W.subIn K (.ref D) (.type "BaseException") = some true) && (PySem.W.hasDictIn K D &&
  (decide (PySem.W.findIn K (.ref D) "__class__" = some (some (.builtin "object.__class__"))) && (decide (PySem.W.specialIn K (.builtin "object.__class__") "__get__" = some (some (.builtin "getset_descriptor.__get__"))) && (decide (PySem.W.takesIn K (.builtin "object.__class__") = some true) && decide (PySem.W.mroIn K D (.type "object") = some true)))))))
theorem excCB_ok {K : PySem.W.Frag} {D : Addr} (h : excCB K D = true) : ExcC K D := by
  unfold excCB at h
  simp only [Bool.and_eq_true, decide_eq_true_eq] at h
  obtain ⟨h1, h2, h3, h4, h5, h6, h7, h8⟩ := h
  exact ⟨h1, h2, h3, h4, h5, h6, h7, h8⟩
def exFB (K : PySem.W.Frag) (l : List Nat) : Bool := l.all fun c => excCB K (He.ga K (exNm c)) && (decide (PySem.W.exmOne K (.ref (He.ga K (exNm c))) (.ref (He.ga K "LibraryError")) = some true) && (decide (PySem.W.kitOne K (.ref (He.ga K (exNm c))) (.type "ValueError") = some true) &&
  l.all fun c' => decide (PySem.W.kitOne K (.ref (He.ga K (exNm c))) (.ref (He.ga K (exNm c'))) = some (c == c'))))
theorem exFB_ok {K : PySem.W.Frag} {l : List Nat} (h : exFB K l = true) : ExF K l := by
  unfold exFB at h
  simp only [List.all_eq_true, Bool.and_eq_true, decide_eq_true_eq] at h
  exact ⟨fun c hc => excCB_ok (h c hc).1, fun c hc => (h c hc).2.1, fun c hc c' hc' => (h c hc).2.2.2 c' hc', fun c hc => (h c hc).2.2.1⟩
/-- an error is in hand -/
def Fx.er (F : Fx) (E : ErT) : Fx := ⟨{ F.W with Tb := { F.W.Tb with er := some E } }, fun _ _ _ _ _ _ => False⟩
instance fr0_er {F : Fx} {E : ErT} : Fr0 (F.er E) := ⟨fun _ _ _ _ _ _ _ h => h.elim⟩
class HasE (l : List Nat) (F : Fx) (X : Cx) : Prop where
  he : ∃ (E : ErT) (oe : Obj), F.W.Tb.er = some E ∧ (E.a, oe) ∈ X.pn ∧ Zc (.ref (He.ga X.K (exNm E.c))) E.d oe ∧ (∃ vs, oe.data = .fields vs) ∧ E.c ∈ l ∧ E.ns = exNs E.c
/-- try: φ / except LibraryError as the i-th name: b -/
def stTry (l : List Nat) (i : Nat) (φ : Ex) (b : Stm) : Stm := fun r st => match φ r st with
  | .ok x => .ok (.nx, r, x.2)
  | .bad => .bad
  | .exn c fs st' => if l.contains c then (b (r.set i (some (.err c fs))) st').nx.bind fun x => match x.1 with
    | .nx => if (x.2.1.set i none).all oner && x.2.2.all Bx.ner then .ok (.nx, x.2.1.set i none, x.2.2) else .bad
    | _ => .bad
    else .bad
section
variable {F : Fx} {X : Cx} {l : List Nat} {n : Str} {i : Nat} {e : Expr} {b₀ : Stmt} {suite : List Stmt} {np pos pos' epos : Pos} {φ : Ex} {b : Stm}
theorem Rel.wx {U : WX} {G : Gh} {r : Env} {st : Sto} {σ : L2.St} {H : Hp} (L : Rel F G r st σ H) : Rel (F.wx U) G r st σ H := ⟨L.len, L.vl, L.ow, L.nb, L.bx, L.tb, L.on⟩
theorem Rel.ofWx {U : WX} {G : Gh} {r : Env} {st : Sto} {σ : L2.St} {H : Hp} (L : Rel (F.wx U) G r st σ H) : Rel F G r st σ H := ⟨L.len, L.vl, L.ow, L.nb, L.bx, L.tb, L.on⟩
theorem shF_er {E : ErT} (h : F.W.Tb.er = none) : ShF false F (F.er E) := ⟨rfl, rfl, rfl, ⟨rfl, rfl, rfl, fun _ z => z, fun _ E z => by rw [h] at z; cases z⟩⟩
theorem shF_unEr {E : ErT} : ShF true (F.er E) F := ⟨rfl, rfl, rfl, ⟨rfl, rfl, rfl, fun _ z => z, fun z => by cases z⟩⟩
theorem ds_try [C : Ctx F X] (EF : ExF X.K l) (hs : X.stack = X.env :: X.outer) (hf : X.env.frame = some X.env.locals) (hN : X.N.Nodup) (hi : X.N[i]? = some n) (hln : X.env.kindOf n = some .local) (gL : Gl X "LibraryError") (mL : X.mg "LibraryError" = some (.ref (He.ga X.K "LibraryError"))) (ne : F.W.Tb.er = none)
    (hb : ∀ (U : WX) (pn : List (Addr × Obj)) (xe : Value → Shared → Prop), Ctx (F.wx U) (X.tr pn xe) → XTk (F.wx U) (X.tr pn xe) → PE (X.tr pn xe) e (tD (F.wx U) false φ))
    (hsu : ∀ (a : Addr) (oe : Obj) (pn : List (Addr × Obj)) (E : ErT), CtxW (F.er E) (X.suite a ((a, oe) :: pn)) → HasE l (F.er E) (X.suite a ((a, oe) :: pn)) → PSs (X.suite a ((a, oe) :: pn)) (b₀ :: suite) (tS (F.er E) b))
    (hsw : ∀ X' : Cx, X'.env = X.env → swapsWith e none epos.line X'.env = pure false) :
    PS X (.Try [.Expr e epos] [.ExceptHandler (some (.Name "LibraryError" np)) (some n) (b₀ :: suite) pos'] [] [] pos) (tS F (stTry l i φ b)) := by
  have un := C.un
  refine (ps_try_as (X := X) (tb := fun U => tDrop (tD (F.wx U) false φ)) (Wout := fun _ _ _ _ => False) (c := .ref (He.ga X.K "LibraryError"))
    (ts := fun a cls d D σ H => ∃ c, c ∈ l ∧ cls = .ref (He.ga X.K (exNm c)) ∧ tS (F.er ⟨a, c, d, exNs c⟩) b D σ H) hs hf hN hi hln ⟨gL, by decide, .inl mL⟩ LamX.takes0 (fun U pn xe tk _ => pss_one (ps_expr (hb U pn xe (Ctx.of C.P C.w C.K C.calm C.un C.hd) ⟨U, tk, fun c fs st' G' σ H' h => h⟩) (hsw _ rfl))) (fun a oe cls d pn hz hd => ⟨fun pins s σ H D I h => ?_⟩)).mimp fun D σ H ⟨G, r, st, L, k⟩ => ?_
  · obtain ⟨c, hc, hcl, h⟩ := h
    subst hcl
    exact (hsu a oe pn ⟨a, c, d, exNs c⟩ ⟨C.P, C.w, C.K, C.un⟩ ⟨⟨a, c, d, exNs c⟩, oe, rfl, List.mem_cons_self, hz, hd, hc, rfl⟩).run pins s σ H D I h
  · refine ⟨G, r, st, L.wx, ?_⟩
    unfold stTry at k
    revert k
    generalize φ r st = m
    intro k
    cases m with
    | bad => exact k
    | ok x => exact fun v H' G' L' ev hv => k _ H' G' L'.ofWx ev.evs
    | exn c fs st' =>
      intro H' G' L' ev cls d he
      simp only at k
      by_cases hc : l.contains c = true
      · rw [if_pos hc] at k
        have hc : c ∈ l := by simpa using hc
        obtain ⟨h1, kvs, vs, h2, h3, h4⟩ := he
        subst h1
        refine ⟨true, by rw [show F.W.K = X.K from C.K]; exact EF.sub c hc, fun _ a na => ⟨c, hc, by rw [show F.W.K = X.K from C.K], G', r.set i (some (.err c fs)), st', ?_, ?_⟩, fun z => by cases z⟩
        · refine ((shF_er ne).rel L'.ofWx (fun z => by cases z) L'.tb.kp).set (.er (E := ⟨a, c, d, exNs c⟩) (kvs := kvs) (vs := vs) rfl ?_ h3 ((shF_er ne).rs h4 fun z => by cases z))
          rcases h2 with ⟨_, h5, h6⟩ | h2
          · exact .inl ⟨h5, h6⟩
          · exact .inr h2
        · revert k
          generalize b (r.set i (some (.err c fs))) st' = m
          intro k
          cases m with
          | bad => exact k
          | exn c fs st2 => exact k.elim
          | ok x =>
            obtain ⟨fl, r2, st2⟩ := x
            simp only [Res.nx, Res.ok_bind] at k
            cases fl with
            | rt d => exact k.elim
            | bk => exact k.elim
            | ct => exact k.elim
            | nx =>
              simp only at k
              split at k
              · rename_i hch
                rw [Bool.and_eq_true] at hch
                exact fun σ' H2 G2 L2 e2 => k _ H2 G2 (shF_unEr.rel (L2.unset i) (fun _ => hch) L2.tb.kp) (ev.evs.trans e2)
              · exact k.elim
      · rw [if_neg hc] at k
        exact k.elim
end
/-! ### isinstance(n, C) -/
def sIsE (g : Nat → Bool) (φ : Ex) : Ex := fun r st => (φ r st).bind fun x => match x.1 with
  | .err c _ => .ok (.bl (g c), x.2)
  | _ => .bad
/-- isinstance(e, c), e the error in hand -/
def rIsX (K : PySem.W.Frag) (D a : Addr) (d : Option Addr) : List V → Hp → VK → Prop := fun xs H Q => ∃ (c : V) (cv : Value) (b : Bool), xs = [.ref a, c] ∧ (∀ u, RelV c u → u = cv) ∧ PySem.W.kitOne K (.ref D) cv = some b ∧ (d = none ∨ ∃ dd kvs, d = some dd ∧ H dd = some (.xd kvs)) ∧ Q (.bl b) H
theorem call_isX {X : Cx} {a D : Addr} {d : Option Addr} {oe : Obj} (hp : (a, oe) ∈ X.pn) (C : ExcC X.K D) (hz : Zc (.ref D) d oe) (hf : ∃ vs, oe.data = .fields vs) : CallR X (.builtin "isinstance") (rIsX X.K D a d) := by
  intro pins s σ H xs us Q I r h
  obtain ⟨c, cv, b, rfl, hcv, e, hd, q⟩ := h
  cases r with
  | cons rx rr =>
    cases rr with
    | cons rt rr =>
      cases rr
      cases rx
      have ec := hcv _ rt
      subst ec
      obtain ⟨hget, _⟩ := I.pin (a, oe) (List.mem_append_left _ hp)
      obtain ⟨vs, hv⟩ := hf
      have hcl : (PySem.W.clsIn X.K D).isSome = true := by
        obtain ⟨cd, hc, _⟩ := PySem.W.any_some C.hd
        rw [hc]; rfl
      have J : ∃ od, PySem.W.InstAt s.heap a oe D od := by
        obtain ⟨oc, od, oda, osl⟩ := oe
        obtain ⟨h1, h2⟩ := hz
        dsimp only at h1 h2 hv
        subst h1 h2 hv
        rcases hd with rfl | ⟨dd, kvs, rfl, hdd⟩
        · exact ⟨none, hget, rfl, rfl, trivial⟩
        · obtain ⟨mA, ⟨o, es, ep, ho, _⟩, _⟩ := show ∃ mA, s.heap.Ns1 dd mA ∧ ∀ f, RelO (kvs.lookup f) (mA f) from I.hok dd _ hdd
          exact ⟨some o, hget, rfl, rfl, ho⟩
      obtain ⟨od, J⟩ := J
      exact PySem.W.kia_one (PySem.W.kitx_exc hcl C.hg C.hk C.hs C.ha C.hn C.ht C.hm) I.kIn J e (fun z => nomatch z) fun tk => ⟨.bl b, H, I.kept (t' := tk) fun _ _ z => z, rfl, q⟩
theorem RV.err {F : Fx} {p : Bool} {G : Gh} {H : Hp} {v : V} {c : Nat} {fs : List D} (h : RV F p G H v (.err c fs)) : ∃ E kvs vs, F.W.Tb.er = some E ∧ v = .ref E.a ∧ E.c = c ∧ ErAt G H E kvs ∧ (∀ (i : Nat) (n : Str), E.ns[i]? = some n → ∃ v, vs[i]? = some v ∧ kvs.lookup n = some v) ∧ Rs F.W G H vs fs := by
  rcases h with h | ⟨a, q, rfl, ⟨o, ho, h⟩, _⟩
  · cases h with
    | er h1 h2 h3 h4 => exact ⟨_, _, _, h1, rfl, rfl, h2, h3, h4⟩
    | obj _ _ ob => cases ob
  · cases h
section
variable {l : List Nat} {F : Fx} {X : Cx} [C : CtxW F X] [HE : HasE l F X] {p : Bool} {e c : Expr} {φ : Ex} {pp pos : Pos}
theorem ve_isE {cv : V} {cu : Value} (EF : ExF X.K l) (g : Nat → Bool) (hcu : ∀ u, RelV cv u → u = cu) (hk : ∀ c ∈ l, PySem.W.kitOne X.K (.ref (He.ga X.K (exNm c))) cu = some (g c)) (he : PE X e (tV F p φ)) (hc : PE X c (tC cv)) (hg : Gl X "isinstance") (hm : X.mg "isinstance" = none)
    (hs : starEach [e, c] X.env = (false, eval e X.env) :: starEach [c] X.env := by rfl) (hs2 : starEach [c] X.env = (false, eval c X.env) :: starEach [] X.env := by rfl) (hpl : (backTo pos (starEach [c] X.env)).any (·.1) = false := by rfl) :
    PE X (.Call (.Name "isinstance" pp) [e, c] [] pos) (tD F p (sIsE g φ)) := by
  obtain ⟨E, oe, h1, h2, h3, h4, h5, h6⟩ := HE.he
  refine (pe_callB (call_isX h2 (EF.cls _ h5) h3 h4) hg hm rfl (pa_cons he (pa_cons hc pa_nil hs2) hs) (by decide) (by decide) hs hpl).mimp fun σ H Q ⟨G, r, st, L, k⟩ => ?_
  refine ⟨G, r, st, L, postV_bind k fun x v H1 G1 e1 L1 ev1 hx k1 => ?_⟩
  obtain ⟨d, st1⟩ := x
  cases d <;> (try (exact k1.elim))
  rename_i c0 fs
  obtain ⟨E', kvs, vs, q1, rfl, q3, q4, q5, q6⟩ := hx.err
  rw [h1] at q1
  cases q1
  subst q3
  refine ⟨cv, cu, g E.c, rfl, hcu, hk _ h5, ?_, k1 _ H1 G1 L1 .refl (.bl _)⟩
  rcases q4 with ⟨q, _⟩ | ⟨dd, q, _, q'⟩
  · exact .inl q
  · exact .inr ⟨dd, kvs, q, q'⟩
end
end Mg
end
/-! ## DLam -/
section
set_option Elab.async false
set_option linter.all false
set_option maxRecDepth 100000
set_option maxHeartbeats 2500000
/-! lambda: .. as a value: its making. -/
namespace Mg
open PySem PySem.Spec PyProof.Rows L2 GxR
/-- all but the tables stays; the table of lambdas stays one -/
structure Made (F : Fx) (H H' : Hp) : Prop where
  st : ∀ b o, H b = some o → (∀ ps, o ≠ .tbl ps) → H' b = some o
  up : ∀ b, H b ≠ none → H' b ≠ none
  tb : ∀ P ∈ F.W.Tb.tb, TabG H P → TabG H' P
  lt : ∀ p ∈ F.W.Tb.lt, TabL H p.1 p.2 → TabL H' p.1 p.2
theorem Made.refl {F : Fx} {H : Hp} : Made F H H := ⟨fun _ _ h _ => h, fun _ h => h, fun _ _ h => h, fun _ _ h => h⟩
theorem Made.trans {F : Fx} {H H1 H2 : Hp} (a : Made F H H1) (b : Made F H1 H2) : Made F H H2 := ⟨fun x o h n => b.st x o (a.st x o h n) n, fun x h => b.up x (a.up x h), fun P h t => b.tb P h (a.tb P h t), fun p h t => b.lt p h (a.lt p h t)⟩
theorem TabL.lay {H : Hp} {P a : Addr} {q : Str} {o : HO} (h : H a = none) (t : TabL H P q) : TabL (upd H a o) P q :=
  (St1.lay (G := ⟨fun _ => none, fun _ => 0, 0⟩) (o := o) h).tabL t fun ps e => by rw [upd_ne (ne_of_none e h)]; exact e
theorem Made.lay {F : Fx} {H : Hp} {a : Addr} {o : HO} (h : H a = none) : Made F H (upd H a o) :=
  ⟨fun b u e _ => by rw [upd_ne (ne_of_none e h)]; exact e, fun b e => by
    by_cases z : b = a
    · rw [z, upd_same]; simp
    · rw [upd_ne z]; exact e, fun P _ t => TabG.lay h t, fun p _ t => t.lay h⟩
theorem Made.st1 {F : Fx} {G : Gh} {H H' : Hp} (m : Made F H H') : St1 G H G H' :=
  ⟨fun a xs h => m.st _ _ h (fun _ z => nomatch z), fun a o u h => m.st _ _ h (fun _ z => nomatch z), fun a o _ h nt => m.st _ _ h nt, fun _ h => h, Nat.le_refl _, fun _ _ => rfl, m.up⟩
theorem Rel.made {F : Fx} {G : Gh} {r : Env} {st : Sto} {σ : L2.St} {H H' : Hp} (L : Rel F G r st σ H) (m : Made F H H') : Rel F G r st σ H' :=
  L.mono m.st1 (fun x q e nt => ⟨m.st _ _ e nt, rfl⟩) rfl ⟨fun P h => m.tb P h (L.tb.tb P h), fun p h => m.lt p h (L.tb.lt p h), fun p h => R.mono m.st1 (L.tb.kp p h)⟩ fun x q e => m.up x (L.on x q e)
theorem Ev.made {F : Fx} {p : Bool} {G : Gh} {H H' : Hp} (m : Made F H H') : Ev p G H G H' := ⟨m.st1, fun a o _ _ h nt => ⟨m.st _ _ h nt, rfl⟩, fun _ a o h nt => ⟨m.st _ _ h nt, rfl⟩⟩
/-- a table of lambdas got a code object -/
theorem Made.row {F : Fx} {H : Hp} {P c' : Addr} {q : Str} {ps : Array Value} {pos : Pos} {oc : Obj} {u : HO} {vs : Array Value} {t : Tok} (hP : H P = some (.tbl ps)) (ht : TriplesOk ps.toList) (hl : ∀ (p' : Pos) (cv : Value), codeAmong p' ps.toList = some cv →
    ∃ (c : Addr) (oc : Obj) (vs : Array Value) (t : Tok) (x : HO), cv = .ref c ∧ H c = some (.frz oc x) ∧ oc.data = .fields vs ∧ vs[1]? = some (.str q t)) (hn : H c' = none) (hd : oc.data = .fields vs) (hv : vs[1]? = some (.str q t))
    (hu : ∀ p ∈ F.W.Tb.lt, p.1 = P → p.2 = q) : Made F H (upd (upd H P (.tbl (ps ++ #[rawInt pos.line, rawInt pos.col, .ref c']))) c' (.frz oc u)) := by
  have nP : P ≠ c' := ne_of_none hP hn
  have eL : (ps ++ #[rawInt pos.line, rawInt pos.col, .ref c']).toList = ps.toList ++ [rawInt pos.line, rawInt pos.col, .ref c'] := by simp
  have tk : TriplesOk (ps ++ #[rawInt pos.line, rawInt pos.col, .ref c']).toList := by rw [eL]; exact PySem.TriplesOk_snoc _ _ _ _ ht
  have stay : ∀ b o, H b = some o → (∀ ps, o ≠ .tbl ps) → upd (upd H P (.tbl (ps ++ #[rawInt pos.line, rawInt pos.col, .ref c']))) c' (.frz oc u) b = some o := fun b o e nt => by
    rw [upd_ne (ne_of_none e hn), upd_ne fun z => by rw [z, hP] at e; cases e; exact nt _ rfl]; exact e
  refine ⟨stay, fun b e => ?_, fun P' _ t' => ?_, fun p hp t' => ?_⟩
  · by_cases z : b = c'
    · rw [z, upd_same]; simp
    · rw [upd_ne z]
      by_cases z2 : b = P
      · rw [z2, upd_same]; simp
      · rw [upd_ne z2]; exact e
  · obtain ⟨ps', e, t2⟩ := t'
    by_cases z : P' = P
    · subst z
      exact ⟨_, by rw [upd_ne nP, upd_same], tk⟩
    · exact ⟨ps', by rw [upd_ne (ne_of_none e hn), upd_ne z]; exact e, t2⟩
  · obtain ⟨ps', e, t2, t3⟩ := t'
    by_cases z : p.1 = P
    · rw [z, hu p hp z]
      refine ⟨_, by rw [upd_ne nP, upd_same], tk, fun p' cv h => ?_⟩
      rw [eL] at h
      rcases LamX.among_app _ ht h with h | h
      · obtain ⟨c, oc2, vs2, t4, x, e1, e2, e3, e4⟩ := hl p' cv h
        exact ⟨c, oc2, vs2, t4, x, e1, stay _ _ e2 (fun _ z => by cases z), e3, e4⟩
      · exact ⟨c', oc, vs, t, u, h, upd_same, hd, hv⟩
    · refine ⟨ps', by rw [upd_ne (ne_of_none e hn), upd_ne z]; exact e, t2, fun p' cv h => ?_⟩
      obtain ⟨c, oc2, vs2, t4, x, e1, e2, e3, e4⟩ := t3 p' cv h
      exact ⟨c, oc2, vs2, t4, x, e1, stay _ _ e2 (fun _ z => by cases z), e3, e4⟩
section
variable {X : Cx} {F : Fx} {pins : List (Addr × Obj)} {σ : L2.St} {H : Hp} {s : Shared} {params : Arguments} {body : Expr} {scope : Scope} {pos : Pos} {c P : Addr}
/-- the end of a lambda's making, its default at dV -/
theorem lam_tail {dV : Value} {Q : Value → Shared → Prop} {E : Value → Shared → Prop} (I : Inv X pins σ H s) (TB : LamX.TabB X.base X.mg c P) (hcode : X.env.code = .ref c) (hT : TabL H P (X.env.qual ++ "<lambda>")) (hu : ∀ p ∈ F.W.Tb.lt, p.1 = P → p.2 = X.env.qual ++ "<lambda>")
    (hfree : ∀ y ∈ scope.names, y.2 = .free → ∃ c, X.env.cells.lookup y.1 = some c) (hdf : DfAt H params dV)
    (h : ∀ f H' s', Inv X pins σ H' s' → Made F H H' → FnAt H' f (X.env.qual ++ "<lambda>") ⟨params, body, scope⟩ (cloFrom X.env.cells scope.names []) → Q (.ref f) s') :
    wpAny (model X.prog X.w) X.A (makeTail "<lambda>" (X.env.qual ++ "<lambda>") params (.expr body) scope X.env dV .none none pos pos.line) Q E s := by
  obtain ⟨ps, hP, ht, ha⟩ := hT
  have bP : s.heap.BuiltinsAt X.mg P := TB.bm.keeps I.bk
  have hP' : s.heap.get? P = some { cls := .none, data := .fields ps } := I.hok P _ hP
  -- the function object is laid and known from now on
  have fin : ∀ {H1 : Hp} {h1 : Heap} {t1 : Tok} {doc ctv : Value} {c' : Addr} {oc : Obj} {vs : Array Value} {t : Tok} {u2 : HO}, Inv X pins σ H1 { s with heap := h1, toks := t1 } → Made F H H1 → H1 c' = some (.frz oc u2) → oc.data = .fields vs → vs[1]? = some (.str (X.env.qual ++ "<lambda>") t) → s.heap.objs.size ≤ h1.objs.size →
      Q (.ref h1.objs.size) { s with heap := h1.push (PySem.W.kdv_obj "<lambda>" (X.env.qual ++ "<lambda>") params (.expr body) scope (cloFrom X.env.cells scope.names []) dV doc ((X.mg "__name__").getD .none) c' ctv), toks := t1 } := by
    intro H1 h1 t1 doc ctv c' oc vs t u2 I1 m h2 h3 h4 hsz
    have hn : H1 h1.objs.size = none := I1.hok.fresh (Nat.le_refl _)
    have hg : (h1.push (PySem.W.kdv_obj "<lambda>" (X.env.qual ++ "<lambda>") params (.expr body) scope (cloFrom X.env.cells scope.names []) dV doc ((X.mg "__name__").getD .none) c' ctv)).get? h1.objs.size = some (PySem.W.kdv_obj "<lambda>" (X.env.qual ++ "<lambda>") params (.expr body) scope (cloFrom X.env.cells scope.names []) dV doc ((X.mg "__name__").getD .none) c' ctv) := Heap.get?_push_size _ rfl
    have I2 := I1.laid (t' := t1) (a := h1.objs.size) (o := .frz (PySem.W.kdv_obj "<lambda>" (X.env.qual ++ "<lambda>") params (.expr body) scope (cloFrom X.env.cells scope.names []) dV doc ((X.mg "__name__").getD .none) c' ctv) (.own 0))
      (h' := h1.push (PySem.W.kdv_obj "<lambda>" (X.env.qual ++ "<lambda>") params (.expr body) scope (cloFrom X.env.cells scope.names []) dV doc ((X.mg "__name__").getD .none) c' ctv)) (fun b o e => Heap.get?_push_of_some _ e) (Nat.le_refl _) ⟨hg, _, hg⟩
    have m2 := m.trans (Made.lay (F := F) (o := .frz (PySem.W.kdv_obj "<lambda>" (X.env.qual ++ "<lambda>") params (.expr body) scope (cloFrom X.env.cells scope.names []) dV doc ((X.mg "__name__").getD .none) c' ctv) (.own 0)) hn)
    refine h _ _ _ I2 m2 ⟨dV, doc, _, ctv, c', oc, vs, t, .own 0, u2, upd_same, by rw [upd_ne (ne_of_none h2 hn)]; exact h2, h3, h4, ?_⟩
    rcases hdf with hdf | ⟨a, u, x, e, hdf⟩
    · exact .inl hdf
    · exact .inr ⟨a, u, x, e, m2.st _ _ hdf fun _ z => by cases z⟩
  cases hc : codeAmong pos ps.toList with
  | none =>
    refine PySem.W.kdv_makeTail (mg := X.mg) (c := c) (P := P) (ps := ps) (closure_ok hfree) I.ok.glob (I.mod.glob.keeps I.bk) hcode (TB.code.keeps I.bk) hP' ht hc TB.gP bP fun c' ctv doc h' tk hx hge hlt hrec htb => ?_
    obtain ⟨c2, oc, vs, t, e2, hoc, hd, hv⟩ := hrec
    cases e2
    have I1 := LamX.inv_table (t' := tk) (q := X.env.qual ++ "<lambda>") (more := #[rawInt pos.line, rawInt pos.col, .ref c']) (h' := h') I hP (fun b o hb e => hx b o hb e) htb hge ⟨oc, vs, t, hoc, hd, hv⟩
    obtain ⟨od, I2⟩ := I1.lock (d := c') (u := LamX.CodeO c' (X.env.qual ++ "<lambda>")) upd_same trivial
    rw [upd_upd] at I2
    have eo : h'.get? c' = some od := (I2.hok c' _ upd_same).1
    rw [hoc] at eo
    cases eo
    exact fin I2 (Made.row hP ht ha (I.hok.fresh hge) hd hv hu) upd_same hd hv (Nat.le_trans hge (Nat.le_of_lt hlt))
  | some cv =>
    obtain ⟨c', oc, vs, t, x, e, hco, hd, hv⟩ := ha pos cv hc
    subst e
    refine PySem.W.kdv_makeTailHit (mg := X.mg) (c := c) (P := P) (ps := ps) (closure_ok hfree) I.ok.glob (I.mod.glob.keeps I.bk) hcode (TB.code.keeps I.bk) hP' ht hc bP fun ctv doc h' tk hx hsz => ?_
    exact fin (I.kept (t' := tk) fun b o e => hx b o e) .refl hco hd hv hsz
/-- what the maker of lambdas must bear -/
structure Maker (F : Fx) (X : Cx) (M : MeT) (c P : Addr) : Prop where
  me : F.W.Tb.me = some M
  cells : M.cells = X.env.cells
  q : M.q = X.env.qual ++ "<lambda>"
  tab : LamX.TabB X.base X.mg c P
  code : X.env.code = .ref c
  mem : (P, M.q) ∈ F.W.Tb.lt
  only : ∀ p ∈ F.W.Tb.lt, p.1 = P → p.2 = M.q
variable {p : Bool}
theorem de_lam0 {M : MeT} (mk : Maker F X M c P) (k : Nat) (hk : M.lam[k]? = some ⟨params, body, scope⟩) (hdef : defaultsOf params X.env = ([], [])) (hd0 : params.defaults = []) (hfree : ∀ (O : X.Ok) (y), y ∈ scope.names → y.2 = .free → ∃ c, X.env.cells.lookup y.1 = some c) :
    PE X (.Lambda params body scope pos) (tD F p (sC (.fo k))) := by
  refine ⟨fun pins s σ H Q I ⟨G, r, st, L, h⟩ => PySem.W.kla_eval hdef ?_⟩
  rw [makeFunction_eq]
  simp only [List.zip_nil_right, List.filterMap_nil, List.isEmpty_nil, if_true, pure_bind]
  refine lam_tail (F := F) I mk.tab mk.code (mk.q ▸ L.tb.lt _ mk.mem) (fun p hp e => (mk.only p hp e).trans mk.q) (fun y hy e => hfree I.ok y hy e) (.inl ⟨hd0, rfl⟩) fun f H' s' I' m fn => ?_
  exact ⟨.ref f, H', I', rfl, h _ _ _ (L.made m) (.made m) (.fo mk.me hk (by rw [mk.q, mk.cells]; exact fn))⟩
/-- .. with a parameter that has a number for its default -/
theorem de_lam1 {M : MeT} {de : Expr} {i : Int} (mk : Maker F X M c P) (k : Nat) (hk : M.lam[k]? = some ⟨params, body, scope⟩) (hd1 : params.defaults = [de]) (hk0 : params.kw_defaults = []) (he : PE X de (tC (.int i))) (hfree : ∀ (O : X.Ok) (y), y ∈ scope.names → y.2 = .free → ∃ c, X.env.cells.lookup y.1 = some c) :
    PE X (.Lambda params body scope pos) (tD F p (sC (.fo k))) := by
  refine ⟨fun pins s σ H Q I ⟨G, r, st, L, h⟩ => PySem.W.kdv_lam (by rw [hd1]; rfl) hk0 ?_⟩
  rw [hd1]
  refine PySem.W.kdv_all1 (thn (he.run pins s σ H (fun v H1 => v = .int i ∧ H1 = H) I ⟨rfl, rfl⟩) fun u s1 ⟨v, H1, I1, r1, ev, eH⟩ => PySem.W.kdv_all0 ?_)
  subst ev
  subst eH
  rw [makeFunction_eq]
  simp only [List.zip_nil_right, List.filterMap_nil, List.isEmpty_nil, List.isEmpty_cons, Bool.false_eq_true, if_false, if_true, pure_bind]
  refine wpAny_bind (wpAny_newTextTuple ?_)
  have hn : H1 s1.heap.objs.size = none := I1.hok.fresh (Nat.le_refl _)
  have hg : (s1.heap.push (PySem.W.kdv_tup [u])).get? s1.heap.objs.size = some (PySem.W.kdv_tup [u]) := Heap.get?_push_size _ rfl
  have I2 := I1.laid (t' := s1.toks) (a := s1.heap.objs.size) (o := .frz (PySem.W.kdv_tup [u]) (.own 0)) (h' := s1.heap.push (PySem.W.kdv_tup [u])) (fun b o e => Heap.get?_push_of_some _ e) (Nat.le_refl _) ⟨hg, _, hg⟩
  have m2 : Made F H1 (upd H1 s1.heap.objs.size (.frz (PySem.W.kdv_tup [u]) (.own 0))) := Made.lay hn
  refine lam_tail (F := F) I2 mk.tab mk.code (mk.q ▸ m2.lt _ mk.mem (L.tb.lt _ mk.mem)) (fun p hp e => (mk.only p hp e).trans mk.q) (fun y hy e => hfree I.ok y hy e) (.inr ⟨_, u, _, ⟨by rw [hd1]; simp, rfl⟩, upd_same⟩) fun f H' s' I' m fn => ?_
  exact ⟨.ref f, H', I', rfl, h _ _ _ (L.made (m2.trans m)) (.made (m2.trans m)) (.fo mk.me hk (by rw [mk.q, mk.cells]; exact fn))⟩
end
end Mg
end
/-! ## DLamA -/
section
set_option Elab.async false
set_option linter.all false
set_option maxRecDepth 100000
set_option maxHeartbeats 2500000
/-! x(), x bound to a lambda of a def that still runs. -/
namespace Mg
open PySem PySem.Spec PyProof.Rows L2 GxR
/-- what is known of the maker X's cells, its slots being σ, in a heap that the maker knows H of -/
structure Kn (X : Cx) (σ : L2.St) (h : Heap) (H : Hp) : Prop where
  len : σ.length = X.N.length
  inj : ∀ x y c, X.env.cells.lookup x = some c → X.env.cells.lookup y = some c → x = y
  has : ∀ x, (X.env.scope.names.lookup x = some .cell ∨ X.env.scope.names.lookup x = some .free) → ∃ c, X.env.cells.lookup x = some c
  cell : ∀ x c, X.env.cells.lookup x = some c → H c = none ∧ ∃ v, h.IsCell c v
  loc : ∀ (i : Nat) (x : Str) (v : V), X.N[i]? = some x → σ[i]? = some (some v) → (X.env.scope.names.lookup x = some .cell ∨ X.env.scope.names.lookup x = some .free) → ∃ c u, X.env.cells.lookup x = some c ∧ RelV v u ∧ h.IsCell c (some u)
theorem Inv.kn {X : Cx} {pins : List (Addr × Obj)} {σ : L2.St} {H : Hp} {s : Shared} (I : Inv X pins σ H s) : Kn X σ s.heap H where
  len := I.len
  inj := I.ok.inj
  has := I.ok.has
  cell := fun x c e => ⟨I.freeC x c e, I.cell x c e⟩
  loc := fun i x v hx hv k => by
    obtain ⟨m, _, q⟩ := I.loc
    obtain ⟨u, r, l⟩ := q i x v hx hv (.inr k)
    rcases l with ⟨l, _⟩ | ⟨_, c, e, z⟩
    · have l : X.env.scope.names.lookup x = some .local := l
      rcases k with k | k <;> rw [l] at k <;> cases k
    · exact ⟨c, u, e, r, z⟩
theorem Kn.un {X : Cx} {σ : L2.St} {h h' : Heap} {H H' : Hp} {fs ex : List Addr} (k : Kn X σ h H) (u : Un fs ex H H' h h') (hx : ∀ x c, X.env.cells.lookup x = some c → c ∉ ex) : Kn X σ h' H' := by
  have mv : ∀ {x c v}, X.env.cells.lookup x = some c → h.IsCell c v → h'.IsCell c v := fun {x c v} e ⟨o, ho, hd⟩ => by
    obtain ⟨sl, q⟩ := u.any ho (k.cell x c e).1 (hx x c e)
    exact ⟨_, q, hd⟩
  refine ⟨k.len, k.inj, k.has, fun x c e => ?_, fun i x v h1 h2 h3 => ?_⟩
  · obtain ⟨n, v, z⟩ := k.cell x c e
    obtain ⟨o, ho, _⟩ := id z
    exact ⟨u.free c o ho n (hx x c e), v, mv e z⟩
  · obtain ⟨c, w, e, r, z⟩ := k.loc i x v h1 h2 h3
    exact ⟨c, w, e, r, mv e z⟩
/-- other slots are told of, but for the cells the same -/
theorem Kn.slots {X : Cx} {σ σ' : L2.St} {h : Heap} {H : Hp} (k : Kn X σ h H) (hl : σ'.length = σ.length) (hs : ∀ (i : Nat) (x : Str), X.N[i]? = some x → (X.env.scope.names.lookup x = some .cell ∨ X.env.scope.names.lookup x = some .free) → σ'[i]? = σ[i]?) : Kn X σ' h H :=
  ⟨hl.trans k.len, k.inj, k.has, k.cell, fun i x v h1 h2 h3 => k.loc i x v h1 ((hs i x h1 h3) ▸ h2) h3⟩
/-- a context that was entered where the maker's cells were known -/
class KnC (X : Cx) (σ : L2.St) (Z : Cx) : Prop where
  kn : Kn X σ Z.s_0.heap Z.H_0
  ex : ∀ x c, X.env.cells.lookup x = some c → c ∉ Z.ex
  P : Z.prog = X.prog
  w : Z.w = X.w
  K : Z.K = X.K
  mg : Z.mg = X.mg
  base : Z.base = X.base
theorem KnC.at {X Z : Cx} {σ0 σ : L2.St} {pins : List (Addr × Obj)} {H : Hp} {s : Shared} (k : KnC X σ0 Z) (I : Inv Z pins σ H s) : Kn X σ0 s.heap H := k.kn.un I.base k.ex
/-- a lambda's names: captured ones, globals, its own ones that the maker has not -/
structure LamW (N : List Str) (sc scope : Scope) : Prop where
  kind : scope.kind = .function
  co : scope.isCoroutine = false
  gen : scope.isGenerator = false
  cell : ∀ y ∈ scope.names, y.2 ≠ .cell
  own : ∀ y ∈ scope.names, y.2 = .local → y.1 ∉ N
  free : ∀ y ∈ scope.names, y.2 = .free → sc.names.lookup y.1 = some .cell ∨ sc.names.lookup y.1 = some .free
def lamWB (N : List Str) (sc scope : Scope) : Bool :=
  decide (scope.kind = .function) && (!scope.isCoroutine && (!scope.isGenerator && scope.names.all fun y => !decide (y.2 = .cell) && ((!decide (y.2 = .local) || !N.contains y.1) && (!decide (y.2 = .free) || (decide (sc.names.lookup y.1 = some .cell) || decide (sc.names.lookup y.1 = some .free))))))
theorem lamW_by {N : List Str} {sc scope : Scope} (h : lamWB N sc scope = true) : LamW N sc scope := by
  unfold lamWB at h
  simp only [Bool.and_eq_true, Bool.or_eq_true, Bool.not_eq_true', decide_eq_true_eq, decide_eq_false_iff_not, List.all_eq_true] at h
  obtain ⟨h1, h2, h3, h4⟩ := h
  refine ⟨h1, h2, h3, fun y hy => (h4 y hy).1, fun y hy e => ?_, fun y hy e => ?_⟩
  · rcases (h4 y hy).2.1 with z | z
    · exact absurd e z
    · simpa using z
  · rcases (h4 y hy).2.2 with z | z
    · exact absurd e z
    · exact z
theorem LamW.has {X : Cx} {scope : Scope} (L : LamW X.N X.env.scope scope) (ok : X.Ok) : ∀ y ∈ scope.names, y.2 = .free → ∃ c, X.env.cells.lookup y.1 = some c := fun y hy e => ok.has _ (L.free y hy e)
/-- how a lambda's own parameter is bound: there is none; it has a default -/
inductive Bound (L : LamC) : Prop
  | zero : L.params.defaults = [] → (∀ (q : Str) (cl : List (Str × Addr)) (doc pm cd ct : Value), bindArgs (PySem.W.kdv_fn "<lambda>" q L.params (.expr L.body) L.scope cl .none doc pm cd ct) ⟨[], []⟩ = pure []) → Bound L
  | one (y : Str) : L.scope.names.lookup y = some .local → L.params.defaults ≠ [] → (∀ (q : Str) (cl : List (Str × Addr)) (T : Addr) (doc pm cd ct : Value), ∃ k : Option (Array Value) → Sem (List (Str × Value)),
      bindArgs (PySem.W.kdv_fn "<lambda>" q L.params (.expr L.body) L.scope cl (.ref T) doc pm cd ct) ⟨[], []⟩ = seqItems? (.ref T) >>= k ∧ ∀ u, k (some #[u]) = pure [(y, u)]) → Bound L
theorem Bound.to {L : LamC} (b : Bound L) {P : Program} {w : World} {H : Hp} {s : Shared} {q : Str} {cl : List (Str × Addr)} {dV doc pm cd ct : Value} (hok : HOk P w H s.heap) (d : DfAt H L.params dV) :
    ∃ binds, BindsTo s (PySem.W.kdv_fn "<lambda>" q L.params (.expr L.body) L.scope cl dV doc pm cd ct) ⟨[], []⟩ binds ∧ ∀ y ∈ binds, L.scope.names.lookup y.1 = some .local := by
  cases b with
  | zero h1 h2 =>
    rcases d with ⟨_, rfl⟩ | ⟨_, _, _, ⟨h3, _⟩, _⟩
    · exact ⟨[], BindsTo.of_eq (h2 _ _ _ _ _ _), fun y hy => by simp at hy⟩
    · exact absurd h1 h3
  | one y h1 h2 h3 =>
    rcases d with ⟨h4, _⟩ | ⟨t, u, x, ⟨_, rfl⟩, h4⟩
    · exact absurd h4 h2
    · obtain ⟨k, e1, e2⟩ := h3 q cl t doc pm cd ct
      refine ⟨[(y, u)], BindsTo.of_defaults (T := t) (n := 0) rfl (hok _ _ h4).1 rfl e1 (e2 u), fun z hz => ?_⟩
      rw [List.mem_singleton] at hz
      rw [hz]
      exact h1
section
variable {X : Cx} {σ : L2.St} {HZ : Hp} {s1 : Shared}
/-- a lambda's body begins: the maker's slots stand, by its cells -/
theorem lam_enter {A : Around} {outer : List PySem.Env} {E : XK} {scope : Scope} {f c' : Addr} {h₁ : Heap} {tk : Nat} {m : Str → Option Value} (kn : Kn X σ s1.heap HZ) (L : LamW X.N X.env.scope scope) (e0 : Env0 X.prog X.w X.K X.mg X.base A outer s1 HZ) (hd : A.handled = none)
    (hns : h₁.Ns s1.heap.objs.size m) (kp : ∀ b o, s1.heap.get? b = some o → h₁.get? b = some o) : Inv (LamX.lamCx X A outer s1 HZ E scope f c') [] σ HZ { s1 with heap := h₁, toks := tk } := by
  have own : ∀ {y c}, (cloFrom X.env.cells scope.names []).lookup y = some c → X.env.cells.lookup y = some c := fun {y c} e => by
    rcases cloFrom_mem (PySem.mem_of_lookup e) with z | ⟨z, ec⟩
    · simp at z
    · obtain ⟨d, hd⟩ := kn.has y (L.free _ z rfl)
      rw [ec, hd] <;> rfl
  have held : ∀ {y}, scope.names.lookup y = some .free → ∃ c, (cloFrom X.env.cells scope.names []).lookup y = some c ∧ X.env.cells.lookup y = some c := fun {y} e =>
    let ⟨c, h⟩ := mem_lookup (cloFrom_has (cells := X.env.cells) (acc := []) (PySem.mem_of_lookup e)); ⟨c, h, own h⟩
  have nocell : ∀ {y}, scope.names.lookup y ≠ some .cell := fun {y} e => L.cell _ (PySem.mem_of_lookup e) rfl
  refine {
    ok := {
      mod := e0.mod, kind := L.kind, glob := rfl, blt := rfl, above := Nat.le_refl _, hd := fun _ => hd, frames := Around.frames_deeper e0.frames, stk := .inr ⟨rfl, rfl⟩, bs := e0.bs, bsz := e0.bsz, funs := e0.funs, frf := e0.frf
      inj := fun x y c e1 e2 => kn.inj x y c (own e1) (own e2)
      has := fun y h => by
        rcases h with h | h
        · exact absurd h nocell
        · obtain ⟨c, e, _⟩ := held h
          exact ⟨c, e⟩
      cab := fun _ _ z => by cases z
      exf := fun b z => by cases z
      noex := fun _ _ _ z => by cases z
      exfs := fun b z => by cases z }
    os := rfl
    bare := e0.bare
    base := Un.kept kp
    loc := ⟨_, hns, fun i y v h1 h2 h3 => ?_⟩
    cell := fun y c e => (kn.cell y c (own e)).2.elim fun v z => ⟨v, z.keeps kp⟩
    free := e0.hok.fresh (Nat.le_refl _)
    freeC := fun y c e => (kn.cell y c (own e)).1
    pin := fun p h => by
      have h : p ∈ ([] : List (Addr × Obj)) ++ [] := h
      simp at h
    hok := e0.hok.kept kp
    len := kn.len }
  have h3 : Vis scope y := h3
  rcases h3 with h3 | h3 | h3
  · exact absurd (List.mem_of_getElem? h1) (L.own _ (PySem.mem_of_lookup h3) rfl)
  · exact absurd h3 nocell
  · obtain ⟨c, e1, e2⟩ := held h3
    obtain ⟨c2, u, e3, r, z⟩ := kn.loc i y v h1 h2 (L.free _ (PySem.mem_of_lookup h3) rfl)
    rw [e2] at e3
    cases e3
    exact ⟨u, r, .inr ⟨.inr h3, c, e1, z.keeps kp⟩⟩
/-- x(): the name holds a lambda of the maker X -/
theorem pe_lact {Z : Cx} {σ0 : L2.St} {q a : Str} {L : LamC} {U : WX} {j i : Nat} {p1 p2 : Pos} {pins : List (Addr × Obj)} {sZ : Shared} {σZ : L2.St} {H : Hp} {f : Addr} {Q : VK} {tb : TE} [kc : KnC X σ0 Z] (IZ : Inv Z pins σZ H sZ) (hq : q = X.env.qual ++ "<lambda>") (LW : LamW X.N X.env.scope L.scope) (B : Bound L) (tk : Takes Z U) (hr : Room (j + 1) Z.A)
    (hN : Z.N[i]? = some a) (hv : Vis Z.env.scope a) (hσ : σZ[i]? = some (some (.ref f))) (fn : FnAt H f q L (cloFrom X.env.cells L.scope.names []))
    (hbody : ∀ (A : Around) (outer : List PySem.Env) (s : Shared) (H : Hp) (c' : Addr), Room j (A.deeper (LamX.lamEnv X L.scope s.heap.objs.size f c')) → PE (LamX.lamCx X A outer s H (WE U σZ) L.scope f c') L.body tb) (ht : tb σ0 H Q)
    (hd : (a == ("__debug__" : Str)) = false := by decide) (hcd : (a == ("__classdict__" : Str)) = false := by decide) :
    wpAny (model Z.prog Z.w) Z.A (eval (.Call (.Name a p1) [] [] p2) Z.env) (EP Z pins σZ Q) Z.xe sZ := by
  refine wpAny_Call_Name_kw (thn ((pe_var (pos := p1) (i := i) hN hv hd hcd).run pins sZ σZ H (fun v H1 => v = .ref f ∧ H1 = H) IZ ⟨.ref f, hσ, rfl, rfl⟩) fun u s1 ⟨v, H1, I1, r1, ev, eH⟩ => ?_)
  subst ev
  subst eH
  obtain rfl : u = Value.ref f := r1
  obtain ⟨dV, doc, pm, ctv, c', oc, vs, t, u1, u2, hf, hc, hoc, hvs, hdf⟩ := fn
  have of1 := (I1.hok _ _ hf).1
  have oc1 := (I1.hok _ _ hc).1
  have kn := kc.at I1
  obtain ⟨binds, hb, hloc⟩ := B.to (q := q) (cl := cloFrom X.env.cells L.scope.names []) (doc := doc) (pm := pm) (cd := .ref c') (ct := ctv) I1.hok hdf
  have e0 : Env0 X.prog X.w X.K X.mg X.base Z.A Z.stack s1 H1 := by
    have := I1.env0
    rw [kc.P, kc.w, kc.K, kc.mg, kc.base] at this
    exact this
  subst hq
  refine PySem.W.callWith_F0 ⟨_, _, _, _, of1⟩ ?_
  have rc : codeAny (model Z.prog Z.w) Z.A (.call (.ref f) ⟨[], []⟩) (CR (L2.CX Z.prog Z.w) Z.stack Z.prog Z.w H1 s1 Q (WE U σZ)) s1 := by
    refine PySem.W.kla_callFunE hr.depth of1 rfl LW.co LW.gen rfl ⟨c', oc, vs, t, rfl, oc1, hoc, hvs⟩ (hb _ _ _ _ ?_)
    refine wpAny_newFunctionEnv LW.cell hloc (fun h₁ hns hsb => ⟨I1.nolimit.fresh _ hsb, ?_⟩) LW.kind
    show codeAny _ _ (.expr L.body (LamX.lamEnv X L.scope s1.heap.objs.size f c')) _ _
    have kp : ∀ b o, s1.heap.get? b = some o → h₁.get? b = some o := fun b o e => hsb.extBut b o (Nat.ne_of_lt (Heap.lt_size e)) (Heap.get?_push_of_some _ e)
    have J := lam_enter (A := Z.A) (outer := Z.stack) (E := WE U σZ) (f := f) (c' := c') (tk := s1.toks + binds.length) kn LW e0 hr.hd hns kp
    have hw := (hbody Z.A Z.stack s1 H1 c' (hr.deeper _)).run [] _ _ H1 Q J ht
    rw [kc.P, kc.w]
    refine PySem.W.kla_codeExpr (wpAny_mono hw (fun v s' hq => ?_) fun e s' hq => hq)
    obtain ⟨v', H', J', rv, q⟩ := hq
    exact ⟨v', H', J'.os, J'.bare, J'.base, J'.hok, rv, q⟩
  refine wpAny_call (codeAny_mono rc fun r s' hq => ?_)
  cases r with
  | error e => exact passAt tk σZ pins H1 s1 e s' I1 hq
  | ok fl =>
    cases fl with
    | ret u => exact I1.after hq
    | next => exact False.elim hq
    | brk => exact False.elim hq
    | cont => exact False.elim hq
end
end Mg
end
/-! ## DLamR -/
section
set_option Elab.async false
set_option linter.all false
set_option maxRecDepth 100000
set_option maxHeartbeats 2500000
/-! Lambdas in the data layer: their call; the call of a def that gets one. -/
namespace Mg
open PySem PySem.Spec PyProof.Rows L2 GxR
/-- the slots that lambdas hold -/
def capE (cap : List Nat) (r : Env) : Env := r.mapIdx fun i o => if cap.contains i then (match o with
  | some (.own _) => none
  | o => o) else none
theorem capE_get {cap : List Nat} {r : Env} {i : Nat} {d : D} (h : (capE cap r)[i]? = some (some d)) : i ∈ cap ∧ r[i]? = some (some d) ∧ ∀ e, d ≠ .own e := by
  unfold capE at h
  rw [List.getElem?_mapIdx] at h
  cases hr : r[i]? with
  | none => rw [hr] at h; cases h
  | some o =>
    rw [hr] at h
    simp only [Option.map_some, Option.some.injEq] at h
    split at h
    · rename_i hc
      split at h
      · cases h
      · rename_i o' hno
        subst h
        exact ⟨by simpa using hc, rfl, fun e z => hno e (by rw [z])⟩
    · cases h
theorem capE_length (cap : List Nat) (r : Env) : (capE cap r).length = r.length := List.length_mapIdx
/-- the values of the slots are kept -/
def Kept (F : Fx) (σ0 : L2.St) (r0 : Env) : Prop := σ0.length = r0.length ∧ ∀ (i : Nat) (d : D), r0[i]? = some (some d) → (∀ e, d ≠ .own e) ∧ ∃ v, σ0[i]? = some (some v) ∧ (v, d) ∈ F.W.Tb.keep
theorem nE_of {F : Fx} (ne : F.W.Tb.er = none) : F.W.nE = F.W := by
  obtain ⟨⟨P, w, K, ⟨tb, lt, me, er, cl, keep⟩⟩, ex⟩ := F
  have ne : er = none := ne
  subst ne
  rfl
theorem Rel.kept {F : Fx} {G : Gh} {st : Sto} {H : Hp} {σ0 : L2.St} {r0 : Env} {r : Env} {σ : L2.St} (L : Rel F G r st σ H) (hk : Kept F σ0 r0) (ne : F.W.Tb.er = none) : Rel F G r0 st σ0 H := by
  refine ⟨hk.1, fun i d h _ => ?_, fun i d h => ?_, L.nb, L.bx, L.tb, L.on⟩
  · obtain ⟨_, v, h1, h2⟩ := hk.2 i d h
    exact ⟨v, h1, nE_of ne ▸ L.tb.kp _ h2⟩
  · exact absurd rfl ((hk.2 i _ h).1 d)
def sAct (i : Nat) (g : Nat → Sto → Res (D × Sto)) : Ex := fun r st => match r[i]? with
  | some (some (.fo k)) => g k st
  | _ => .bad
/-- the world where an error leaves to E -/
abbrev Fx.to (F : Fx) (E : XK) : Fx := F.wx fun cls d _ H => E cls d H
instance fr0_to {F : Fx} {E : XK} : Fr0 (F.to E) := ⟨fun _ _ _ _ _ _ _ h => h⟩
theorem RV.fo {F : Fx} {p : Bool} {G : Gh} {H : Hp} {v : V} {k : Nat} (h : RV F p G H v (.fo k)) : ∃ a M L, v = .ref a ∧ F.W.Tb.me = some M ∧ M.lam[k]? = some L ∧ FnAt H a M.q L (cloFrom M.cells L.scope.names []) := by
  rcases h with h | ⟨a, q, rfl, ⟨o, ho, h⟩, _⟩
  · cases h with
    | fo h1 h2 h3 => exact ⟨_, _, _, rfl, h1, h2, h3⟩
    | obj _ _ ob => cases ob
  · cases h
/-- the k-th lambda of the maker X means lams k -/
structure LamsOk (F : Fx) (X : Cx) (M : MeT) (j : Nat) (lams : Nat → Ex) : Prop where
  me : F.W.Tb.me = some M
  cells : M.cells = X.env.cells
  q : M.q = X.env.qual ++ "<lambda>"
  each : ∀ (k : Nat) (L : LamC), M.lam[k]? = some L → LamW X.N X.env.scope L.scope ∧ Bound L ∧ ∀ (A : Around) (outer : List PySem.Env) (s : Shared) (H : Hp) (E : XK) (f c' : Addr), Room j (A.deeper (LamX.lamEnv X L.scope s.heap.objs.size f c')) →
    Ctx (F.to E) (LamX.lamCx X A outer s H E L.scope f c') → XTk (F.to E) (LamX.lamCx X A outer s H E L.scope f c') → PE (LamX.lamCx X A outer s H E L.scope f c') L.body (tD (F.to E) false (lams k))
theorem de_act {F : Fx} {X Z : Cx} {σ0 : L2.St} {r0 : Env} {a : Str} {M : MeT} {lams : Nat → Ex} {j i : Nat} {p1 p2 : Pos} [C : CtxW F Z] [T : XTk F Z] [kc : KnC X σ0 Z] (LO : LamsOk F X M j lams) (ne : F.W.Tb.er = none) (hk : Kept F σ0 r0) (hr : Room (j + 1) Z.A) (hN : Z.N[i]? = some a) (hv : Vis Z.env.scope a)
    (hd : (a == ("__debug__" : Str)) = false := by decide) (hcd : (a == ("__classdict__" : Str)) = false := by decide) : PE Z (.Call (.Name a p1) [] [] p2) (tD F false (sAct i fun k st => lams k r0 st)) := by
  obtain ⟨U, tk, hU⟩ := T.tk
  refine ⟨fun pins s σ H Q I ⟨G, r, st, L, k⟩ => ?_⟩
  unfold sAct at k
  revert k
  cases hri : r[i]? with
  | none => exact fun k => k.elim
  | some o =>
  cases o with
  | none => exact fun k => k.elim
  | some d =>
  cases d <;> (try (exact fun k => k.elim))
  rename_i n
  intro k
  simp only at k
  obtain ⟨v, hσ, hR⟩ := L.vl i _ hri fun e z => by cases z
  obtain ⟨f, M', Lk, rfl, h1, h2, h3⟩ := RV.fo (F := F) (p := true) (.inl hR)
  rw [LO.me] at h1
  cases h1
  obtain ⟨LW, B, hb⟩ := LO.each n Lk h2
  refine pe_lact (X := X) (σ0 := σ0) (U := U) (tb := tD (F.to (WE U σ)) false (lams n)) I LO.q LW B tk hr hN hv hσ (LO.cells ▸ h3) (fun A outer s H c' hr2 => ?_) ⟨G.fgt, r0, st, Rel.wx (U := fun cls d _ H => WE U σ cls d H) (Rel.kept (Rel.exn L.fgt) hk ne), ?_⟩ hd hcd
  · refine hb A outer s H (WE U σ) f c' hr2 (Ctx.of (C.P.trans kc.P) (C.w.trans kc.w) (C.K.trans kc.K) rfl (by have := hr2.un; show (A.deeper (LamX.lamEnv X Lk.scope s.heap.objs.size f c')).units + 100 < cLine; omega) hr2.hd) ⟨_, takes_of rfl rfl rfl rfl, fun c fs st' G' σ H' h => h⟩
  · revert k
    generalize lams n r0 st = m
    intro k
    cases m with
    | bad => exact k
    | exn c fs st' =>
      intro H' G' L' e cls d he
      obtain ⟨L3, ev3⟩ := L.after e.evs (Rel.noex (Rel.ofWx L').drop)
      exact hU _ _ _ _ _ _ (k H' _ L3 ev3) _ _ (he.mono .mrg)
    | ok x =>
      intro v H' G' L' e hv
      obtain ⟨L3, ev3⟩ := L.after e.evs (Rel.noex (Rel.ofWx L').drop)
      exact k v H' _ L3 ev3 (R.mono .mrg hv)
/-! ### a def that gets a lambda -/
/-- f(e), f a def that calls what it gets; r's slots cap are what the lambdas hold -/
def sErrK (cap : List Nat) (lams : Nat → Ex) (f : (Nat → Sto → Res (D × Sto)) → List D → Sto → Res (D × Sto)) (ψ : Exs) : Ex := fun r st => (ψ r st).bind fun x => (f (fun k st => lams k (capE cap r) st) x.1 x.2).nx
/-- the values of slots -/
def keepL (cap : List Nat) (σ : L2.St) (r : Env) : List (V × D) := cap.filterMap fun i => match σ[i]?, r[i]? with
  | some (some v), some (some d) => some (v, d)
  | _, _ => none
theorem keepL_mem {cap : List Nat} {σ : L2.St} {r : Env} {p : V × D} (h : p ∈ keepL cap σ r) : ∃ i : Nat, σ[i]? = some (some p.1) ∧ r[i]? = some (some p.2) := by
  obtain ⟨i, _, e⟩ := List.mem_filterMap.mp h
  split at e
  · rename_i v d h1 h2
    cases e
    exact ⟨i, h1, h2⟩
  · cases e
def keepC (cap : List Nat) (σ : L2.St) (r : Env) : List (V × D) := keepL cap σ (capE cap r)
abbrev Fx.kp (F : Fx) (l : List (V × D)) : TbT := { F.W.Tb with keep := l }
theorem de_callK {F : Fx} {X Z : Cx} [C : Ctx F Z] {okσ : L2.St → Prop} {M : MeT} {cap : List Nat} {lams : Nat → Ex} {b : (Nat → Sto → Res (D × Sto)) → Stm} {x a : Str} {fa : Addr} {fd : FuncData} {params : Arguments} {body : List Stmt} {scope : Scope} {dvs : List V} {kws : List (Str × V)} {N : List Str} {ψ : Exs} {e : Expr} {k n : Nat} {pp pos : Pos}
    (hKn : ∀ (pins : List (Addr × Obj)) (s : Shared) (σ : L2.St) (H : Hp), Inv Z pins σ H s → okσ σ → Kn X σ s.heap H) (hx : Z.prog = X.prog ∧ Z.w = X.w ∧ Z.K = X.K ∧ Z.mg = X.mg ∧ Z.base = X.base) (ne : F.W.Tb.er = none) (FD : FunD Z.K x x params body scope dvs kws fa fd) (S : FnScope N [a] scope)
    (hwalk : ∀ (T : TbT) (σ0 : L2.St) (r0 : Env) (c : Addr) (A : Around) (outer : List PySem.Env) (s : Shared) (H : Hp), fd.code = .ref c → T.tb = F.W.Tb.tb → T.lt = F.W.Tb.lt → T.me = F.W.Tb.me → T.er = none → T.cl = F.W.Tb.cl → Kept (mkF Z.prog Z.w Z.K T) σ0 r0 → Room k (A.deeper (envOfC x scope s.heap.objs.size fa (.ref c))) →
      Ctx (mkF Z.prog Z.w Z.K T) (cxOf CX0 Z.prog Z.w Z.K Z.mg Z.base N x scope fa (.ref c) A outer s H E0).nox → KnC X σ0 (cxOf CX0 Z.prog Z.w Z.K Z.mg Z.base N x scope fa (.ref c) A outer s H E0).nox →
      PSs (cxOf CX0 Z.prog Z.w Z.K Z.mg Z.base N x scope fa (.ref c) A outer s H E0).nox body (tS (mkF Z.prog Z.w Z.K T) (b fun k st => lams k r0 st)))
    (hr : Room (k + 1) Z.A) (hg : Gl Z x) (hm : Z.mg x = some (.ref fa)) (hkp : PySem.W.keepIn Z.K (.ref fa) = true) (hb : Binds Z.K fd [a] []) (ha : PA Z [e] (tA F false ψ)) (hn : ∀ r st y, ψ r st = .ok y → y.1.length = 1) (hlen : N.length = n := by rfl)
    (hdb : (x == ("__debug__" : Str)) = false := by decide) (he : starEach [e] Z.env = (false, eval e Z.env) :: starEach [] Z.env := by rfl) (hpl : (backTo pos (starEach [] Z.env)).any (·.1) = false := by rfl) :
    PE Z (.Call (.Name x pp) [e] [] pos) (fun σ H Q => okσ σ ∧ tD F false (sErrK cap lams (fun g ds st => runE n (b g) ds st) ψ) σ H Q) := by
  subst hlen
  obtain ⟨oc, od, dV, kV, doc, pm, an, cdv, ct, osl, rfl, lk, hcd, _, _⟩ := FD.ex
  obtain ⟨c, rfl⟩ := He.codeIn_ref hcd
  refine ⟨fun pins s σ H Q I ⟨ok, G, r, st, L, k0⟩ => ?_⟩
  unfold sErrK at k0
  have hn := hn r st
  refine wpAny_Call_Name_kw (ld_glob I hg hm ?_ hdb)
  refine PySem.W.callWith_K (h₀ := Z.base) I.ok.mod.kin hkp (thn (ha.run pos pins s σ H (fun vs H1 => ∃ G1 y, ψ r st = .ok y ∧ Rel F G1 r y.2 σ H1 ∧ Ev false G H G1 H1 ∧ Rs F.W G1 H1 vs y.1) I ⟨G, r, st, L, ?_⟩) fun us s1 ⟨vs, H1, I1, r1, G1, y, ey, L1, ev1, rs⟩ => ⟨I1.kIn, ?_⟩) he hpl
  · revert k0
    generalize ψ r st = m
    intro k0
    cases m with
    | bad => exact k0
    | exn c fs st' => exact k0
    | ok y => exact fun vs H1 G1 L1 ev1 rs => ⟨G1, y, rfl, L1, ev1, rs⟩
  have hl := hn _ ey
  rw [ey] at k0
  simp only [Res.ok_bind] at k0
  have k1 := Post.adv k0 ev1
  obtain ⟨⟨P, w, K, Tb⟩, ex⟩ := F
  have zP : P = Z.prog := C.P
  have zw : w = Z.w := C.w
  have zK : K = Z.K := C.K
  subst zP zw zK
  have ne : Tb.er = none := ne
  generalize hT : ({ Tb with keep := keepC cap σ r } : TbT) = T
  have sh1 : ShF false (⟨⟨Z.prog, Z.w, Z.K, Tb⟩, ex⟩ : Fx).noex (mkF Z.prog Z.w Z.K T) := ⟨rfl, rfl, rfl, by subst hT; exact ⟨rfl, rfl, rfl, fun _ z => z, fun _ E z => z⟩⟩
  have sh2 : ShF false (mkF Z.prog Z.w Z.K T) (⟨⟨Z.prog, Z.w, Z.K, Tb⟩, ex⟩ : Fx).noex := ⟨rfl, rfl, rfl, by subst hT; exact ⟨rfl, rfl, rfl, fun _ z => z, fun _ E z => z⟩⟩
  have neT : (mkF Z.prog Z.w Z.K T).W.Tb.er = none := by subst hT; exact ne
  have kept : Kept (mkF Z.prog Z.w Z.K T) σ (capE cap r) := by
    refine ⟨by rw [capE_length]; exact L1.len, fun i d h => ?_⟩
    obtain ⟨hi, hri, hno⟩ := capE_get h
    obtain ⟨v, hσ, _⟩ := L1.vl i d hri hno
    refine ⟨hno, v, hσ, ?_⟩
    subst hT
    exact List.mem_filterMap.mpr ⟨i, hi, by rw [hσ, h]⟩
  have LT : Rel (mkF Z.prog Z.w Z.K T) G1.fgt [] y.2 [] H1 := by
    refine sh1.rel L1.fgt (fun z => by cases z) fun p hp => ?_
    have hp : p ∈ keepC cap σ r := by subst hT; exact hp
    obtain ⟨i, h1, h2⟩ := keepL_mem hp
    obtain ⟨_, h3, h4⟩ := capE_get h2
    obtain ⟨v, h5, h6⟩ := L1.vl i _ h3 h4
    rw [h1] at h5
    cases h5
    rw [nE_of neT]
    exact sh1.r (R.mono .fgt h6) fun z => by cases z
  have hr1 : Room (k + 1) Z.A := hr
  have kn1 := hKn pins s1 σ H1 I1 ok
  have hlv : vs.length = [a].length := rs.length.trans hl
  have rc : codeAny (model Z.prog Z.w) Z.A (.call (.ref fa) ⟨us, []⟩) (CR CX0 Z.stack Z.prog Z.w H1 s1 Q E0) s1 := by
    refine LamX.run_ofS (CX := CX0) (N := N) (ps := [a]) (us := us) (vs := vs) lk hcd S hr1 I1.env0 (by have := hb s1 us I1.kIn (by rw [List.append_nil, ← r1.length, hlv]); rw [List.append_nil] at this; exact this) r1 hlv fun hr' => ?_
    have hC : Ctx (mkF Z.prog Z.w Z.K T) (cxOf CX0 Z.prog Z.w Z.K Z.mg Z.base N x scope fa (.ref c) Z.A Z.stack s1 H1 E0).nox := Ctx.of rfl rfl rfl rfl (by have := hr'.un; show (Z.A.deeper (envOfC x scope s1.heap.objs.size fa (.ref c))).units + 100 < cLine; omega) hr'.hd
    refine ⟨tS (mkF Z.prog Z.w Z.K T) (b fun k st => lams k (capE cap r) st), PSs.nox (hwalk T σ (capE cap r) c Z.A Z.stack s1 H1 rfl (by subst hT; rfl) (by subst hT; rfl) (by subst hT; rfl) neT (by subst hT; rfl) kept hr' hC ⟨kn1, (fun _ _ _ z => by cases z), hx.1, hx.2.1, hx.2.2.1, hx.2.2.2.1, hx.2.2.2.2⟩), G1.fgt, _, y.2, fn_start (N := N) LT (sh1.rs (Rs.mono .fgt rs) fun z => by cases z), ?_⟩
    have back : ∀ {G' : Gh} {H' : Hp} {st' : Sto} {v : V} {d : D}, Rel (mkF Z.prog Z.w Z.K T) G' [] st' [] H' → Evs G1.fgt H1 G' H' → R (mkF Z.prog Z.w Z.K T).W G' H' v d → Post (⟨⟨Z.prog, Z.w, Z.K, Tb⟩, ex⟩ : Fx) false r σ G1 H1 (.ok (d, st')) Q → Q v H' := fun {G' H' st' v d} L' e' hv k2 => by
      have L3 := sh2.rel L' (fun z => by cases z) fun p hp => R.mono e'.s1 (R.mono .fgt (L1.tb.kp p hp))
      obtain ⟨L4, ev4⟩ := L1.after e' L3
      exact k2 v H' _ L4 ev4 (R.mono .mrg (sh2.r hv fun z => by cases z))
    revert k1
    unfold runE
    generalize b _ _ y.2 = m
    intro k1
    cases m with
    | bad => exact k1
    | exn c fs st' => exact k1.elim
    | ok z =>
      obtain ⟨fl, r', st'⟩ := z
      cases fl with
      | nx => exact fun σ' H' G' L' e' => back L'.drop e' .non k1
      | rt d => exact fun v H' G' L' e' hv => back L' e' hv k1
      | bk => exact k1.elim
      | ct => exact k1.elim
  refine wpAny_call (codeAny_mono rc fun r s2 hq => ?_)
  cases r with
  | error e => exact (show False from hq).elim
  | ok fl =>
    cases fl with
    | ret u => exact I1.after hq
    | next => exact False.elim hq
    | brk => exact False.elim hq
    | cont => exact False.elim hq
end Mg
end
/-! ## DLamC -/
section
set_option Elab.async false
set_option linter.all false
set_option maxRecDepth 100000
set_option maxHeartbeats 2500000
/-! [e for t in xs if c], where c calls lambdas of the def that runs: the block's test is told what the def's slots were. -/
namespace Mg
open PySem PySem.Spec PyProof.Rows L2 GxR
/-- a block of X begins at s -/
structure BlkAt (X : Cx) (σ : L2.St) (s : Shared) (H : Hp) (fp : List Addr) : Prop where
  inv : ∃ pins, Inv X pins σ H s
  ex : ∀ x c, X.env.cells.lookup x = some c → c ∉ fp
section
variable {X : Cx} {elt tg iter : Expr} {ifs : List Expr} {scope : Scope} {own : List (Str × Nat)} {pos : Pos} {g : TG} {tt : TT} {te : TE}
/-- one turn's work, the item drawn: target, test, element, append; B: the block's context -/
theorem blk_turn {B : Cx} {vs : List Nat} {pins : List (Addr × Obj)} {s : Shared} {σ0 : L2.St} {H : Hp} {D : Addr} {x : V} {u : Value} {Nx : Hp → Prop} {E : Value → Shared → Prop} {Rs : Shared → Prop} (pg : PG B tg g) (pt : PTs B ifs fun σ2 H2 Q => wipe σ2 vs = wipe σ0 vs ∧ tt σ2 H2 Q) (pe : PE B elt te) (hE : B.xe = fun _ _ => False)
    (I : Inv B pins (wipe σ0 vs) H s) (r : RelV x u) (h : g x (wipe σ0 vs) H fun σ2 H2 => wipe σ2 vs = wipe σ0 vs ∧ tt σ2 H2 fun b H3 => if b = true then te σ2 H3 fun y H4 => ∃ acc, H4 D = some (.lst acc) ∧ acc.length < sizeLine ∧ Nx (upd H4 D (.lst (acc ++ [y]))) else Nx H3)
    (hR : ∀ (σ' : L2.St) (H' : Hp) (s' : Shared), wipe σ' vs = wipe σ0 vs → Inv B pins σ' H' s' → Nx H' → Rs s') :
    wpAny (model B.prog B.w) B.A (assign tg B.env u) (fun _ s₂ => wpAny (model B.prog B.w) B.A (forIn ifs true fun c r => if r = true then do let ok ← isTrue c B.env (eval c B.env); pure (ForInStep.yield ok) else pure (ForInStep.yield r)) (fun ok s₃ =>
      if ok = true then wpAny (model B.prog B.w) B.A (eval elt B.env) (fun y s₄ => wpAny (model B.prog B.w) B.A (call (.builtin "list.append") [.ref D, y]) (fun _ s₅ => Rs s₅) E s₄) E s₃ else Rs s₃) E s₂) E s := by
  have quiet : ∀ {e : Value} {s : Shared}, B.xe e s → E e s := fun {e s} z => by rw [hE] at z; exact z.elim
  refine wpAny_mono (pg.run pins s _ H x u _ I r h) (fun _ s2 ⟨σ2, H2, I2, w2, q2⟩ => ?_) fun _ _ => quiet
  refine wpAny_mono (pt.run pins s2 σ2 H2 _ I2 ⟨w2, q2⟩) (fun b s3 ⟨H3, I3, q3⟩ => ?_) fun _ _ => quiet
  cases b
  · exact hR σ2 H3 s3 w2 I3 (by simpa using q3)
  · simp only [if_true] at q3 ⊢
    refine wpAny_mono (pe.run pins s3 σ2 H3 _ I3 q3) (fun y s4 ⟨yv, H4, I4, r4, acc, hD, hz, nx⟩ => ?_) fun _ _ => quiet
    exact app_ok I4 hD hz r4 fun s5 I5 => hR σ2 _ s5 w2 I5 nx
theorem pe_lcK {wi : TI} (hc : X.calm = true) (hN : X.N.Nodup) (hi : PI X tg iter wi) (ok : BlkOk X.N X.env.scope scope own)
    (hg : ∀ (s : Shared) (H : Hp) (C : Addr) (cl : List (Str × Addr)) (fp : List Addr), PG (X.blk s H scope (compEnvC scope cl C X.env) fp) tg g)
    (ht : ∀ (s : Shared) (H : Hp) (C : Addr) (cl : List (Str × Addr)) (fp : List Addr) (σ0 : L2.St), BlkAt X σ0 s H fp → PTs (X.blk s H scope (compEnvC scope cl C X.env) fp) ifs fun σ2 H2 Q => wipe σ2 (own.map (·.2)) = wipe σ0 (own.map (·.2)) ∧ tt σ2 H2 Q)
    (he : ∀ (s : Shared) (H : Hp) (C : Addr) (cl : List (Str × Addr)) (fp : List Addr), PE (X.blk s H scope (compEnvC scope cl C X.env) fp) elt te) (hs : ∀ x, foldedSetIterable iter X.env x = pure x := by intro _; rfl) :
    PE X (.ListComp elt [⟨tg, iter, ifs, 0⟩] scope pos) (tLc wi g tt te (own.map (·.2))) := by
  refine ⟨fun pins s σ H Q I h => ?_⟩
  rw [eval_ListComp]
  refine wpAny_comprehension_free (use := none) rfl hs (closure_ok fun y hy e => I.ok.has _ (ok.free y hy e)) ok.kind (fun y hy e => (ok.uniq y hy).trans (congrArg some e)) ?_
  refine thn (hi.run pins s σ H _ I h) fun _ sa ha => thn ha fun _ sb ⟨it, fp, tn, J, Hb, eit, Ib, T, st0, ffp, q⟩ => ?_
  subst eit
  refine wpAny_newObj_type (newEnv_comp ?_) (by show 0 ≤ sizeLine; decide)
  -- the list that is to be made
  have fresh : Hb sb.heap.objs.size = none := Ib.hok.fresh (Nat.le_refl _)
  obtain ⟨Wt, ⟨m0, w0⟩, turn⟩ := q _ fresh
  generalize eD : sb.heap.objs.size = D at fresh w0 turn ⊢
  generalize esc : ({ sb with heap := sb.heap.push { cls := .type "list", data := .seq ([] : List Value).toArray } } : Shared) = sc
  have hsc : sc.heap = sb.heap.push { cls := .type "list", data := .seq ([] : List Value).toArray } := by rw [← esc]
  have grow : ∀ b o, sb.heap.get? b = some o → sc.heap.get? b = some o := fun b o e => by rw [hsc]; exact Heap.get?_push_of_some _ e
  have Ic : Inv X pins σ (upd Hb D (.lst [])) sc := by
    subst esc
    exact Ib.laid (t' := sb.toks) grow (Nat.le_of_eq eD) ⟨Nat.zero_le _, [], 0, .nil, eD ▸ Heap.get?_push_size _ rfl⟩
  have below : ∀ b ∈ fp, b < sb.heap.objs.size := fun b hb => (T.obj _ _ st0 b hb).elim fun _ z => Heap.lt_size z.1
  have fc : ∀ b ∈ fp, FpOk X pins (upd Hb D (.lst [])) b ∧ b < sc.heap.objs.size := fun b hb =>
    ⟨⟨by rw [upd_ne (by rw [← eD]; exact Nat.ne_of_lt (below b hb))]; exact (ffp b hb).1, (ffp b hb).2⟩, by rw [hsc, Heap.size_push]; exact Nat.lt_succ_of_lt (below b hb)⟩
  have stc : tn 0 sc.heap := T.keep _ _ _ st0 fun b _ o e => grow b o e
  generalize upd Hb D (.lst []) = Hc at w0 Ic fc
  have at_ : BlkAt X σ sc Hc fp := ⟨⟨pins, Ic⟩, fun x c e z => (fc c z).1.2.2.2.2.1 x c e rfl⟩
  -- the block's context
  have Id := block_start Ic ok hN fc
  have pg := hg sc Hc sc.heap.objs.size (cellsFrom (sc.heap.objs.size + 1) scope.names (cloFrom X.env.cells scope.names [])) fp
  have pt := ht sc Hc sc.heap.objs.size (cellsFrom (sc.heap.objs.size + 1) scope.names (cloFrom X.env.cells scope.names [])) fp σ at_
  have pe := he sc Hc sc.heap.objs.size (cellsFrom (sc.heap.objs.size + 1) scope.names (cloFrom X.env.cells scope.names [])) fp
  show codeAny _ _ (.compStart (.ListComp elt [⟨tg, iter, ifs, 0⟩] scope pos) 0 (.ref it) (.ref D) (compEnvC scope (cellsFrom (sc.heap.objs.size + 1) scope.names (cloFrom X.env.cells scope.names [])) sc.heap.objs.size X.env)) (compPost (model X.prog X.w) X.A X.xe none (EP X pins σ Q) (.ref D) sc.heap.objs.size) { sc with heap := pushCells (sc.heap.push { cls := .type "dict", data := .dict #[] }) scope.names }
  generalize ece : compEnvC scope (cellsFrom (sc.heap.objs.size + 1) scope.names (cloFrom X.env.cells scope.names [])) sc.heap.objs.size X.env = ce at Id pg pt pe ⊢
  have hL : ce.locals = sc.heap.objs.size := by subst ece; rfl
  generalize esd : ({ sc with heap := pushCells (sc.heap.push { cls := .type "dict", data := .dict #[] }) scope.names } : Shared) = sd at Id ⊢
  have std : tn 0 sd.heap := T.keep _ _ _ stc fun b _ o e => by subst esd; exact pushCells_keeps _ _ _ _ (Heap.get?_push_of_some _ e)
  have free : ∀ {σ' : L2.St} {H' : Hp} {s' : Shared}, Inv (X.blk sc Hc scope ce fp) [] σ' H' s' → (∀ b ∈ fp, H' b = none) → ∀ b ∈ fp, FpOk (X.blk sc Hc scope ce fp) [] H' b := fun {σ' H' s'} I' hn b hb =>
    ⟨hn b hb, (I'.ok.exf b hb).1, I'.ok.exfs b hb, .inl hb, fun x c e => (I'.ok.exf b hb).2 x c e, fun p hp => by
      have hp : p ∈ ([] : List (Addr × Obj)) ++ [] := hp
      simp at hp⟩
  let Lp : Nat → Shared → Prop := fun n s' => ∃ i H', Inv (X.blk sc Hc scope ce fp) [] (wipe σ (own.map (·.2))) H' s' ∧ tn i s'.heap ∧ (∀ b ∈ fp, H' b = none) ∧ Wt i n H'
  have loop : codeAny (model X.prog X.w) X.A (.compLoop (.ListComp elt [⟨tg, iter, ifs, 0⟩] scope pos) 0 (.ref it) (.ref D) ce) (compPost (model X.prog X.w) X.A X.xe none (EP X pins σ Q) (.ref D) sc.heap.objs.size) sd := by
    refine compLoop_any Lp (fun n se ⟨i, He, Ie, ste, ne, we⟩ => ?_) m0 ⟨0, Hc, Id, std, fun b hb => (fc b hb).1.1, w0⟩
    rcases turn i n He we with ⟨stop, qq⟩ | ⟨go, Nx, hNx, step⟩
    · refine thnF (T.done (X.blk sc Hc scope ce fp) rfl rfl rfl hc i [] se _ He (fun _ _ => False) Ie (free Ie ne) ste stop) fun r sf ⟨er, If⟩ => ?_
      subst er
      -- the block ends: the def goes on
      have Ig : Inv X pins σ He sf := Ic.call' (ch := fp) If.os If.base If.hok If.bare fun b hb => ⟨(fc b hb).1.2.2.2.1, (fc b hb).1.2.1, (fc b hb).1.2.2.2.2.1, (fc b hb).1.2.2.2.2.2⟩
      obtain ⟨m, hm, _⟩ := If.loc
      have gone : He sc.heap.objs.size = none := hL ▸ (show He ce.locals = none from If.free)
      obtain ⟨z0, z1, _, z3, z4, z5⟩ := Ic.fpOk (H' := He) (Nat.le_refl _) gone
      have hm : sf.heap.Ns ce.locals m := hm
      rw [hL] at hm
      refine ⟨m, hm, fun h2 same => ⟨.ref D, He, ?_, rfl, qq⟩⟩
      exact Ig.turned (t' := sf.toks) (fun b o hb e => (same.2 b hb).trans e) z0 z1 z3 z4 z5
    · refine thnF (T.item (X.blk sc Hc scope ce fp) rfl rfl rfl hc i [] se _ He (fun _ _ => False) Ie (free Ie ne) ste go) fun r sf ⟨u, er, hf⟩ => ?_
      subst er
      refine thnF hf fun _ sg ⟨x, Hg, Ig, rg, yg, stg, ng⟩ => ?_
      have Ip := Ig.pinned (free Ig ng) (T.obj _ _ stg)
      refine blk_turn (B := X.blk sc Hc scope ce fp) (vs := own.map (·.2)) (σ0 := σ) (Nx := Nx) pg pt pe rfl Ip rg (step x Hg yg) fun σ' H' s' hw I' nx => ?_
      obtain ⟨m', lt, w'⟩ := hNx H' nx
      have pin : ∀ b ∈ fp, ∀ o, sg.heap.get? b = some o → s'.heap.get? b = some o ∧ H' b = none := fun b hb o e =>
        let z := I'.pin (b, o) (List.mem_append_right _ (List.mem_append_right _ (mem_pinsAt hb e))); ⟨z.1, z.2.1⟩
      refine ⟨m', lt, i + 1, H', (I'.unpinned (pins := [])).weak (by rw [wipe_length, ← wipe_length σ' (own.map (·.2)), hw, wipe_length]) (fun j v e => ?_), T.keep _ _ _ stg fun b hb o e => (pin b hb o e).1, fun b hb => ?_, w'⟩
      · rw [← hw] at e
        exact (wipe_some e).1
      · obtain ⟨o, e, _⟩ := T.obj _ _ stg b hb
        exact (pin b hb o e).2
  exact codeAny_compStart_list loop (T.self X.A 0 _ _ _ std loop)
end
section
variable {F : Fx} {X : Cx} [C : Ctx F X] {p : Bool} {elt tg iter : Expr} {ifs : List Expr} {scope : Scope} {own : List (Str × Nat)} {pos : Pos} {g : TG} {t : Tg} {w : Wk} {c : Tst} {φ : Ex}
/-- as data -/
theorem de_lcK (hN : X.N.Nodup) (hi : PI X tg iter (tI F p (some p) w)) (ok : BlkOk X.N X.env.scope scope own)
    (hg : ∀ (s : Shared) (H : Hp) (C : Addr) (cl : List (Str × Addr)) (fp : List Addr), DG F.noex (X.blk s H scope (compEnvC scope cl C X.env) fp) tg g t)
    (ht : ∀ (s : Shared) (H : Hp) (C : Addr) (cl : List (Str × Addr)) (fp : List Addr) (σ0 : L2.St), BlkAt X σ0 s H fp → PTs (X.blk s H scope (compEnvC scope cl C X.env) fp) ifs fun σ2 H2 Q => wipe σ2 (own.map (·.2)) = wipe σ0 (own.map (·.2)) ∧ tT F.noex p c σ2 H2 Q)
    (he : ∀ (s : Shared) (H : Hp) (C : Addr) (cl : List (Str × Addr)) (fp : List Addr), PE (X.blk s H scope (compEnvC scope cl C X.env) fp) elt (tD F.noex p φ)) (hv : ∀ i ∈ t.ixs, i ∈ own.map (·.2) := by decide) (hs : ∀ x, foldedSetIterable iter X.env x = pure x := by intro _; rfl) :
    PE X (.ListComp elt [⟨tg, iter, ifs, 0⟩] scope pos) (tD F p (sComp (own.map (·.2)) t w c φ)) :=
  PE.frz ((pe_lcK C.calm hN hi ok (fun s H C cl fp => (hg s H C cl fp).pg) ht he hs).mimp fun σ H Q h => lc_ok (fun L h1 h2 h3 => (hg X.s_0 H 0 [] []).ok L h1 h2 h3) hv h)
end
end Mg
end
/-! ## DLawM -/
section
set_option Elab.async false
set_option linter.all false
set_option maxRecDepth 100000
set_option maxHeartbeats 2500000
/-! A law that makes lambdas: its body's world; calls of a def that gets a lambda, in its body and in a comprehension's test. -/
namespace Mg
open PySem PySem.Spec PyProof.Rows L2 GxR
theorem tD_tV {F : Fx} {p : Bool} {φ : Ex} {σ : L2.St} {H : Hp} {Q : VK} (h : tV F p φ σ H Q) : tD F p φ σ H Q := by
  obtain ⟨G, r, st, L, k⟩ := h
  refine ⟨G, r, st, L, ?_⟩
  revert k
  generalize φ r st = m
  intro k
  cases m with
  | bad => exact k
  | exn c fs st' => exact k
  | ok x => exact fun v H' G' L' e hv => k v H' G' L' e (.inl hv)
section
variable {F : Fx} {X Z : Cx} {okσ : L2.St → Prop} {p : Bool} {a b : Expr} {φ ψ : Ex} {pos : Pos}
/-- f(x) != y where f(x) asks something of the slots -/
theorem vt_cmpK {op : CmpOp} {f : D → D → Option D} (h : OpOk F X op f) (ha : PE X a fun σ H Q => okσ σ ∧ tD F p φ σ H Q) (hb : PE X b (tV F p ψ)) (hm : behindInMarks op b = false := by with_unfolding_all rfl) : PT X (.Compare a [op] [b] pos) fun σ H Q => okσ σ ∧ tT F p (tTru (sOp2 f φ ψ)) σ H Q :=
  let ⟨_, h1, h2, h3⟩ := h; (pt_cmpR h1 (ha.mimp (t' := fun σ H Q => okσ σ ∧ tV F p φ σ H Q) fun σ H Q h => ⟨h.1, tD_tV h.2⟩) hb hm).mimp fun _ _ _ h => ⟨h.1, tst_ok (f := fun _ => f) h3 h2 h.2⟩
/-- in the def's own body nothing is asked -/
theorem de_noask {e : Expr} (h : PE X e fun σ H Q => True ∧ tD F p φ σ H Q) : PE X e (tD F p φ) := h.mimp fun _ _ _ h => ⟨trivial, h⟩
theorem kn_self {okσ : L2.St → Prop} : ∀ (pins : List (Addr × Obj)) (s : Shared) (σ : L2.St) (H : Hp), Inv X pins σ H s → okσ σ → Kn X σ s.heap H := fun _ _ _ _ I _ => Inv.kn I
/-- in a block of the maker X: the slots are the maker's but for the block's own -/
theorem kn_blk {σ0 : L2.St} {s0 : Shared} {H0 : Hp} {scope : Scope} {ce : PySem.Env} {fp : List Addr} {vs : List Nat} (at_ : BlkAt X σ0 s0 H0 fp) (hv : ∀ (i : Nat) (x : Str), X.N[i]? = some x → (X.env.scope.names.lookup x = some .cell ∨ X.env.scope.names.lookup x = some .free) → i ∉ vs) :
    ∀ (pins : List (Addr × Obj)) (s : Shared) (σ : L2.St) (H : Hp), Inv (X.blk s0 H0 scope ce fp) pins σ H s → wipe σ vs = wipe σ0 vs → Kn X σ s.heap H := fun pins s σ H I hw => by
  obtain ⟨pins0, I0⟩ := at_.inv
  refine ((Inv.kn I0).un I.base at_.ex).slots (by rw [← wipe_length σ vs, hw, wipe_length]) fun i x h1 h2 => ?_
  have hn := hv i x h1 h2
  rw [← wipe_out (σ := σ) hn, hw, wipe_out hn]
def blkOwnB (N : List Str) (sc : Scope) (vs : List Nat) : Bool := vs.all fun i => match N[i]? with
  | some x => !(decide (sc.names.lookup x = some .cell) || decide (sc.names.lookup x = some .free))
  | none => true
theorem blkOwn_by {N : List Str} {sc : Scope} {vs : List Nat} (h : blkOwnB N sc vs = true) : ∀ (i : Nat) (x : Str), N[i]? = some x → (sc.names.lookup x = some .cell ∨ sc.names.lookup x = some .free) → i ∉ vs := fun i x h1 h2 hi => by
  have := List.all_eq_true.mp h i hi
  rw [h1] at this
  simp only [Bool.not_eq_true', Bool.or_eq_false_iff, decide_eq_false_iff_not] at this
  exact h2.elim this.1 this.2
end
/-! ### the law's promise -/
/-- the promise of a law: it answers with a truth value -/
def spV (F : Fx) (n : Nat) (f : List D → Sto → Res (D × Sto)) : Sp := fun vs H Q _ => vs.length = n ∧ ∃ G st ds b st', Rel F.noex G [] st [] H ∧ Rs F.W G H vs ds ∧ f ds st = .ok (.bl b, st') ∧ ∀ H', Q (.bl b) H'
theorem R.isBl {W : Wo} {G : Gh} {H : Hp} {v : V} {b : Bool} (h : R W G H v (.bl b)) : v = .bl b := by
  cases h with
  | bl => rfl
  | obj _ _ ob => cases ob
section
variable {P : Program} {w : World} {K : PySem.W.Frag} {mg : Str → Option Value} {base : Heap} {Tb : TbT}
theorem fn_lawM {k : Nat} {f : Addr} {fd : FuncData} {x qual : Str} {params : Arguments} {body : List Stmt} {scope : Scope} {dvs : List V} {kws : List (Str × V)} {N ps : List Str} {b : Stm} (lam : List LamC) (FD : FunD K x qual params body scope dvs kws f fd) (S : FnScope N ps scope) (hme : Tb.me = none) (her : Tb.er = none) (hkp : Tb.keep = [])
    (hb : ∀ (c : Addr) (A : Around) (outer : List PySem.Env) (s : Shared) (H : Hp) (E : XK) (T : TbT), fd.code = .ref c → Room k (A.deeper (envOfC qual scope s.heap.objs.size f (.ref c))) → T.tb = Tb.tb → T.lt = Tb.lt → T.cl = Tb.cl → T.er = none →
      T.me = some ⟨(cxOf CX0 P w K mg base N qual scope f (.ref c) A outer s H E).nox.env.cells, (cxOf CX0 P w K mg base N qual scope f (.ref c) A outer s H E).nox.env.qual ++ "<lambda>", lam⟩ →
      Ctx (mkF P w K T) (cxOf CX0 P w K mg base N qual scope f (.ref c) A outer s H E).nox → PSs (cxOf CX0 P w K mg base N qual scope f (.ref c) A outer s H E).nox body (tS (mkF P w K T) b)) : FnOk P w K mg base CX0 (k + 1) f fd ps (spV (mkF P w K Tb) ps.length (runE N.length b)) := by
  obtain ⟨oc, od, dV, kV, doc, pm, an, cdv, ct, osl, rfl, lk, hcd, _, _⟩ := FD.ex
  obtain ⟨c, rfl⟩ := He.codeIn_ref hcd
  refine fn_of lk hcd S (fun vs H Q E h => h.1) fun A outer s H vs Q E hr ⟨hl, G, st, ds, bo, st', L, rs, k1, k2⟩ => ?_
  generalize hT : ({ Tb with me := some ⟨(cxOf CX0 P w K mg base N qual scope f (.ref c) A outer s H E).nox.env.cells, (cxOf CX0 P w K mg base N qual scope f (.ref c) A outer s H E).nox.env.qual ++ "<lambda>", lam⟩ } : TbT) = T
  have sh : ShF false (mkF P w K Tb).noex (mkF P w K T) := ⟨rfl, rfl, rfl, by subst hT; exact ⟨rfl, rfl, rfl, (fun M z => by have z : Tb.me = some M := z; rw [hme] at z; cases z), fun _ E z => z⟩⟩
  have LT : Rel (mkF P w K T) G [] st [] H := sh.rel L (fun z => by cases z) fun p hp => by
    have hp : p ∈ Tb.keep := by subst hT; exact hp
    rw [hkp] at hp
    simp at hp
  refine ⟨tS (mkF P w K T) b, PSs.nox (hb c A outer s H E T rfl hr (by subst hT; rfl) (by subst hT; rfl) (by subst hT; rfl) (by subst hT; exact her) (by subst hT; rfl) (Ctx.of rfl rfl rfl rfl (by have := hr.un; show (A.deeper (envOfC qual scope s.heap.objs.size f (.ref c))).units + 100 < cLine; omega) hr.hd)), G, _, st, fn_start (N := N) LT (sh.rs rs fun z => by cases z), ?_⟩
  revert k1
  unfold runE
  generalize b _ st = m
  intro k1
  cases m with
  | bad => cases k1
  | exn c fs st' => cases k1
  | ok y =>
    obtain ⟨fl, r', st2⟩ := y
    cases fl with
    | nx => cases k1
    | rt d =>
      cases k1
      exact fun v H' G' L' e hv => by rw [R.isBl hv]; exact k2 H'
    | bk => cases k1
    | ct => cases k1
/-- the promise at the script -/
theorem sp_lawV {s : List D → Sto → Res (D × Sto)} {H : Hp} {a : Addr} {ns : List Int} (hp : ∃ st', s [.lst (ns.map .int)] [] = .ok (.bl true, st')) (hT : ∀ p ∈ Tb.tb, H p = some (.tbl #[])) (hT2 : ∀ p ∈ Tb.lt, H p.1 = some (.tbl #[])) (hT3 : Tb.keep = []) (hS : SqL K H a (ns.map V.int)) :
    spV (mkF P w K Tb) 1 s [.ref a] H (fun v _ => v = .bl true) fun _ _ _ => False := by
  obtain ⟨st', e⟩ := hp
  have ok : ∀ G, (mkF P w K Tb).noex.W.Ok G H := fun G => ⟨fun p hp => ⟨#[], hT p hp, trivial⟩, fun p hp => ⟨#[], hT2 p hp, trivial, fun pos cv e => by simp [codeAmong] at e⟩, fun p hp => by have hp : p ∈ Tb.keep := hp; rw [hT3] at hp; simp at hp⟩
  have hR : ∃ G : Gh, Rel (mkF P w K Tb).noex G [] [] [] H ∧ R ⟨P, w, K, Tb⟩ G H (.ref a) (.lst (ns.map .int)) := by
    rcases hS with h | h
    · refine ⟨⟨fun b => if b = a then some .fz else none, fun _ => 0, 0⟩, ⟨rfl, fun i d h => by simp at h, fun i d h => by simp at h, rfl, fun n b h => by simp at h, ok _, fun b r hb => ?_⟩, .obj (o := .lst (ns.map V.int)) (if_pos rfl) h (.lst (rs_ints0 ns)) rfl⟩
      by_cases q : b = a
      · subst q
        rcases h with h | ⟨u, h⟩ <;> rw [h] <;> simp
      · exact absurd hb (by simp [q])
    · exact ⟨⟨fun b => none, fun _ => 0, 0⟩, ⟨rfl, fun i d h => by simp at h, fun i d h => by simp at h, rfl, fun n b h => by simp at h, ok _, fun b r hb => by cases hb⟩, .kl (xs := ns.map V.int) (.inr h) (rs_ints0 ns)⟩
  obtain ⟨G, L, r⟩ := hR
  exact ⟨rfl, G, [], [.lst (ns.map .int)], true, st', L, .cons r .nil, e, fun _ => rfl⟩
end
theorem dss_never {F : Fx} {X : Cx} {ss : List Stmt} : PSs X ss (tS F stBad) := ⟨fun _ _ _ _ _ _ ⟨_, _, _, _, k⟩ => k.elim⟩
end Mg
namespace Mg
open PySem PySem.Spec PyProof.Rows L2 GxR
/-! ### lambdas of a def's text -/
def lamsE : Nat → Expr → List LamC
  | 0, _ => []
  | _ + 1, .Lambda p b s _ => [⟨p, b, s⟩]
  | n + 1, .List es _ => es.flatMap (lamsE n)
  | n + 1, .BinOp a _ b _ => lamsE n a ++ lamsE n b
  | n + 1, .Call _ as _ _ => as.flatMap (lamsE n)
  | _, _ => []
def lamsS : Stmt → List LamC
  | .Assign _ e _ => lamsE 9 e
  | .Return (some e) _ => lamsE 9 e
  | _ => []
def lams (ss : List Stmt) : List LamC := ss.flatMap lamsS
def lamAt (ss : List Stmt) (k : Nat) : LamC := (lams ss).getD k ⟨⟨[], [], none, [], [], none, []⟩, .Name "" ⟨0, 0, 0, 0⟩, default⟩
section
variable {l : List Nat} {F : Fx} {X : Cx} [C : CtxW F X] [HE : HasE l F X] {p : Bool} {e : Expr} {x : Str} {φ : Ex} {pp p2 pos : Pos}
/-- isinstance(n, C), C a class of errors -/
theorem ve_isC (EF : ExF X.K l) (c : Nat) (hc : c ∈ l) (he : PE X e (tV F p φ)) (hg : Gl X x) (hm : X.mg x = some (.ref (He.ga X.K x))) (hgi : Gl X "isinstance") (hmi : X.mg "isinstance" = none) (hx : exNm c = x := by rfl) (hdb : (x == ("__debug__" : Str)) = false := by decide)
    (hs : starEach [e, .Name x p2] X.env = (false, eval e X.env) :: starEach [.Name x p2] X.env := by rfl) (hs2 : starEach [.Name x p2] X.env = (false, eval (.Name x p2) X.env) :: starEach [] X.env := by rfl) (hpl : (backTo pos (starEach [.Name x p2] X.env)).any (·.1) = false := by rfl) :
    PE X (.Call (.Name "isinstance" pp) [e, .Name x p2] [] pos) (tD F p (sIsE (fun c' => c' == c) φ)) :=
  ve_isE (l := l) EF (fun c' => c' == c) (cv := .ref (He.ga X.K x)) (cu := .ref (He.ga X.K x)) (fun u r => r) (fun c' h => by rw [← hx]; exact EF.is c' h c hc) he (pe_glob hg hm rfl hdb) hgi hmi hs hs2 hpl
theorem ve_isV (EF : ExF X.K l) (he : PE X e (tV F p φ)) (hg : Gl X "ValueError") (hm : X.mg "ValueError" = none) (hgi : Gl X "isinstance") (hmi : X.mg "isinstance" = none)
    (hs : starEach [e, .Name "ValueError" p2] X.env = (false, eval e X.env) :: starEach [.Name "ValueError" p2] X.env := by rfl) (hs2 : starEach [.Name "ValueError" p2] X.env = (false, eval (.Name "ValueError" p2) X.env) :: starEach [] X.env := by rfl) (hpl : (backTo pos (starEach [.Name "ValueError" p2] X.env)).any (·.1) = false := by rfl) :
    PE X (.Call (.Name "isinstance" pp) [e, .Name "ValueError" p2] [] pos) (tD F p (sIsE (fun _ => true) φ)) :=
  ve_isE (l := l) EF (fun _ => true) (cv := .ty "ValueError") (cu := .type "ValueError") (fun u r => r) (fun c' h => EF.ve c' h) he (pe_bltn hg hm PyProof.Rows.Boot.«ValueError» rfl) hgi hmi hs hs2 hpl
end
theorem LamsOk.wx {F : Fx} {X : Cx} {M : MeT} {j : Nat} {lams : Nat → Ex} {U : WX} (L : LamsOk F X M j lams) : LamsOk (F.wx U) X M j lams := ⟨L.me, L.cells, L.q, L.each⟩
theorem kn_tr {X Z : Cx} {σ : L2.St} {pn : List (Addr × Obj)} {xe : Value → Shared → Prop} (k : KnC X σ Z) : KnC X σ (Z.tr pn xe) := ⟨k.kn, k.ex, k.P, k.w, k.K, k.mg, k.base⟩
end Mg
end
/-! ## DPure -/
section
set_option autoImplicit false
set_option linter.all false
/-! Plain rules for the functions on trees: loops as folds, comprehensions as map and filter. -/
namespace Mg
/-! ### loops -/
/-! ### comprehensions -/
/-! ### encodings -/
theorem mem_map {α : Type} (f : α → D) [DecidableEq α] (x : α) : ∀ l : List α, (∀ y ∈ l, D.eq (f y) (f x) = decide (y = x)) → D.mem (f x) (l.map f) = decide (x ∈ l)
  | [], h => by simp [D.mem]
  | y :: l, h => by
    have ih := mem_map f x l (fun z hz => h z (List.mem_cons_of_mem _ hz))
    show (D.eq (f y) (f x) || D.mem (f x) (l.map f)) = _
    rw [h y (List.mem_cons_self ..), ih]
    by_cases q : y = x
    · subst q; simp
    · simp [q, Ne.symm q]
end Mg
end
/-! ## DAp -/
section
set_option autoImplicit false
set_option linter.all false
/-! Each combinator, given its frame and store (printed by mkap.py). -/
namespace Mg
@[simp] theorem ap_sVar (i : Nat) (r : Env) (st : Sto) : sVar i r st = (match r[i]? with
  | some (some (.own _)) => .bad
  | some (some d) => .ok (d, st)
  | _ => .bad) := id rfl
@[simp] theorem ap_sAny (i : Nat) (r : Env) (st : Sto) : sAny i r st = (match r[i]? with
  | some (some (.own d)) => .ok (d, st)
  | some (some d) => .ok (d, st)
  | _ => .bad) := id rfl
@[simp] theorem ap_sC (d : D) (r_ : Env) (st : Sto) : sC d r_ st = (.ok (d, st)) := id rfl
@[simp] theorem ap_sOp1 (f : D → Option D) (a : Ex) (r : Env) (st : Sto) : sOp1 f a r st = ((a r st).bind fun x => (Res.of (f x.1)).bind fun d => .ok (d, x.2)) := id rfl
@[simp] theorem ap_sOpS1 (f : Sto → D → Option D) (a : Ex) (r : Env) (st : Sto) : sOpS1 f a r st = ((a r st).bind fun x => (Res.of (f x.2 x.1)).bind fun d => .ok (d, x.2)) := id rfl
@[simp] theorem ap_sOp2 (f : D → D → Option D) (a b : Ex) (r : Env) (st : Sto) : sOp2 f a b r st = ((a r st).bind fun x => (b r x.2).bind fun y => (Res.of (f x.1 y.1)).bind fun d => .ok (d, y.2)) := id rfl
@[simp] theorem ap_sOpS2 (f : Sto → D → D → Option D) (a b : Ex) (r : Env) (st : Sto) : sOpS2 f a b r st = ((a r st).bind fun x => (b r x.2).bind fun y => (Res.of (f y.2 x.1 y.1)).bind fun d => .ok (d, y.2)) := id rfl
@[simp] theorem ap_sNil (r_ : Env) (st : Sto) : sNil  r_ st = (.ok ([], st)) := id rfl
@[simp] theorem ap_sCons (a : Ex) (b : Exs) (r : Env) (st : Sto) : sCons a b r st = ((a r st).bind fun x => (b r x.2).bind fun y => .ok (x.1 :: y.1, y.2)) := id rfl
@[simp] theorem ap_sTup (a : Exs) (r : Env) (st : Sto) : sTup a r st = ((a r st).bind fun x => .ok (.tup x.1, x.2)) := id rfl
@[simp] theorem ap_sLst (a : Exs) (r : Env) (st : Sto) : sLst a r st = ((a r st).bind fun x => .ok (.lst x.1, x.2)) := id rfl
@[simp] theorem ap_sTst (t : Tst) (r : Env) (st : Sto) : sTst t r st = ((t r st).bind fun x => .ok (.bl x.1, x.2)) := id rfl
@[simp] theorem ap_sSl (a : Ex) (lo hi : Option Ex) (r : Env) (st : Sto) : sSl a lo hi r st = ((a r st).bind fun x =>
  (match lo with
   | none => Res.ok (none, x.2)
   | some e => (e r x.2).bind fun y => match y.1 with | .int i => .ok (some i, y.2) | _ => .bad).bind fun l =>
  (match hi with
   | none => Res.ok (none, l.2)
   | some e => (e r l.2).bind fun y => match y.1 with | .int i => .ok (some i, y.2) | _ => .bad).bind fun h =>
  (Res.of (opSl l.1 h.1 x.1)).bind fun d => .ok (d, h.2)) := id rfl
@[simp] theorem ap_tTru (a : Ex) (r : Env) (st : Sto) : tTru a r st = ((a r st).bind fun x => match x.1.truth with
  | some b => .ok (b, x.2)
  | none => .bad) := id rfl
@[simp] theorem ap_tAnd (a b : Tst) (r : Env) (st : Sto) : tAnd a b r st = ((a r st).bind fun x => if x.1 then b r x.2 else .ok (false, x.2)) := id rfl
@[simp] theorem ap_tOr (a b : Tst) (r : Env) (st : Sto) : tOr a b r st = ((a r st).bind fun x => if x.1 then .ok (true, x.2) else b r x.2) := id rfl
@[simp] theorem ap_tNot (a : Tst) (r : Env) (st : Sto) : tNot a r st = ((a r st).bind fun x => .ok (!x.1, x.2)) := id rfl
@[simp] theorem ap_sIte (c : Tst) (a b : Ex) (r : Env) (st : Sto) : sIte c a b r st = ((c r st).bind fun x => if x.1 then a r x.2 else b r x.2) := id rfl
@[simp] theorem ap_sAnd (a b : Ex) (r : Env) (st : Sto) : sAnd a b r st = ((a r st).bind fun x => match x.1.truth with
  | some true => b r x.2
  | some false => .ok x
  | none => .bad) := id rfl
@[simp] theorem ap_sOr (a b : Ex) (r : Env) (st : Sto) : sOr a b r st = ((a r st).bind fun x => match x.1.truth with
  | some true => .ok x
  | some false => b r x.2
  | none => .bad) := id rfl
@[simp] theorem ap_sChain (f g : D → D → Option D) (a b c : Ex) (r : Env) (st : Sto) : sChain f g a b c r st = ((a r st).bind fun x => (b r x.2).bind fun y => (Res.of (f x.1 y.1)).bind fun d => match d with
  | .bl true => (c r y.2).bind fun z => (Res.of (g y.1 z.1)).bind fun d => .ok (d, z.2)
  | .bl false => .ok (.bl false, y.2)
  | _ => .bad) := id rfl
@[simp] theorem ap_tYes (r_ : Env) (st : Sto) : tYes  r_ st = (.ok (true, st)) := id rfl
@[simp] theorem ap_sComp (vs : List Nat) (t : Tg) (w : Wk) (c : Tst) (e : Ex) (r : Env) (st : Sto) : sComp vs t w c e r st = ((w r st).bind fun x => (compL t c e (wipeE r vs) [] x.1 x.2).bind fun y => .ok (.lst y.1, y.2)) := id rfl
@[simp] theorem ap_sComp2 (vs : List Nat) (t : Tg) (w : Wk) (c1 : Tst) (vs1 : List Nat) (t2 : Tg) (w2 : Wk) (c : Tst) (e : Ex) (r : Env) (st : Sto) : sComp2 vs t w c1 vs1 t2 w2 c e r st = ((w r st).bind fun x => (compL2 t c1 w2 vs1 t2 c e (wipeE r vs) [] x.1 x.2).bind fun y => .ok (.lst y.1, y.2)) := id rfl
@[simp] theorem ap_sDComp (kt : Bool) (vs : List Nat) (t : Tg) (w : Wk) (c : Tst) (k v : Ex) (r : Env) (st : Sto) : sDComp kt vs t w c k v r st = ((w r st).bind fun x => (dcompL kt t c k v (wipeE r vs) [] [] x.1 x.2).bind fun y => .ok (.dic kt y.1.1 y.1.2, y.2)) := id rfl
@[simp] theorem ap_sQuant (go : Bool) (vs : List Nat) (t : Tg) (w : Wk) (e : Ex) (r : Env) (st : Sto) : sQuant go vs t w e r st = ((w r st).bind fun x => quantL go t e (wipeE r vs) x.1 x.2) := id rfl
@[simp] theorem ap_sCallP (f : List D → Res D) (a : Exs) (r : Env) (st : Sto) : sCallP f a r st = ((a r st).bind fun x => match f x.1 with
  | .ok d => .ok (d, x.2)
  | .exn c fs _ => .exn c fs x.2
  | .bad => .bad) := id rfl
@[simp] theorem ap_sCallE (f : List D → Sto → Res (D × Sto)) (a : Exs) (r : Env) (st : Sto) : sCallE f a r st = ((a r st).bind fun x => f x.1 x.2) := id rfl
@[simp] theorem ap_stPass (r : Env) (st : Sto) : stPass  r st = (.ok (.nx, r, st)) := id rfl
@[simp] theorem ap_stSeq (a b : Stm) (r : Env) (st : Sto) : stSeq a b r st = ((a r st).bind fun x => match x.1 with
  | .nx => b x.2.1 x.2.2
  | _ => .ok x) := id rfl
@[simp] theorem ap_stAsg (t : Tg) (a : Ex) (r : Env) (st : Sto) : stAsg t a r st = ((a r st).bind fun x => match Tg.bind t x.1 r with
  | some r' => .ok (.nx, r', x.2)
  | none => .bad) := id rfl
@[simp] theorem ap_sOwn (a : Ex) (r : Env) (st : Sto) : sOwn a r st = ((a r st).bind fun x => .ok (.own x.1, x.2)) := id rfl
@[simp] theorem ap_stPar (is : List Nat) (a : Exs) (r : Env) (st : Sto) : stPar is a r st = ((a r st).bind fun x => .ok (.nx, setAll is x.1 r, x.2)) := id rfl
@[simp] theorem ap_stMove (i j : Nat) (r : Env) (st : Sto) : stMove i j r st = (match r[j]? with
  | some (some (.own d)) => .ok (.nx, (r.set j none).set i (some (.own d)), st)
  | _ => .bad) := id rfl
@[simp] theorem ap_stFrz (i : Nat) (r : Env) (st : Sto) : stFrz i r st = (match r[i]? with
  | some (some (.own d)) => .ok (.nx, r.set i (some d), st)
  | some (some d) => .ok (.nx, r, st)
  | _ => .bad) := id rfl
@[simp] theorem ap_stNew (i : Nat) (a : Ex) (r : Env) (st : Sto) : stNew i a r st = ((a r st).bind fun x => .ok (.nx, r.set i (some (.own x.1)), x.2)) := id rfl
@[simp] theorem ap_stRet (a : Ex) (r : Env) (st : Sto) : stRet a r st = ((a r st).bind fun x => .ok (.rt x.1, r, x.2)) := id rfl
@[simp] theorem ap_stIf (c : Tst) (a b : Stm) (r : Env) (st : Sto) : stIf c a b r st = ((c r st).bind fun x => if x.1 then a r x.2 else b r x.2) := id rfl
@[simp] theorem ap_stExpr (a : Ex) (r : Env) (st : Sto) : stExpr a r st = ((a r st).bind fun x => .ok (.nx, r, x.2)) := id rfl
@[simp] theorem ap_stBad (r_ : Env) (st_ : Sto) : stBad  r_ st_ = (.bad) := id rfl
@[simp] theorem ap_stAug (i : Nat) (f : D → D → Option D) (a : Ex) (r : Env) (st : Sto) : stAug i f a r st = (match r[i]? with
  | some (some (.own _)) => .bad
  | some (some d) => (a r st).bind fun x => (Res.of (f d x.1)).bind fun z => .ok (.nx, r.set i (some z), x.2)
  | _ => .bad) := id rfl
@[simp] theorem ap_stApp (i : Nat) (a : Ex) (r : Env) (st : Sto) : stApp i a r st = (match r[i]? with
  | some (some (.own (.lst l))) => (a r st).bind fun x => if l.length < line then .ok (.nx, r.set i (some (.own (.lst (l ++ [x.1])))), x.2) else .bad
  | _ => .bad) := id rfl
@[simp] theorem ap_stExt (i : Nat) (a : Ex) (r : Env) (st : Sto) : stExt i a r st = (match r[i]? with
  | some (some (.own (.lst l))) => (a r st).bind fun x => match x.1 with
    | .lst m => if (l ++ m).length ≤ line then .ok (.nx, r.set i (some (.own (.lst (l ++ m)))), x.2) else .bad
    | _ => .bad
  | _ => .bad) := id rfl
@[simp] theorem ap_stPut (i : Nat) (k a : Ex) (r : Env) (st : Sto) : stPut i k a r st = ((a r st).bind fun x => match r[i]? with
  | some (some (.own (.dic t ks vs))) => (k r x.2).bind fun y => if y.1.keyOk t && decide (ks.length < line) then
      let p := D.put y.1 x.1 ks vs
      .ok (.nx, r.set i (some (.own (.dic t p.1 p.2))), y.2) else .bad
  | _ => .bad) := id rfl
@[simp] theorem ap_stPop (i j : Nat) (r : Env) (st : Sto) : stPop i j r st = (match r[j]? with
  | some (some (.own (.lst l))) => match l.getLast? with
    | some d => .ok (.nx, (r.set j (some (.own (.lst l.dropLast)))).set i (some d), st)
    | none => .bad
  | _ => .bad) := id rfl
@[simp] theorem ap_stBox (i : Nat) (a : Exs) (r : Env) (st : Sto) : stBox i a r st = ((a r st).bind fun x => .ok (.nx, r.set i (some (.box x.2.length)), x.2 ++ [.lst x.1])) := id rfl
@[simp] theorem ap_stPutB (o k a : Ex) (r : Env) (st : Sto) : stPutB o k a r st = ((a r st).bind fun x => (o r x.2).bind fun y => (k r y.2).bind fun z => match y.1, z.1 with
  | .box n, .int i => match z.2[n]? with
    | some (.lst l) => match place l.length i with
      | some j => .ok (.nx, r, z.2.set n (.lst (l.set j x.1)))
      | none => .bad
    | _ => .bad
  | _, _ => .bad) := id rfl
@[simp] theorem ap_stFor (t : Tg) (w : Wk) (b : Stm) (r : Env) (st : Sto) : stFor t w b r st = ((w r st).bind fun x => loopF t b x.1 r x.2) := id rfl
@[simp] theorem ap_sEnd0 (r_ : Env) (st : Sto) : sEnd0  r_ st = (.ok (none, st)) := id rfl
@[simp] theorem ap_sEnd (a : Ex) (r : Env) (st : Sto) : sEnd a r st = ((a r st).bind fun y => match y.1 with | .int i => .ok (some i, y.2) | _ => .bad) := id rfl
@[simp] theorem ap_sSlice (a : Ex) (lo hi : Pt) (r : Env) (st : Sto) : sSlice a lo hi r st = ((a r st).bind fun x => (lo r x.2).bind fun l => (hi r l.2).bind fun h => (Res.of (opSl l.1 h.1 x.1)).bind fun d => .ok (d, h.2)) := id rfl
@[simp] theorem ap_sCall (f : Sto → List D → Option D) (ψ : Exs) (r : Env) (st : Sto) : sCall f ψ r st = ((ψ r st).bind fun x => (Res.of (f x.2 x.1)).bind fun d => .ok (d, x.2)) := id rfl
@[simp] theorem ap_wSeq (a : Ex) (r : Env) (st : Sto) : wSeq a r st = ((a r st).bind fun x => match seqOf x.2 x.1 with
  | some l => .ok (l, x.2)
  | none => .bad) := id rfl
@[simp] theorem ap_wBor (a : Ex) (r : Env) (st : Sto) : wBor a r st = ((a r st).bind fun x => match x.1 with
  | .tup l => .ok (l, x.2)
  | .lst l => .ok (l, x.2)
  | _ => .bad) := id rfl
@[simp] theorem ap_wEnum (a : Ex) (r : Env) (st : Sto) : wEnum a r st = ((a r st).bind fun x => match x.1 with
  | .lst l => .ok (enumF 0 l, x.2)
  | .tup l => .ok (enumF 0 l, x.2)
  | _ => .bad) := id rfl
@[simp] theorem ap_wZip (a b : Ex) (r : Env) (st : Sto) : wZip a b r st = ((a r st).bind fun x => (b r x.2).bind fun y => match x.1, y.1 with
  | .lst l, .lst m => .ok (zipL l m, y.2)
  | .tup l, .tup m => .ok (zipL l m, y.2)
  | _, _ => .bad) := id rfl
@[simp] theorem ap_sLm1 (f : List D → D → Option D) (a b : Ex) (r : Env) (st : Sto) : sLm1 f a b r st = ((a r st).bind fun x => match x.1 with
  | .lst l => (b r x.2).bind fun y => (Res.of (f l y.1)).bind fun d => .ok (d, y.2)
  | _ => .bad) := id rfl
@[simp] theorem ap_sSortK (f : List D → Sto → Res (D × Sto)) (a : Ex) (r : Env) (st : Sto) : sSortK f a r st = ((a r st).bind fun x => match seqOf x.2 x.1 with
  | some l => (keysL f l x.2).bind fun y => if D.sorts y.1 && decide (l.length ≤ line) then .ok (.lst (sortK y.1 l), y.2) else .bad
  | none => .bad) := id rfl
@[simp] theorem ap_sSortKR (f : List D → Sto → Res (D × Sto)) (a : Ex) (r : Env) (st : Sto) : sSortKR f a r st = ((a r st).bind fun x => match x.1 with
  | .int n => if decide (n < 1000000) && decide (-1000000 < n) then (keysL f (rngF 0 1 n.toNat) x.2).bind fun y => if D.sorts y.1 then .ok (.lst (sortK y.1 (rngF 0 1 n.toNat)), y.2) else .bad else .bad
  | _ => .bad) := id rfl
@[simp] theorem ap_wRng3 (a b c : Ex) (r : Env) (st : Sto) : wRng3 a b c r st = ((a r st).bind fun x => (b r x.2).bind fun y => (c r y.2).bind fun z => match x.1, y.1, z.1 with
  | .int i, .int j, .int k => (Res.of (rng3 i j k)).bind fun l => .ok (l, z.2)
  | _, _, _ => .bad) := id rfl
@[simp] theorem ap_sFn (f : List D → Sto → Res (D × Sto)) (ψ : Exs) (r : Env) (st : Sto) : sFn f ψ r st = ((ψ r st).bind fun x => (f x.1 x.2).nx) := id rfl
@[simp] theorem nx_ok {α : Type} (a : α) : (Res.ok a).nx = .ok a := id rfl
@[simp] theorem ap_f1 (f : Sto → D → Option D) (st : Sto) (a : D) : f1 f st [a] = f st a := id rfl
@[simp] theorem ap_f2 (f : Sto → D → D → Option D) (st : Sto) (a b : D) : f2 f st [a, b] = f st a b := id rfl
@[simp] theorem tb_nm (i : Nat) (d : D) (r : Env) : Tg.bind (.nm i) d r = some (r.set i (some d)) := id (by simp [Tg.bind])
@[simp] theorem tb_tup (l : List Tg) (ds : List D) (r : Env) : Tg.bind (.tup l) (.tup ds) r = Tg.binds l ds r := id (by simp [Tg.bind])
@[simp] theorem tbs_nil (r : Env) : Tg.binds [] [] r = some r := id (by simp [Tg.binds])
@[simp] theorem tbs_cons (t : Tg) (ts : List Tg) (d : D) (ds : List D) (r : Env) : Tg.binds (t :: ts) (d :: ds) r = (Tg.bind t d r).bind fun r2 => Tg.binds ts ds r2 := id (by simp [Tg.binds])
/-- range(n) -/
def rngOf : D → Option (List D)
  | .int n => if okEnd n then some (rngF 0 1 n.toNat) else none
  | _ => none
def rngOf2 : D → D → Option (List D)
  | .int m, .int n => if okEnd m && okEnd n then some (rngF m 1 (n - m).toNat) else none
  | _, _ => none
@[simp] theorem ap_wRng1 (a : Ex) (r : Env) (st : Sto) : wRng1 a r st = ((a r st).bind fun x => (Res.of (rngOf x.1)).bind fun l => .ok (l, x.2)) := by
  unfold wRng1
  congr 1
  funext x
  obtain ⟨d, st'⟩ := x
  cases d with
  | int n =>
    show (if okEnd n then Res.ok (rngF 0 1 n.toNat, st') else .bad) = ((Res.of (if okEnd n then some (rngF 0 1 n.toNat) else none)).bind fun l => Res.ok (l, st'))
    cases okEnd n <;> rfl
  | _ => rfl
@[simp] theorem ap_wRng2 (a b : Ex) (r : Env) (st : Sto) : wRng2 a b r st = ((a r st).bind fun x => (b r x.2).bind fun y => (Res.of (rngOf2 x.1 y.1)).bind fun l => .ok (l, y.2)) := by
  unfold wRng2
  congr 1
  funext x
  congr 1
  funext y
  obtain ⟨d, st'⟩ := x
  obtain ⟨d2, st2⟩ := y
  cases d with
  | int n =>
    cases d2 with
    | int m =>
      show (if okEnd n && okEnd m then Res.ok (rngF n 1 (m - n).toNat, st2) else .bad) = ((Res.of (if okEnd n && okEnd m then some (rngF n 1 (m - n).toNat) else none)).bind fun l => Res.ok (l, st2))
      cases okEnd n && okEnd m <;> rfl
    | _ => rfl
  | _ => rfl
end Mg
end
/-! ## DLaw -/
section
set_option autoImplicit false
set_option linter.all false
set_option maxHeartbeats 1200000
/-! The helpers that every law has. -/
namespace Mg
def b_l_taken : Stm :=
  stSeq (stIf (tTru (sOp2 cGt (sOpS2 opIx (sVar 0) (sC (.int 3))) (sC (.int 0))))
  (stSeq (stAsg (.nm 3) (sOp2 opMod (sCall (f1 (fun _ => bInt)) (sCons (sOpS2 opIx (sVar 0) (sC (.int 3))) sNil)) (sVar 1)))
  (stSeq (stPutB (sVar 0) (sC (.int 3)) (sOp2 opDiv (sOpS2 opIx (sVar 0) (sC (.int 3))) (sVar 1)))
  (stRet (sVar 3))))
  (stPass))
  (stSeq (stPutB (sVar 0) (sC (.int 1)) (sOp2 opAdd (sOpS2 opIx (sVar 0) (sC (.int 1))) (sC (.int 1))))
  (stSeq (stIf (tTru (sOp2 cGt (sOpS2 opIx (sVar 0) (sC (.int 1))) (sCall (f1 bLen) (sCons (sOpS2 opIx (sVar 0) (sC (.int 0))) sNil))))
  (stSeq (stPutB (sVar 0) (sC (.int 2)) (sOp2 opMod (sCall (f1 (fun _ => bInt)) (sCons (sOp2 opAdd (sOp2 opMul (sOpS2 opIx (sVar 0) (sC (.int 2))) (sC (.int 48271))) (sC (.int 11))) sNil)) (sC (.int 2147483647))))
  (stRet (sOp2 opMod (sCall (f1 (fun _ => bInt)) (sCons (sOp2 opDiv (sOpS2 opIx (sVar 0) (sC (.int 2))) (sC (.int 7))) sNil)) (sVar 1))))
  (stPass))
  (stSeq (stAsg (.nm 2) (sOpS2 opIx (sOpS2 opIx (sVar 0) (sC (.int 0))) (sOp2 opSub (sOpS2 opIx (sVar 0) (sC (.int 1))) (sC (.int 1)))))
  (stSeq (stPutB (sVar 0) (sC (.int 2)) (sOp2 opMod (sCall (f1 (fun _ => bInt)) (sCons (sOp2 opAdd (sOp2 opAdd (sOp2 opMul (sOpS2 opIx (sVar 0) (sC (.int 2))) (sC (.int 48271))) (sVar 2)) (sC (.int 11))) sNil)) (sC (.int 2147483647))))
  (stSeq (stIf (tTru (sOp2 cGe (sVar 2) (sOp2 opPow (sC (.int 10)) (sC (.int 18)))))
  (stPutB (sVar 0) (sC (.int 3)) (sOp2 opDiv (sVar 2) (sVar 1)))
  (stPass))
  (stRet (sOp2 opMod (sCall (f1 (fun _ => bInt)) (sCons (sVar 2) sNil)) (sVar 1))))))))
def s_l_taken : List D → Sto → Res (D × Sto) := runE 4 b_l_taken
def b_l_pick : Stm :=
  stRet (sOpS2 opIx (sVar 1) (sFn s_l_taken (sCons (sVar 0) (sCons (sCall (f1 bLen) (sCons (sVar 1) sNil)) sNil))))
def s_l_pick : List D → Sto → Res (D × Sto) := runE 2 b_l_pick
/-! ### one step of a meaning -/
end Mg
end
/-! ## DDraw -/
section
set_option autoImplicit false
set_option linter.all false
set_option maxRecDepth 100000
set_option maxHeartbeats 2500000
/-! Drawing, in the layer of errors and lambdas. -/
namespace Mg
/-! ### one step of a meaning -/
theorem seq_nx {a b : Stm} {r r' : Env} {st st' : Sto} (e : a r st = .ok (.nx, r', st')) : stSeq a b r st = b r' st' := by
  show ((a r st).bind _) = _
  rw [e]
  rfl
abbrev bk (ns : List Int) (a b c : Int) : Bx := .lst [.lst (ns.map .int), .int a, .int b, .int c]
theorem place_nat {n : Nat} {i : Int} (h0 : 0 ≤ i) (h : i < n) : place n i = some i.toNat := by
  unfold place
  rw [if_pos h0, if_pos h]
theorem taken_ok {ns : List Int} {a b c k : Int} {rest : Sto} (ha : 0 ≤ a) (hk : 0 < k) (hk2 : k < 1073741824) :
    ∃ v a' b' c', s_l_taken [.box 0, .int k] (bk ns a b c :: rest) = .ok (.int v, bk ns a' b' c' :: rest) ∧ 0 ≤ v ∧ v < k ∧ 0 ≤ a' := by
  have hm : ∀ z : Int, 0 ≤ z % k ∧ z % k < k := fun z => ⟨Int.emod_nonneg _ (by omega), Int.emod_lt_of_pos _ hk⟩
  by_cases hc : 0 < c
  · refine ⟨c % k, a, b, c / k, ?_, (hm c).1, (hm c).2, ha⟩
    simp [s_l_taken, b_l_taken, runE, stSeq, stIf, tTru, sOp2, sOpS2, sVar, sC, opIx, atIx, place, cInt, D.truth, hc, stAsg, sCall, f1, sCons, sNil, bInt, opMod, hk, stPutB, opDiv, hk2, stRet]
  · by_cases hl : a + 1 > ns.length
    · refine ⟨((b * 48271 + 11) % 2147483647 / 7) % k, a + 1, (b * 48271 + 11) % 2147483647, c, ?_, (hm _).1, (hm _).2, by omega⟩
      simp [s_l_taken, b_l_taken, runE, stSeq, stIf, tTru, sOp2, sOpS2, sVar, sC, opIx, atIx, place, cInt, D.truth, hc, stAsg, sCall, f1, sCons, sNil, bInt, opMod, hk, stPutB, opDiv, hk2, stRet, stPass, opAdd, bLen, hl, opMul, small]
    · have hla : a < ns.length := by omega
      have hla2 : a.toNat < ns.length := by omega
      have hla3 : (ns.length : Int) > a := by omega
      by_cases hz18 : (1000000000000000000 : Int) ≤ ns[a.toNat]
      · refine ⟨ns[a.toNat] % k, a + 1, (b * 48271 + ns[a.toNat] + 11) % 2147483647, ns[a.toNat] / k, ?_, (hm _).1, (hm _).2, by omega⟩
        simp [s_l_taken, b_l_taken, runE, stSeq, stIf, tTru, sOp2, sOpS2, sVar, sC, opIx, atIx, place, cInt, D.truth, hc, stAsg, sCall, f1, sCons, sNil, bInt, opMod, hk, stPutB, opDiv, hk2, stRet, stPass, opAdd, opSub, opPow, bLen, hl, opMul, small, hz18, ha, hla, hla2]
      · refine ⟨ns[a.toNat] % k, a + 1, (b * 48271 + ns[a.toNat] + 11) % 2147483647, c, ?_, (hm _).1, (hm _).2, by omega⟩
        simp [s_l_taken, b_l_taken, runE, stSeq, stIf, tTru, sOp2, sOpS2, sVar, sC, opIx, atIx, place, cInt, D.truth, hc, stAsg, sCall, f1, sCons, sNil, bInt, opMod, hk, stPutB, opDiv, hk2, stRet, stPass, opAdd, opSub, opPow, bLen, hl, opMul, small, hz18, ha, hla, hla2]
/-- the store: the book alone -/
def Bk (ns : List Int) (st : Sto) : Prop := ∃ a b c, st = [bk ns a b c] ∧ 0 ≤ a
/-- one of some things is drawn -/
theorem pick_bk {ns : List Int} {st : Sto} (h : Bk ns st) {l : List D} (hl : l ≠ []) (hk2 : l.length < 1000000) : ∃ (d : D) (st' : Sto), s_l_pick [.box 0, .lst l] st = .ok (d, st') ∧ d ∈ l ∧ Bk ns st' := by
  obtain ⟨a, b, c, rfl, ha⟩ := h
  have hp : 0 < l.length := List.length_pos_iff.mpr hl
  obtain ⟨v, a', b', c', e, h1, h2, h3⟩ := taken_ok (ns := ns) (a := a) (b := b) (c := c) (k := (l.length : Int)) (rest := []) ha (by omega) (by omega)
  have hv : v.toNat < l.length := by omega
  refine ⟨l[v.toNat], [bk ns a' b' c'], ?_, List.getElem_mem hv, a', b', c', rfl, h3⟩
  have hat : atIx l v = some l[v.toNat] := by
    unfold atIx
    rw [place_nat h1 h2]
    exact List.getElem?_eq_getElem hv
  simp [s_l_pick, b_l_pick, runE, stRet, sOpS2, sVar, sFn, sCallE, sCons, sNil, sCall, f1, bLen, e, Res.nx, opIx, hat]
end Mg
end
/-! ## DDisp -/
/-! ## DKeys -/
/-! ## DGet2 -/
/-! ## DMinD -/
/-! ## DMinK -/
section
set_option Elab.async false
set_option linter.all false
set_option maxRecDepth 100000
set_option maxHeartbeats 2500000
/-! The data layer: min(xs, key=f), f a def. -/
namespace PySem.W
open PySem PySem.Calls PyProof.Rows
end PySem.W
end
/-! ## DMaxT -/
/-! ## DPutL -/
/-! ## DDicE -/
section
set_option Elab.async false
set_option linter.all false
set_option maxRecDepth 100000
set_option maxHeartbeats 2500000
/-! The data layer: how long a dict is, whether it is void. -/
namespace PySem.W
open PySem PySem.Calls PyProof.Rows
end PySem.W
end
/-! ## DZip -/
section
set_option Elab.async false
set_option linter.all false
set_option maxRecDepth 100000
set_option maxHeartbeats 2500000
/-! The data layer: zip of a tuple and a list. -/
namespace PySem.W
open PySem PySem.Calls PyProof.Rows
/-! ### zip(t, l) -/
end PySem.W
end
/-! ## DBoxD -/
section
set_option Elab.async false
set_option linter.all false
set_option maxRecDepth 100000
set_option maxHeartbeats 2500000
/-! The data layer: dicts in the store. -/
namespace Mg
open PySem PySem.Spec PyProof.Rows L2 GxR PySem.W PySem.Calls
section
variable {F : Fx} [E : Fr0 F] {X : Cx} [C : Ctx F X] {p : Bool} {e o ke : Expr} {φ χ κ : Ex} {pos apos : Pos}
theorem Ev.box {G0 G : Gh} {H0 H : Hp} {a : Addr} (h : G.rl a = none) (hn : H0 a = none) (e : Ev p G0 H0 G H) : Ev p G0 H0 (G.box a) H :=
  ⟨e.s1.trans (.box h), fun x o h1 h2 ho nt => by
    obtain ⟨k1, k2⟩ := e.sl x o h1 h2 ho nt
    exact ⟨k1, by rw [Gh.box_ne fun z => by rw [z, hn] at ho; cases ho]; exact k2⟩, fun hp x o ho nt => by
    obtain ⟨k1, k2⟩ := e.eq hp x o ho nt
    exact ⟨k1, by rw [Gh.box_ne fun z => by rw [z, hn] at ho; cases ho]; exact k2⟩⟩
end
end Mg
end
/-! ## DRevT -/
section
set_option Elab.async false
set_option linter.all false
set_option maxRecDepth 100000
set_option maxHeartbeats 2500000
/-! The data layer: t[::-1], t a tuple. -/
namespace HT
open PySem PySem.Spec PyProof.Rows PySem.W
end HT
namespace L2
open PySem PySem.Spec PyProof.Rows HT
end L2
end
/-! ## DStr -/
/-! ## DLendQ -/
/-! ## DDicT -/
/-! ## DBox -/
/-! ## DVals -/
/-! ## DEv2 -/
/-! ## DRaise -/
section
set_option Elab.async false
set_option linter.all false
set_option maxRecDepth 100000
set_option maxHeartbeats 2500000
/-! raise C(e, ..), C a class of errors that keeps what it is told. -/
namespace Mg
open PySem PySem.Spec PyProof.Rows L2 GxR
/-- an error class that keeps what it is told, as the written part has it -/
def oexB (K : PySem.W.Frag) (C : Addr) : Bool := (match K.lookup C with
  | some ⟨.type "type", _, .cls cd, sl⟩ => (match cd.mro, sl.toList with
    | .ref C' :: bm, [_, _, _, _, some (.builtin n), _] => C' == C && (n == "ValueError.__new__" && (!cd.hasDel && (cd.hasDict && PySem.HandSPX.refsVE bm)))
    | _, _ => false)
  | _ => false) && (decide (PySem.W.findIn K (.ref C) "__setattr__" = some (some (.builtin "object.__setattr__"))) && (decide (PySem.W.subIn K (.ref C) (.type "BaseException") = some true) && (decide (PySem.W.typeIn K (.ref C) = some (.type "type")) && PySem.W.keepIn K (.ref C))))
theorem oexB_ok {K : PySem.W.Frag} {C : Addr} (h : oexB K C = true) : OexC K C := by
  unfold oexB at h
  simp only [Bool.and_eq_true, decide_eq_true_eq] at h
  obtain ⟨h1, h2, h3, h4, h5⟩ := h
  refine ⟨?_, h2, h3, h4, h5⟩
  split at h1
  · rename_i dd cd sl ho
    split at h1
    · rename_i C' bm k0 k1 k2 k3 n k5 hm hs
      simp only [Bool.and_eq_true, beq_iff_eq, Bool.not_eq_true'] at h1
      obtain ⟨rfl, rfl, hdel, hd, hr⟩ := h1
      obtain ⟨nm, bs, mro, ns, qn, hdi, sn, sub, ab, col, del⟩ := cd
      dsimp only at hm hdel hd
      subst hm hdel hd
      have hsl : sl = #[k0, k1, k2, k3, some (.builtin "ValueError.__new__"), k5] := by
        obtain ⟨l⟩ := sl
        simp only at hs
        rw [hs]
      subst hsl
      exact ⟨nm, qn, ns, bs, bm, sn, sub, ab, col, dd, k0, k1, k2, k3, k5, ho, hr⟩
    · cases h1
  · cases h1
/-- what the new error's dict holds -/
def kvI (ns : List Str) (ys : List V) : List (Str × V) := (ns.zip ys).reverse
/-- the promise of an error's beginning: it stores what it gets under the names ns -/
def spIni (K : PySem.W.Frag) (ns : List Str) : Sp := fun vs H Q _ => vs.length = ns.length + 1 ∧ ∃ (a C : Addr) (ys : List V), vs = .ref a :: ys ∧ OexC K C ∧ (∀ n ∈ ns, PySem.W.findIn K (.ref C) n = some none) ∧ H a = some (exo a C none) ∧
  ∀ d, H d = none → d ≠ a → Q .non (upd (upd H d (exd d (kvI ns ys))) a (exo a C (some d)))
section
variable {P : Program} {w : World} {K : PySem.W.Frag} {mg : Str → Option Value} {base : Heap} {k : Nat} {f : Addr} {fd : FuncData} {x qual n1 n2 y1 y2 : Str} {params : Arguments} {scope : Scope} {p1 p2 p3 p4 p5 p6 q1 q2 : Pos}
theorem fn_ini1 (FD : FunD K x qual params [.Assign [.Attribute (.Name "self" p1) n1 p2] (.Name y1 p3) q1] scope [] [] f fd) (S : FnScope ["self", y1] ["self", y1] scope) (hv : Vis scope "self") (hv1 : Vis scope y1) (hd : (y1 == ("__debug__" : Str)) = false := by decide) (hc : (y1 == ("__classdict__" : Str)) = false := by decide)
    (hs : ∀ X : Cx, X.env.scope = scope → swapsWith (.Name y1 p3) (some (.Attribute (.Name "self" p1) n1 p2)) q1.line X.env = pure false := by intro _ _; rfl) : FnOk P w K mg base CX0 (k + 1) f fd ["self", y1] (spIni K [n1]) := by
  refine FD.ok S (fun vs H Q E h => h.1) fun cdv A outer s H vs Q E hr ⟨hl, a, C, ys, e, T, hno, ha, hq⟩ => ?_
  refine ⟨_, pss_one (ps_ost (pe_var (i := 0) rfl hv) (pe_var (i := 1) rfl hv1 hd hc) (hs _ rfl)), ?_⟩
  subst e
  match ys, hl with
  | [y], _ => exact ⟨y, rfl, .ref a, rfl, a, C, rfl, T, hno _ (List.mem_singleton.mpr rfl), .inl ⟨ha, fun dx n ne => hq dx n ne⟩⟩
end
/-- the error class c of the program, that keeps what it is told -/
structure ErC (P : Program) (w : World) (K : PySem.W.Frag) (mg : Str → Option Value) (base : Heap) (c : Nat) : Prop where
  T : OexC K (He.ga K (exNm c))
  m : mg (exNm c) = some (.ref (He.ga K (exNm c)))
  no : ∀ n ∈ exNs c, PySem.W.findIn K (.ref (He.ga K (exNm c))) n = some none
  ok : ∃ (fI : Addr) (fd : FuncData) (ps : List Str), PySem.W.findIn K (.ref (He.ga K (exNm c))) "__init__" = some (some (.ref fI)) ∧ PySem.W.typeIn K (.ref fI) = some (.type "function") ∧ FnOk P w K mg base CX0 1 fI fd ps (spIni K (exNs c)) ∧ Binds K fd ps []
/-- raise C(e, ..) -/
def stRaiseN (c : Nat) (ψ : Exs) : Stm := fun r st => (ψ r st).bind fun x => if x.1.length = (exNs c).length then .exn c x.1 x.2 else .bad
theorem kvI_look {ns : List Str} {ys : List V} (h : ns.length ≤ 2) (hnd : ns.Nodup) (hl : ys.length = ns.length) : ∀ (i : Nat) (n : Str), ns[i]? = some n → ∃ v, ys[i]? = some v ∧ (kvI ns ys).lookup n = some v := by
  intro i n e
  match ns, ys, hl with
  | [], [], _ => simp at e
  | [a], [y], _ =>
    match i with
    | 0 => simp at e; subst e; exact ⟨y, rfl, by simp [kvI]⟩
    | i + 1 => simp at e
  | [a, b], [y, z], _ =>
    have hab : a ≠ b := by simp at hnd; exact hnd
    match i with
    | 0 =>
      simp at e; subst e
      have : (a == b) = false := by simpa using hab
      exact ⟨y, rfl, by simp [kvI, List.lookup, this]⟩
    | 1 => simp at e; subst e; exact ⟨z, rfl, by simp [kvI]⟩
    | i + 2 => simp at e
  | _ :: _ :: _ :: _, _, _ => simp at h
theorem exNs_ok : ∀ c, (exNs c).length ≤ 2 ∧ (exNs c).Nodup := fun c => by
  by_cases h : c < exT.length
  · revert c
    decide
  · unfold exNs
    rw [List.getElem?_eq_none (by omega)]
    simp
section
variable {F : Fx} {X : Cx} {x : Str} {e : Expr} {es : List Expr} {ψ : Exs} {p pos rpos : Pos}
theorem ds_raiseN [C : Ctx F X] [T : XTk F X] (c : Nat) (EC : ErC X.prog X.w X.K X.mg X.base c) (hx : exNm c = x) {j : Nat} (hr : Room j X.A) (hg : Gl X x) (ha : PA X (e :: es) (tA F false ψ)) (hj : 2 ≤ j := by omega) (hdb : (x == ("__debug__" : Str)) = false := by decide)
    (he : starEach (e :: es) X.env = (false, eval e X.env) :: starEach es X.env := by rfl) (hpl : (backTo pos (starEach es X.env)).any (·.1) = false := by rfl) : PS X (.Raise (some (.Call (.Name x p) (e :: es) [] pos)) none rpos) (tS F (stRaiseN c ψ)) := by
  obtain ⟨U, tk, hU⟩ := T.tk
  subst hx
  obtain ⟨fI, fd, ps, h1, h2, h3, h4⟩ := EC.ok
  refine (ps_raise C.calm tk (pmk_oex (dvs := []) (ds := []) EC.T h1 h2 h3 (hr.mono hj) h4 .nil pass0 hg EC.m ha hdb he hpl)).mimp fun D σ H ⟨G, r, st, L, k⟩ => ?_
  refine ⟨G, r, st, L, ?_⟩
  unfold stRaiseN at k
  revert k
  generalize ψ r st = m
  intro k
  cases m with
  | bad => exact k.elim
  | exn c fs st' => exact fun H' G' L' e => k σ H' G' L'.drop e.evs
  | ok y =>
    intro vs H1 G1 L1 ev hvs
    simp only [Res.ok_bind] at k
    split at k
    · rename_i hlen
      have hl : vs.length = (exNs c).length := hvs.length.trans hlen
      have h12 := exNs_ok c
      refine ⟨by omega, fun a hna => ⟨by simp [hl], a, _, vs, by rw [List.append_nil], EC.T, EC.no, upd_same, fun d hd hda => ⟨rfl, d, kvI (exNs c) vs, upd_same, by rw [upd_ne hda, upd_same], ?_, ?_⟩⟩⟩
      · rw [upd_ne hda] at hd
        exact hd
      · rw [upd_ne hda] at hd
        have e2 : upd (del (upd (upd (upd H1 a (exo a (He.ga X.K (exNm c)) none)) d (exd d (kvI (exNs c) vs))) a (exo a (He.ga X.K (exNm c)) (some d))) a) d (.xd (kvI (exNs c) vs)) = upd H1 d (.xd (kvI (exNs c) vs)) := by
          funext b
          by_cases h1 : b = d
          · subst h1; rw [upd_same, upd_same]
          · rw [upd_ne h1, upd_ne h1]
            by_cases h2 : b = a
            · subst h2; rw [del_same]; exact hna.symm
            · rw [del_ne h2, upd_ne h2, upd_ne h1, upd_ne h2]
        rw [e2]
        have L2 : Rel F G1 r y.2 σ (upd H1 d (.xd (kvI (exNs c) vs))) := L1.lay hd
        have nr := L1.noRole hd
        have L3 := L2.give (q := .fz) nr (by rw [upd_same]; simp)
        have s1 : St1 G1 H1 (G1.give d .fz) (upd H1 d (.xd (kvI (exNs c) vs))) := (St1.lay hd).trans (.give nr)
        have ev2 : Ev false G1 H1 (G1.give d .fz) (upd H1 d (.xd (kvI (exNs c) vs))) := ⟨s1, fun b o _ _ h nt => ⟨by rw [upd_ne (ne_of_none h hd)]; exact h, Gh.give_ne (ne_of_none h hd)⟩, fun z => by cases z⟩
        refine hU _ _ _ _ _ _ (k σ _ _ L3.drop (ev.trans ev2).evs) _ _ ⟨by rw [C.K], _, vs, .inr ⟨d, rfl, Gh.give_same, upd_same⟩, kvI_look h12.1 h12.2 hl, Rs.mono s1 hvs⟩
    · exact k.elim
end
/-! ### n.f in an except suite -/
end Mg
end
/-! ## DCall0 -/
section
set_option Elab.async false
set_option linter.all false
set_option maxRecDepth 100000
set_option maxHeartbeats 2500000
/-! f(): a def without parameters. -/
namespace Mg
theorem run_join {α β γ δ : Type} {o : Option α} {f : α → β} {g : α → γ} {h : α → δ} {a : β} {b : γ} {c : δ} (h1 : o.map f = some a) (h2 : o.map g = some b) (h3 : o.map h = some c) : o.map (fun s => (f s, g s, h s)) = some (a, b, c) := by
  cases o with
  | none => cases h1
  | some s =>
    cases h1
    cases h2
    cases h3
    rfl
open PySem PySem.Spec PyProof.Rows L2 GxR
end Mg
end
/-! ## XSem2 -/
section
set_option autoImplicit false
set_option linter.all false
namespace Mg
def b_is_number : Stm :=
  stRet (sAnd (sOp1 (bIsa [.int]) (sVar 0)) (sAnd (sTst (tNot (tTru (sOp1 (bIsa [.bool]) (sVar 0))))) (sChain cLe cLe (sVar 1) (sVar 0) (sVar 2))))
def s_is_number : List D → Sto → Res (D × Sto) := runE 3 b_is_number
def b_is_row : Stm :=
  stSeq (stIf (tOr (tNot (tTru (sOp1 (bIsa [.tup]) (sVar 0)))) (tNot (tTru (sQuant true [4] (.nm 4) (wBor (sVar 0)) (sFn s_is_number (sCons (sVar 4) (sCons (sC (.int 0)) (sCons (sOp2 opSub (sVar 1) (sC (.int 1))) sNil))))))))
  (stRet (sC (.bl false)))
  (stPass))
  (stRet (sQuant true [2, 3] (.tup [.nm 2, .nm 3]) (wZip (sVar 0) (sSlice (sVar 0) (sEnd (sC (.int 1))) (sEnd0))) (sOp2 cLt (sVar 2) (sVar 3))))
def s_is_row : List D → Sto → Res (D × Sto) := runE 5 b_is_row
def b_need_library : Stm :=
  stSeq (stIf (tOr (tNot (tTru (sOp1 (bIsa [.tup]) (sVar 0)))) (tTru (sOp2 cNe (sCall (f1 bLen) (sCons (sVar 0) sNil)) (sC (.int 2)))))
  (stRaiseN 0 (sCons (sC (.str [108, 105, 98, 114, 97, 114, 121])) sNil))
  (stPass))
  (stSeq (stAsg (.tup [.nm 1, .nm 2]) (sVar 0))
  (stSeq (stIf (tNot (tTru (sFn s_is_number (sCons (sVar 1) (sCons (sC (.int 1)) (sCons (sC (.int 3)) sNil))))))
  (stRaiseN 0 (sCons (sC (.str [116, 101, 120, 116, 115])) sNil))
  (stPass))
  (stSeq (stIf (tOr (tNot (tTru (sOp1 (bIsa [.tup]) (sVar 2)))) (tNot (tTru (sChain cLe cLe (sC (.int 1)) (sCall (f1 bLen) (sCons (sVar 2) sNil)) (sC (.int 6))))))
  (stRaiseN 0 (sCons (sC (.str [116, 97, 98, 108, 101, 116, 115])) sNil))
  (stPass))
  (stIf (tNot (tTru (sQuant true [3] (.nm 3) (wBor (sVar 2)) (sFn s_is_row (sCons (sVar 3) (sCons (sVar 1) sNil))))))
  (stRaiseN 0 (sCons (sC (.str [116, 97, 98, 108, 101, 116, 115])) sNil))
  (stPass)))))
def s_need_library : List D → Sto → Res (D × Sto) := runE 4 b_need_library
def b_need_most : Stm :=
  stIf (tNot (tTru (sFn s_is_number (sCons (sVar 0) (sCons (sC (.int 1)) (sCons (sC (.int 3)) sNil))))))
  (stRaise 1)
  (stPass)
def s_need_most : List D → Sto → Res (D × Sto) := runE 1 b_need_most
def b_mask_of : Stm :=
  stRet (sCall (f1 (fun _ => bSum)) (sCons (sComp [1] (.nm 1) (wBor (sVar 0)) (tYes) (sOp2 opShl (sC (.int 1)) (sVar 1))) sNil))
def s_mask_of : List D → Sto → Res (D × Sto) := runE 2 b_mask_of
def b_tablet_of : Stm :=
  stRet (sCall (f1 bTuple) (sCons (sComp [1] (.nm 1) (wRng1 (sC (.int 3))) (tTru (sOp2 opAnd (sOp2 opShr (sVar 0) (sVar 1)) (sC (.int 1)))) (sVar 1)) sNil))
def s_tablet_of : List D → Sto → Res (D × Sto) := runE 2 b_tablet_of
def b_masks_of : Stm :=
  stRet (sCall (f1 bTuple) (sCons (sComp [1] (.nm 1) (wBor (sOpS2 opIx (sVar 0) (sC (.int 1)))) (tYes) (sFn s_mask_of (sCons (sVar 1) sNil))) sNil))
def s_masks_of : List D → Sto → Res (D × Sto) := runE 2 b_masks_of
def b_total : Stm :=
  stSeq (stAsg (.nm 1) (sC (.int 0)))
  (stSeq (stFor (.nm 2) (wBor (sVar 0))
  (stAug 1 opXor (sVar 2)))
  (stRet (sVar 1)))
def s_total : List D → Sto → Res (D × Sto) := runE 3 b_total
def b_span : Stm :=
  stSeq (stAsg (.nm 1) (sLst (sCons (sC (.int 0)) sNil)))
  (stSeq (stFor (.nm 2) (wBor (sVar 0))
  (stIf (tTru (sOp2 cNotIn (sVar 2) (sVar 1)))
  (stAsg (.nm 1) (sOp2 opAdd (sVar 1) (sComp [3] (.nm 3) (wBor (sVar 1)) (tYes) (sOp2 opXor (sVar 3) (sVar 2)))))
  (stPass)))
  (stRet (sCall (f1 (fun _ => bSorted)) (sCons (sVar 1) sNil))))
def s_span : List D → Sto → Res (D × Sto) := runE 4 b_span
def b_has_all : Stm :=
  stRet (sOp2 cEq (sCall (f1 bLen) (sCons (sFn s_span (sCons (sVar 1) sNil)) sNil)) (sOp2 opShl (sC (.int 1)) (sVar 0)))
def s_has_all : List D → Sto → Res (D × Sto) := runE 2 b_has_all
def b_left_of : Stm :=
  stRet (sOp2 opAdd (sSlice (sVar 0) (sEnd0) (sEnd (sVar 1))) (sSlice (sVar 0) (sEnd (sOp2 opAdd (sVar 1) (sC (.int 1)))) (sEnd0)))
def s_left_of : List D → Sto → Res (D × Sto) := runE 2 b_left_of
def b_rows_of : Stm :=
  stSeq (stNew 2 (sLst (sCons (sTup (sNil)) sNil)))
  (stSeq (stFor (.nm 3) (wBor (sVar 0))
  (stExt 2 (sComp [4] (.nm 4) (wBor (sAny 2)) (tTru (sOp2 cLt (sCall (f1 bLen) (sCons (sVar 4) sNil)) (sVar 1))) (sOp2 opAdd (sVar 4) (sTup (sCons (sVar 3) sNil))))))
  (stRet (sCall (f1 (fun _ => bSorted)) (sCons (sAny 2) sNil))))
def s_rows_of : List D → Sto → Res (D × Sto) := runE 5 b_rows_of
def b_sums_of : Stm :=
  stRet (sDComp false [2] (.nm 2) (wBor (sFn s_rows_of (sCons (sOp1 bRgL (sCall (f1 bLen) (sCons (sVar 0) sNil))) (sCons (sVar 1) sNil)))) (tYes) (sFn s_total (sCons (sComp [3] (.nm 3) (wBor (sVar 2)) (tYes) (sOpS2 opIx (sVar 0) (sVar 3))) sNil)) (sC (.bl true)))
def s_sums_of : List D → Sto → Res (D × Sto) := runE 4 b_sums_of
def b_is_tame : Stm :=
  stRet (sOp2 cIn (sOpS2 opIx (sVar 0) (sVar 2)) (sFn s_sums_of (sCons (sFn s_left_of (sCons (sVar 0) (sCons (sVar 2) sNil))) (sCons (sVar 1) sNil))))
def s_is_tame : List D → Sto → Res (D × Sto) := runE 3 b_is_tame
def b_is_fixed : Stm :=
  stRet (sAnd (sFn s_has_all (sCons (sVar 0) (sCons (sVar 1) sNil))) (sQuant true [3] (.nm 3) (wRng1 (sCall (f1 bLen) (sCons (sVar 1) sNil))) (sFn s_is_tame (sCons (sVar 1) (sCons (sVar 2) (sCons (sVar 3) sNil))))))
def s_is_fixed : List D → Sto → Res (D × Sto) := runE 4 b_is_fixed
def b_need_sizes : Stm :=
  stSeq (stIf (tOr (tNot (tTru (sFn s_is_number (sCons (sVar 0) (sCons (sC (.int 1)) (sCons (sC (.int 3)) sNil)))))) (tNot (tTru (sFn s_is_number (sCons (sVar 1) (sCons (sC (.int 1)) (sCons (sC (.int 6)) sNil)))))))
  (stRaise 4)
  (stPass))
  (stExpr (sCallE s_need_most (sCons (sVar 2) sNil)))
def s_need_sizes : List D → Sto → Res (D × Sto) := runE 3 b_need_sizes
def b_sorted_rows : Stm :=
  stSeq (stAsg (.nm 2) (sSortKR s_tablet_of (sOp2 opShl (sC (.int 1)) (sVar 0))))
  (stSeq (stAsg (.nm 3) (sLst (sCons (sTup (sNil)) sNil)))
  (stSeq (stFor (.nm 4) (wRng1 (sVar 1))
  (stAsg (.nm 3) (sComp2 [5, 6] (.nm 5) (wBor (sVar 3)) (tYes) [6] (.nm 6) (wBor (sVar 2)) (tOr (tNot (tTru (sVar 5))) (tTru (sOp2 cLe (sFn s_tablet_of (sCons (sOpS2 opIx (sVar 5) (sOp1 opNeg (sC (.int 1)))) sNil)) (sFn s_tablet_of (sCons (sVar 6) sNil))))) (sOp2 opAdd (sVar 5) (sTup (sCons (sVar 6) sNil))))))
  (stRet (sVar 3))))
def s_sorted_rows : List D → Sto → Res (D × Sto) := runE 7 b_sorted_rows
def b_all_schemes : Stm :=
  stRet (sComp [3] (.nm 3) (wBor (sFn s_sorted_rows (sCons (sVar 0) (sCons (sVar 1) sNil)))) (tTru (sFn s_is_fixed (sCons (sVar 0) (sCons (sVar 3) (sCons (sVar 2) sNil))))) (sVar 3))
def s_all_schemes : List D → Sto → Res (D × Sto) := runE 4 b_all_schemes
def b_is_bits : Stm :=
  stRet (sAnd (sOp1 (bIsa [.tup]) (sVar 0)) (sAnd (sOp2 cEq (sCall (f1 bLen) (sCons (sVar 0) sNil)) (sVar 1)) (sQuant true [2] (.nm 2) (wBor (sVar 0)) (sFn s_is_number (sCons (sVar 2) (sCons (sC (.int 0)) (sCons (sC (.int 1)) sNil)))))))
def s_is_bits : List D → Sto → Res (D × Sto) := runE 3 b_is_bits
def b_need_bits : Stm :=
  stIf (tNot (tTru (sFn s_is_bits (sCons (sVar 0) (sCons (sVar 1) sNil)))))
  (stRaise 6)
  (stPass)
def s_need_bits : List D → Sto → Res (D × Sto) := runE 2 b_need_bits
def b_shown : Stm :=
  stSeq (stExpr (sCallE s_need_library (sCons (sVar 0) sNil)))
  (stSeq (stExpr (sCallE s_need_bits (sCons (sVar 1) (sCons (sOpS2 opIx (sVar 0) (sC (.int 0))) sNil))))
  (stBad))
def s_shown : List D → Sto → Res (D × Sto) := runE 5 b_shown
def b_need_wrong : Stm :=
  stSeq (stExpr (sCallE s_need_library (sCons (sVar 0) sNil)))
  (stIf (tNot (tTru (sFn s_is_number (sCons (sVar 1) (sCons (sC (.int 0)) (sCons (sC (.int 6)) sNil))))))
  (stRaise 4)
  (stPass))
def s_need_wrong : List D → Sto → Res (D × Sto) := runE 2 b_need_wrong
def b_can_tell : Stm :=
  stSeq (stExpr (sCallE s_need_wrong (sCons (sVar 0) (sCons (sVar 1) sNil))))
  (stBad)
def s_can_tell : List D → Sto → Res (D × Sto) := runE 2 b_can_tell
def b_can_right : Stm :=
  stSeq (stExpr (sCallE s_need_wrong (sCons (sVar 0) (sCons (sVar 1) sNil))))
  (stBad)
def s_can_right : List D → Sto → Res (D × Sto) := runE 2 b_can_right
def b_contents_told : Stm :=
  stSeq (stExpr (sCallE s_need_library (sCons (sVar 0) sNil)))
  (stSeq (stExpr (sCallE s_need_bits (sCons (sVar 1) (sCons (sCall (f1 bLen) (sCons (sOpS2 opIx (sVar 0) (sC (.int 1))) sNil)) sNil))))
  (stSeq (stIf (tNot (tTru (sFn s_is_number (sCons (sVar 2) (sCons (sC (.int 0)) (sCons (sC (.int 6)) sNil))))))
  (stRaise 4)
  (stPass))
  (stBad)))
def s_contents_told : List D → Sto → Res (D × Sto) := runE 7 b_contents_told
def b_fewest_wrong : Stm :=
  stSeq (stExpr (sCallE s_need_library (sCons (sVar 0) sNil)))
  (stSeq (stExpr (sCallE s_need_bits (sCons (sVar 1) (sCons (sCall (f1 bLen) (sCons (sOpS2 opIx (sVar 0) (sC (.int 1))) sNil)) sNil))))
  (stBad))
def s_fewest_wrong : List D → Sto → Res (D × Sto) := runE 4 b_fewest_wrong
def b_failing_rings : Stm :=
  stSeq (stExpr (sCallE s_need_library (sCons (sVar 0) sNil)))
  (stSeq (stExpr (sCallE s_need_most (sCons (sVar 1) sNil)))
  (stSeq (stExpr (sCallE s_need_bits (sCons (sVar 2) (sCons (sCall (f1 bLen) (sCons (sOpS2 opIx (sVar 0) (sC (.int 1))) sNil)) sNil))))
  (stBad)))
def s_failing_rings : List D → Sto → Res (D × Sto) := runE 5 b_failing_rings
def b_in_order : Stm :=
  stRet (sCall (f1 bTuple) (sCons (sSortK s_tablet_of (sVar 0)) sNil))
def s_in_order : List D → Sto → Res (D × Sto) := runE 1 b_in_order
def b_named_kinds : Stm :=
  stSeq (stExpr (sCallE s_need_sizes (sCons (sVar 0) (sCons (sVar 1) (sCons (sVar 2) sNil)))))
  (stBad)
def s_named_kinds : List D → Sto → Res (D × Sto) := runE 3 b_named_kinds
def b_mixed_kinds : Stm :=
  stSeq (stExpr (sCallE s_need_sizes (sCons (sVar 0) (sCons (sVar 1) (sCons (sVar 2) sNil)))))
  (stBad)
def s_mixed_kinds : List D → Sto → Res (D × Sto) := runE 3 b_mixed_kinds
def b_scheme_number : Stm :=
  stSeq (stExpr (sCallE s_need_library (sCons (sVar 0) sNil)))
  (stSeq (stExpr (sCallE s_need_most (sCons (sVar 1) sNil)))
  (stSeq (stAsg (.nm 2) (sFn s_in_order (sCons (sFn s_masks_of (sCons (sVar 0) sNil)) sNil)))
  (stSeq (stIf (tNot (tTru (sFn s_is_fixed (sCons (sOpS2 opIx (sVar 0) (sC (.int 0))) (sCons (sVar 2) (sCons (sVar 1) sNil))))))
  (stRaise 7)
  (stPass))
  (stBad))))
def s_scheme_number : List D → Sto → Res (D × Sto) := runE 3 b_scheme_number
def b_scheme_told : Stm :=
  stSeq (stExpr (sCallE s_need_sizes (sCons (sVar 0) (sCons (sVar 1) (sCons (sVar 2) sNil)))))
  (stSeq (stAsg (.nm 4) (sFn s_all_schemes (sCons (sVar 0) (sCons (sVar 1) (sCons (sVar 2) sNil)))))
  (stSeq (stIf (tNot (tTru (sFn s_is_number (sCons (sVar 3) (sCons (sC (.int 0)) (sCons (sOp2 opSub (sCall (f1 bLen) (sCons (sVar 4) sNil)) (sC (.int 1))) sNil))))))
  (stRaise 4)
  (stPass))
  (stBad)))
def s_scheme_told : List D → Sto → Res (D × Sto) := runE 5 b_scheme_told
def b_need_flood : Stm :=
  stSeq (stExpr (sCallE s_need_library (sCons (sVar 0) sNil)))
  (stSeq (stExpr (sCallE s_need_most (sCons (sVar 1) sNil)))
  (stIf (tNot (tTru (sFn s_is_number (sCons (sVar 2) (sCons (sC (.int 1)) (sCons (sCall (f2 (fun _ => bMin2)) (sCons (sC (.int 3)) (sCons (sCall (f1 bLen) (sCons (sOpS2 opIx (sVar 0) (sC (.int 1))) sNil)) sNil))) sNil))))))
  (stRaise 4)
  (stPass)))
def s_need_flood : List D → Sto → Res (D × Sto) := runE 3 b_need_flood
def b_flood_lost_within : Stm :=
  stSeq (stExpr (sCallE s_need_flood (sCons (sVar 0) (sCons (sVar 1) (sCons (sVar 2) sNil)))))
  (stBad)
def s_flood_lost_within : List D → Sto → Res (D × Sto) := runE 3 b_flood_lost_within
def b_flood_kept : Stm :=
  stSeq (stExpr (sCallE s_need_flood (sCons (sVar 0) (sCons (sVar 1) (sCons (sVar 2) sNil)))))
  (stBad)
def s_flood_kept : List D → Sto → Res (D × Sto) := runE 3 b_flood_kept
def b_flood_family : Stm :=
  stSeq (stExpr (sCallE s_need_flood (sCons (sVar 0) (sCons (sVar 1) (sCons (sVar 2) sNil)))))
  (stBad)
def s_flood_family : List D → Sto → Res (D × Sto) := runE 11 b_flood_family
def b_is_flood_scheme : Stm :=
  stSeq (stExpr (sCallE s_need_flood (sCons (sVar 0) (sCons (sVar 1) (sCons (sVar 2) sNil)))))
  (stBad)
def s_is_flood_scheme : List D → Sto → Res (D × Sto) := runE 4 b_is_flood_scheme
def b_flood_schemes : Stm :=
  stSeq (stExpr (sCallE s_need_sizes (sCons (sVar 0) (sCons (sVar 1) (sCons (sVar 2) sNil)))))
  (stSeq (stIf (tNot (tTru (sFn s_is_number (sCons (sVar 3) (sCons (sC (.int 1)) (sCons (sCall (f2 (fun _ => bMin2)) (sCons (sC (.int 3)) (sCons (sVar 1) sNil))) sNil))))))
  (stRaise 4)
  (stPass))
  (stBad))
def s_flood_schemes : List D → Sto → Res (D × Sto) := runE 6 b_flood_schemes
def b_need_late : Stm :=
  stSeq (stExpr (sCallE s_need_library (sCons (sVar 0) sNil)))
  (stSeq (stExpr (sCallE s_need_most (sCons (sVar 1) sNil)))
  (stIf (tNot (tTru (sFn s_is_number (sCons (sVar 2) (sCons (sC (.int 0)) (sCons (sCall (f2 (fun _ => bMin2)) (sCons (sC (.int 3)) (sCons (sOp2 opSub (sCall (f1 bLen) (sCons (sOpS2 opIx (sVar 0) (sC (.int 1))) sNil)) (sC (.int 1))) sNil))) sNil))))))
  (stRaise 4)
  (stPass)))
def s_need_late : List D → Sto → Res (D × Sto) := runE 3 b_need_late
def b_late_lost_within : Stm :=
  stSeq (stExpr (sCallE s_need_late (sCons (sVar 0) (sCons (sVar 1) (sCons (sVar 2) sNil)))))
  (stBad)
def s_late_lost_within : List D → Sto → Res (D × Sto) := runE 9 b_late_lost_within
def b_late_kept : Stm :=
  stSeq (stExpr (sCallE s_need_late (sCons (sVar 0) (sCons (sVar 1) (sCons (sVar 2) sNil)))))
  (stBad)
def s_late_kept : List D → Sto → Res (D × Sto) := runE 3 b_late_kept
def b_l_error (g : Nat → Sto → Res (D × Sto)) : Stm :=
  stSeq (stAsg (.nm 1) (sC .non))
  (stSeq (stTry [0, 1, 2, 3, 4, 5, 6, 7] 3 (sAct 0 g)
  (stSeq (stAsg (.nm 2) (sLst (sCons (sIsE (fun c => c == 0) (sVar 3)) (sCons (sIsE (fun c => c == 1) (sVar 3)) (sCons (sIsE (fun c => c == 2) (sVar 3)) sNil)))))
  (stSeq (stAsg (.nm 2) (sOp2 opAdd (sVar 2) (sLst (sCons (sIsE (fun c => c == 3) (sVar 3)) (sCons (sIsE (fun c => c == 4) (sVar 3)) sNil)))))
  (stSeq (stAsg (.nm 2) (sOp2 opAdd (sVar 2) (sLst (sCons (sIsE (fun c => c == 5) (sVar 3)) sNil))))
  (stSeq (stAsg (.nm 2) (sOp2 opAdd (sVar 2) (sLst (sCons (sIsE (fun c => c == 6) (sVar 3)) (sCons (sIsE (fun c => c == 7) (sVar 3)) sNil)))))
  (stAsg (.nm 1) (sIte (tAnd (tTru (sOp2 cEq (sLm1 bCountD (sVar 2) (sC (.bl true))) (sC (.int 1)))) (tTru (sIsE (fun _ => true) (sVar 3)))) (sLm1 bIdx (sVar 2) (sC (.bl true))) (sC (.str [111, 116, 104, 101, 114])))))))))
  (stRet (sVar 1)))
end Mg
end
/-! ## K71Sem -/
section
set_option autoImplicit false
set_option linter.all false
namespace Mg
def lam_law : Nat → Ex
  | 0 => sCallE s_flood_lost_within (sCons (sVar 3) (sCons (sC (.int 2)) (sCons (sVar 4) sNil)))
  | 1 => sCallE s_flood_kept (sCons (sTup (sCons (sC (.int 1)) (sCons (sTup (sCons (sTup (sNil)) sNil)) sNil))) (sCons (sC (.int 2)) (sCons (sC (.int 2)) sNil)))
  | 2 => sCallE s_flood_family (sCons (sVar 3) (sCons (sC (.int 2)) (sCons (sVar 4) sNil)))
  | 3 => sCallE s_is_flood_scheme (sCons (sVar 3) (sCons (sC (.int 2)) (sCons (sVar 4) sNil)))
  | 4 => sCallE s_late_kept (sCons (sVar 3) (sCons (sC (.int 2)) (sCons (sVar 5) sNil)))
  | 5 => sCallE s_late_lost_within (sCons (sTup (sCons (sC (.int 1)) (sCons (sTup (sCons (sTup (sNil)) sNil)) sNil))) (sCons (sC (.int 2)) (sCons (sC (.int 1)) sNil)))
  | 6 => sCallE s_can_tell (sCons (sVar 3) (sCons (sVar 6) sNil))
  | 7 => sCallE s_can_right (sCons (sVar 3) (sCons (sVar 6) sNil))
  | 8 => sCallE s_contents_told (sCons (sVar 3) (sCons (sTup (sCons (sC (.int 0)) (sCons (sC (.int 0)) (sCons (sC (.int 0)) sNil)))) (sCons (sVar 6) sNil)))
  | 9 => sCallE s_named_kinds (sCons (sVar 2) (sCons (sC .non) (sCons (sC .non) sNil)))
  | 10 => sCallE s_mixed_kinds (sCons (sC (.int 2)) (sCons (sVar 2) (sCons (sC .non) sNil)))
  | 11 => sCallE s_flood_schemes (sCons (sC (.int 4)) (sCons (sC (.int 3)) (sCons (sC (.int 2)) (sCons (sC (.int 1)) sNil))))
  | 12 => sCallE s_flood_schemes (sCons (sC (.int 2)) (sCons (sC (.int 2)) (sCons (sC (.int 2)) (sCons (sC (.int 3)) sNil))))
  | 13 => sCallE s_scheme_told (sCons (sC (.int 2)) (sCons (sC (.int 3)) (sCons (sC (.int 2)) (sCons (sFn s_l_pick (sCons (sVar 1) (sCons (sLst (sCons (sC .non) (sCons (sOp1 opNeg (sC (.int 1))) (sCons (sC (.int 1)) (sCons (sC (.bl true)) sNil))))) sNil))) sNil))))
  | 14 => sCallE s_scheme_told (sCons (sC (.int 2)) (sCons (sC (.int 2)) (sCons (sC (.int 2)) (sCons (sC (.int 0)) sNil))))
  | 15 => sCallE s_shown (sCons (sVar 3) (sCons (sVar 8) sNil))
  | 16 => sCallE s_contents_told (sCons (sVar 3) (sCons (sVar 8) (sCons (sC .non) sNil)))
  | 17 => sCallE s_fewest_wrong (sCons (sVar 3) (sCons (sVar 8) sNil))
  | 18 => sCallE s_failing_rings (sCons (sVar 3) (sCons (sC (.int 2)) (sCons (sVar 8) sNil)))
  | 19 => sCallE s_scheme_number (sCons (sTup (sCons (sC (.int 2)) (sCons (sTup (sCons (sTup (sCons (sC (.int 0)) sNil)) (sCons (sTup (sCons (sC (.int 1)) sNil)) sNil))) sNil))) (sCons (sC (.int 2)) sNil))
  | _ => fun _ _ => .bad
def b_law0 : Stm :=
  stBox 1 (sCons (sVar 0) (sCons (sC (.int 0)) (sCons (sC (.int 11411)) (sCons (sC (.int 0)) sNil))))
def b_law1 : Stm :=
  stAsg (.tup [.nm 2, .nm 3]) (sTup (sCons (sFn s_l_pick (sCons (sVar 1) (sCons (sLst (sCons (sC .non) (sCons (sOp1 opNeg (sC (.int 1))) (sCons (sC (.int 9)) (sCons (sC (.bl true)) (sCons (sC (.str [48])) sNil)))))) sNil))) (sCons (sTup (sCons (sC (.int 2)) (sCons (sTup (sCons (sTup (sCons (sC (.int 0)) sNil)) (sCons (sTup (sCons (sC (.int 1)) sNil)) (sCons (sTup (sCons (sC (.int 0)) (sCons (sC (.int 1)) sNil))) sNil)))) sNil))) sNil)))
def b_law2 : Stm :=
  stAsg (.tup [.nm 4, .nm 5, .nm 6]) (sTup (sCons (sFn s_l_pick (sCons (sVar 1) (sCons (sLst (sCons (sC .non) (sCons (sC (.int 0)) (sCons (sC (.int 4)) (sCons (sC (.bl true)) sNil))))) sNil))) (sCons (sFn s_l_pick (sCons (sVar 1) (sCons (sLst (sCons (sC .non) (sCons (sOp1 opNeg (sC (.int 1))) (sCons (sC (.int 3)) (sCons (sC (.bl true)) sNil))))) sNil))) (sCons (sFn s_l_pick (sCons (sVar 1) (sCons (sLst (sCons (sC .non) (sCons (sOp1 opNeg (sC (.int 1))) (sCons (sC (.int 7)) (sCons (sC (.bl true)) sNil))))) sNil))) sNil))))
def b_law3 : Stm :=
  stAsg (.nm 7) (sLst (sCons (sC (.fo 0)) (sCons (sC (.fo 1)) sNil)))
def b_law4 : Stm :=
  stAsg (.nm 7) (sOp2 opAdd (sVar 7) (sLst (sCons (sC (.fo 2)) (sCons (sC (.fo 3)) sNil))))
def b_law5 : Stm :=
  stAsg (.nm 7) (sOp2 opAdd (sVar 7) (sLst (sCons (sC (.fo 4)) (sCons (sC (.fo 5)) sNil))))
def b_law6 : Stm :=
  stAsg (.nm 7) (sOp2 opAdd (sVar 7) (sLst (sCons (sC (.fo 6)) (sCons (sC (.fo 7)) sNil))))
def b_law7 : Stm :=
  stAsg (.nm 7) (sOp2 opAdd (sVar 7) (sLst (sCons (sC (.fo 8)) (sCons (sC (.fo 9)) sNil))))
def b_law8 : Stm :=
  stAsg (.nm 7) (sOp2 opAdd (sVar 7) (sLst (sCons (sC (.fo 10)) sNil)))
def b_law9 : Stm :=
  stAsg (.nm 7) (sOp2 opAdd (sVar 7) (sLst (sCons (sC (.fo 11)) (sCons (sC (.fo 12)) sNil))))
def b_law10 : Stm :=
  stAsg (.nm 7) (sOp2 opAdd (sVar 7) (sLst (sCons (sC (.fo 13)) sNil)))
def b_law11 : Stm :=
  stAsg (.nm 7) (sOp2 opAdd (sVar 7) (sLst (sCons (sC (.fo 14)) sNil)))
def b_law12 : Stm :=
  stIf (tTru (sOp2 cNe (sComp [10] (.nm 10) (wBor (sVar 7)) (tTru (sOp2 cNe (sErrK [1, 2, 3, 4, 5, 6, 8] lam_law (fun g ds st => runE 4 (b_l_error g) ds st) (sCons (sVar 10) sNil)) (sC (.int 4)))) (sVar 10)) (sLst (sNil))))
  (stRet (sC (.bl false)))
  (stPass)
def b_law13 : Stm :=
  stAsg (.nm 8) (sFn s_l_pick (sCons (sVar 1) (sCons (sLst (sCons (sC .non) (sCons (sTup (sNil)) (sCons (sTup (sCons (sC (.int 0)) sNil)) (sCons (sTup (sCons (sC (.int 0)) (sCons (sC (.int 2)) (sCons (sC (.int 0)) sNil)))) (sCons (sTup (sCons (sC (.int 0)) (sCons (sC (.bl true)) (sCons (sC (.int 0)) sNil)))) (sCons (sLst (sCons (sC (.int 0)) (sCons (sC (.int 0)) (sCons (sC (.int 0)) sNil)))) (sCons (sOp2 opRep (sTup (sCons (sC (.int 0)) sNil)) (sC (.int 4))) sNil)))))))) sNil)))
def b_law14 : Stm :=
  stAsg (.nm 9) (sLst (sCons (sErrK [1, 2, 3, 4, 5, 6, 8] lam_law (fun g ds st => runE 4 (b_l_error g) ds st) (sCons (sC (.fo 15)) sNil)) (sCons (sErrK [1, 2, 3, 4, 5, 6, 8] lam_law (fun g ds st => runE 4 (b_l_error g) ds st) (sCons (sC (.fo 16)) sNil)) sNil)))
def b_law15 : Stm :=
  stAsg (.nm 9) (sOp2 opAdd (sVar 9) (sLst (sCons (sErrK [1, 2, 3, 4, 5, 6, 8] lam_law (fun g ds st => runE 4 (b_l_error g) ds st) (sCons (sC (.fo 17)) sNil)) sNil)))
def b_law16 : Stm :=
  stAsg (.nm 9) (sOp2 opAdd (sVar 9) (sLst (sCons (sErrK [1, 2, 3, 4, 5, 6, 8] lam_law (fun g ds st => runE 4 (b_l_error g) ds st) (sCons (sC (.fo 18)) sNil)) sNil)))
def b_law17 : Stm :=
  stAsg (.nm 9) (sOp2 opAdd (sVar 9) (sLst (sCons (sErrK [1, 2, 3, 4, 5, 6, 8] lam_law (fun g ds st => runE 4 (b_l_error g) ds st) (sCons (sC (.fo 19)) sNil)) sNil)))
def b_law18 : Stm :=
  stRet (sOp2 cEq (sVar 9) (sLst (sCons (sC (.int 6)) (sCons (sC (.int 6)) (sCons (sC (.int 6)) (sCons (sC (.int 6)) (sCons (sC (.int 7)) sNil)))))))
def b_law : Stm :=
  stSeq b_law0 (stSeq b_law1 (stSeq b_law2 (stSeq b_law3 (stSeq b_law4 (stSeq b_law5 (stSeq b_law6 (stSeq b_law7 (stSeq b_law8 (stSeq b_law9 (stSeq b_law10 (stSeq b_law11 (stSeq b_law12 (stSeq b_law13 (stSeq b_law14 (stSeq b_law15 (stSeq b_law16 (stSeq b_law17 (b_law18))))))))))))))))))
def s_law : List D → Sto → Res (D × Sto) := runE 11 b_law
end Mg
end
/-! ## K71Prf -/
section
set_option Elab.async false
set_option linter.all false
set_option maxRecDepth 100000
set_option maxHeartbeats 2500000
namespace Mg
open PySem PySem.Spec PyProof.Rows L2 GxR
def top (i : Nat) : Stmt := PySem.Challenge.pw_meltlibrary_k71_numbers_and_rows_refused.main.body.getD i (.Pass ⟨0, 0, 0, 0⟩)
abbrev FnP (K : PySem.W.Frag) (x : Str) (st : Stmt) (f : Addr) (fd : FuncData) : Prop := FunD K x x (defArgs st) (defBody st) (defScope st) [] [] f fd
section
variable {P : Program} {w : World} {K : PySem.W.Frag} {mg : Str → Option Value} {base : Heap} {Tb : TbT} {f : Addr} {fd : FuncData}
abbrev st_is_number : Stmt := top 15
theorem sc_is_number : FnScope ["value", "low", "high"] ["value", "low", "high"] (defScope st_is_number) := ⟨rfl, rfl, rfl, by decide +kernel, rfl, by decide +kernel, by decide +kernel⟩
theorem d_is_number (FD : FnP K "is_number" st_is_number f fd) (hm : mg "is_number" = some (.ref f)) (b_bool : mg "bool" = none) (b_int : mg "int" = none) (b_isinstance : mg "isinstance" = none) :
  DefOk P w K mg base Tb "is_number" 3 s_is_number 1 := ⟨f, fd, _, fn_data FD sc_is_number (fun c A outer s H E hc hr C => 
  (dss_one (ds_ret (de_and (de_isa .int (L2.PE.weak (de_var 0)) (ve_ty .int rfl b_int) rfl b_isinstance) (de_and (de_not (L2.PE.weak (de_isa .bool (L2.PE.weak (de_var 0)) (ve_ty .bool rfl b_bool) rfl b_isinstance))) (de_one (ve_chain ok_le ok_le (L2.PE.weak (de_var 1)) (L2.PE.weak (de_var 0)) (L2.PE.weak (de_var 2))))))))), hm, FD.kp, FD.bindsN fun _ _ _ _ _ _ us hl => match us, hl with | [_, _, _], _ => rfl⟩
abbrev st_is_row : Stmt := top 16
theorem sc_is_row : FnScope ["value", "many", "one", "other", "part"] ["value", "many"] (defScope st_is_row) := ⟨rfl, rfl, rfl, by decide +kernel, rfl, by decide +kernel, by decide +kernel⟩
theorem d_is_row (FD : FnP K "is_row" st_is_row f fd) (hm : mg "is_row" = some (.ref f)) (d_is_number : DefOk P w K mg base Tb "is_number" 3 s_is_number 1) (b_all : mg "all" = none) (b_isinstance : mg "isinstance" = none) (b_tuple : mg "tuple" = none) (b_zip : mg "zip" = none) {c0 T0 : Addr} (hcd : fd.code = .ref c0) (TB : TabB base mg c0 T0) (hP : T0 ∈ Tb) :
  DefOk P w K mg base Tb "is_row" 2 s_is_row 3 := ⟨f, fd, _, fn_data FD sc_is_row (fun c A outer s H E hc hr C => by
  have e0 := hc.symm.trans hcd
  cases e0
  exact (dss_cons (ds_if (L2.PW.pt (dw_or (dt_not (dt_tru (L2.PE.weak (de_isa .tup (L2.PE.weak (de_var 0)) (ve_ty .tup rfl b_tuple) rfl b_isinstance)))) (dw_or1 (dt_not (dt_tru (L2.PE.weak (de_all (own := [("part", 4)]) (k := 1) hP hr sc_is_row.nd rfl b_all TB rfl ⟨blkOk_by (by kernel_rfl), by decide +kernel, rfl, rfl⟩ (di_bor (L2.PE.weak (de_var 0))) (fun _ _ _ ge _ _ e hr C => by cases ge; cases e; exact (dg_nm 4 sc_is_row.nd)) (fun _ _ _ ge _ _ e hr C => by cases ge; cases e; exact (ve_call d_is_number hr (ha := (db_cons (de_var 4) (db_cons de_int (db_cons (ve_sub (L2.PE.weak (de_var 1)) (L2.PE.weak de_int)) db_nil)))) (hn := (cnt_cons (cnt_cons (cnt_cons cnt_nil)))))))))))))
  (dss_one (ds_ret de_bl))
  dss_nil)
  (dss_one (ds_ret (de_all (own := [("one", 2), ("other", 3)]) (k := 1) hP hr sc_is_row.nd rfl b_all TB rfl ⟨blkOk_by (by kernel_rfl), by decide +kernel, rfl, rfl⟩ (di_zip rfl b_zip (de_var 0) (de_slice (L2.PE.weak (de_var 0)) (do_some (L2.PE.weak de_int)) do_none)) (fun _ _ _ ge _ _ e hr C => by cases ge; cases e; exact (dg_tup (dgs_cons (dg_nm 2 sc_is_row.nd) (dgs_cons (dg_nm 3 sc_is_row.nd) dgs_nil)))) (fun _ _ _ ge _ _ e hr C => by cases ge; cases e; exact (ve_cmp ok_lt (L2.PE.weak (de_var 2)) (L2.PE.weak (de_var 3))))))))), hm, FD.kp, FD.bindsN fun _ _ _ _ _ _ us hl => match us, hl with | [_, _], _ => rfl⟩
abbrev st_need_library : Stmt := top 17
theorem sc_need_library : FnScope ["value", "texts", "tablets", "tablet"] ["value"] (defScope st_need_library) := ⟨rfl, rfl, rfl, by decide +kernel, rfl, by decide +kernel, by decide +kernel⟩
theorem d_need_library (FD : FnP K "need_library" st_need_library f fd) (hm : mg "need_library" = some (.ref f)) (d_is_number : DefOk P w K mg base Tb "is_number" 3 s_is_number 1) (d_is_row : DefOk P w K mg base Tb "is_row" 2 s_is_row 3) (b_all : mg "all" = none) (b_isinstance : mg "isinstance" = none) (b_len : mg "len" = none) (b_tuple : mg "tuple" = none) {t_MOST_TABLETS : Tok} (g_MOST_TABLETS : mg "MOST_TABLETS" = some (.int 6 t_MOST_TABLETS)) {t_MOST_TEXTS : Tok} (g_MOST_TEXTS : mg "MOST_TEXTS" = some (.int 3 t_MOST_TEXTS)) {c0 T0 : Addr} (hcd : fd.code = .ref c0) (TB : TabB base mg c0 T0) (hP : T0 ∈ Tb) (m_BadLibrary : mg "BadLibrary" = some (.ref (He.ga K "BadLibrary"))) (e_BadLibrary : ErC P w K mg base 0) :
  DefX P w K mg base Tb "need_library" 1 s_need_library 5 := ⟨f, fd, _, fn_dataX FD sc_need_library (fun c A outer s H E hc hr C T => by
  have e0 := hc.symm.trans hcd
  cases e0
  exact (dss_cons (ds_if (L2.PW.pt (dw_or (dt_not (dt_tru (L2.PE.weak (de_isa .tup (L2.PE.weak (de_var 0)) (ve_ty .tup rfl b_tuple) rfl b_isinstance)))) (dw_or1 (vt_cmp ok_ne (L2.PE.weak (ve_len rfl b_len (da_cons (L2.PE.weak (de_var 0)) da_nil))) (L2.PE.weak de_int)))))
  (dss_one (ds_raiseN 0 e_BadLibrary rfl hr rfl (db_cons (de_str rfl) db_nil)))
  dss_nil)
  (dss_cons (ds_asg (de_var 0) (dg_tup (dgs_cons (dg_nm 1 sc_need_library.nd) (dgs_cons (dg_nm 2 sc_need_library.nd) dgs_nil))))
  (dss_cons (ds_if (dt_not (dt_tru (L2.PE.weak (ve_call d_is_number hr (ha := (db_cons (de_var 1) (db_cons de_int (db_cons (de_gint rfl g_MOST_TEXTS) db_nil)))) (hn := (cnt_cons (cnt_cons (cnt_cons cnt_nil))))))))
  (dss_one (ds_raiseN 0 e_BadLibrary rfl hr rfl (db_cons (de_str rfl) db_nil)))
  dss_nil)
  (dss_cons (ds_if (L2.PW.pt (dw_or (dt_not (dt_tru (L2.PE.weak (de_isa .tup (L2.PE.weak (de_var 2)) (ve_ty .tup rfl b_tuple) rfl b_isinstance)))) (dw_or1 (dt_not (vt_chain ok_le ok_le (L2.PE.weak de_int) (L2.PE.weak (ve_len rfl b_len (da_cons (L2.PE.weak (de_var 2)) da_nil))) (L2.PE.weak (de_gint rfl g_MOST_TABLETS)))))))
  (dss_one (ds_raiseN 0 e_BadLibrary rfl hr rfl (db_cons (de_str rfl) db_nil)))
  dss_nil)
  (dss_one (ds_if (dt_not (dt_tru (L2.PE.weak (de_all (own := [("tablet", 3)]) (k := 3) hP hr sc_need_library.nd rfl b_all TB rfl ⟨blkOk_by (by kernel_rfl), by decide +kernel, rfl, rfl⟩ (di_bor (L2.PE.weak (de_var 2))) (fun _ _ _ ge _ _ e hr C => by cases ge; cases e; exact (dg_nm 3 sc_need_library.nd)) (fun _ _ _ ge _ _ e hr C => by cases ge; cases e; exact (ve_call d_is_row hr (ha := (db_cons (de_var 3) (db_cons (de_var 1) db_nil))) (hn := (cnt_cons (cnt_cons cnt_nil)))))))))
  (dss_one (ds_raiseN 0 e_BadLibrary rfl hr rfl (db_cons (de_str rfl) db_nil)))
  dss_nil))))))), hm, FD.kp, FD.bindsN fun _ _ _ _ _ _ us hl => match us, hl with | [_], _ => rfl⟩
abbrev st_need_most : Stmt := top 18
theorem sc_need_most : FnScope ["value"] ["value"] (defScope st_need_most) := ⟨rfl, rfl, rfl, by decide +kernel, rfl, by decide +kernel, by decide +kernel⟩
theorem d_need_most (FD : FnP K "need_most" st_need_most f fd) (hm : mg "need_most" = some (.ref f)) (d_is_number : DefOk P w K mg base Tb "is_number" 3 s_is_number 1) {t_MOST_SUM : Tok} (g_MOST_SUM : mg "MOST_SUM" = some (.int 3 t_MOST_SUM)) (m_BadMost : mg "BadMost" = some (.ref (He.ga K "BadMost"))) (fx_BadMost : PySem.W.excIn K (He.ga K "BadMost") He.veBase "ValueError.__new__" = true ∧ PySem.W.keepIn K (.ref (He.ga K "BadMost")) = true ∧ PySem.W.subIn K (.ref (He.ga K "BadMost")) (.type "BaseException") = some true ∧ PySem.W.typeIn K (.ref (He.ga K "BadMost")) = some (.type "type")) :
  DefX P w K mg base Tb "need_most" 1 s_need_most 2 := ⟨f, fd, _, fn_dataX FD sc_need_most (fun c A outer s H E hc hr C T => 
  (dss_one (ds_if (dt_not (dt_tru (L2.PE.weak (ve_call d_is_number hr (ha := (db_cons (de_var 0) (db_cons de_int (db_cons (de_gint rfl g_MOST_SUM) db_nil)))) (hn := (cnt_cons (cnt_cons (cnt_cons cnt_nil))))))))
  (dss_one (ds_raise 1 rfl rfl fx_BadMost m_BadMost rfl))
  dss_nil))), hm, FD.kp, FD.bindsN fun _ _ _ _ _ _ us hl => match us, hl with | [_], _ => rfl⟩
abbrev st_mask_of : Stmt := top 19
theorem sc_mask_of : FnScope ["tablet", "text"] ["tablet"] (defScope st_mask_of) := ⟨rfl, rfl, rfl, by decide +kernel, rfl, by decide +kernel, by decide +kernel⟩
theorem d_mask_of (FD : FnP K "mask_of" st_mask_of f fd) (hm : mg "mask_of" = some (.ref f)) (b_sum : mg "sum" = none) :
  DefOk P w K mg base Tb "mask_of" 1 s_mask_of 1 := ⟨f, fd, _, fn_data FD sc_mask_of (fun c A outer s H E hc hr C => 
  (dss_one (ds_ret (ve_sum rfl b_sum (da_cons (L2.PE.weak (de_lc (own := [("text", 1)]) sc_mask_of.nd (di_bor (L2.PE.weak (de_var 0))) (blkOk_by (by kernel_rfl)) (fun _ _ _ _ _ => (dg_nm 1 sc_mask_of.nd)) (fun _ _ _ _ _ => dif_nil) (fun _ _ _ _ _ => (ve_shl (L2.PE.weak de_int) (L2.PE.weak (de_var 1)))))) da_nil))))), hm, FD.kp, FD.bindsN fun _ _ _ _ _ _ us hl => match us, hl with | [_], _ => rfl⟩
abbrev st_tablet_of : Stmt := top 20
theorem sc_tablet_of : FnScope ["mask", "text"] ["mask"] (defScope st_tablet_of) := ⟨rfl, rfl, rfl, by decide +kernel, rfl, by decide +kernel, by decide +kernel⟩
theorem d_tablet_of (FD : FnP K "tablet_of" st_tablet_of f fd) (hm : mg "tablet_of" = some (.ref f)) (b_range : mg "range" = none) (b_tuple : mg "tuple" = none) {t_MOST_TEXTS : Tok} (g_MOST_TEXTS : mg "MOST_TEXTS" = some (.int 3 t_MOST_TEXTS)) :
  DefOk P w K mg base Tb "tablet_of" 1 s_tablet_of 1 := ⟨f, fd, _, fn_data FD sc_tablet_of (fun c A outer s H E hc hr C => 
  (dss_one (ds_ret (ve_tuple rfl b_tuple (da_cons (L2.PE.weak (de_lc (own := [("text", 1)]) sc_tablet_of.nd (di_range1 rfl b_range (L2.PE.weak (de_gint rfl g_MOST_TEXTS))) (blkOk_by (by kernel_rfl)) (fun _ _ _ _ _ => (dg_nm 1 sc_tablet_of.nd)) (fun _ _ _ _ _ => (dif_one (dt_tru (L2.PE.weak (ve_and (L2.PE.weak (ve_shr (L2.PE.weak (de_var 0)) (L2.PE.weak (de_var 1)))) (L2.PE.weak de_int)))))) (fun _ _ _ _ _ => (de_var 1)))) da_nil))))), hm, FD.kp, FD.bindsN fun _ _ _ _ _ _ us hl => match us, hl with | [_], _ => rfl⟩
abbrev st_masks_of : Stmt := top 21
theorem sc_masks_of : FnScope ["library", "tablet"] ["library"] (defScope st_masks_of) := ⟨rfl, rfl, rfl, by decide +kernel, rfl, by decide +kernel, by decide +kernel⟩
theorem d_masks_of (FD : FnP K "masks_of" st_masks_of f fd) (hm : mg "masks_of" = some (.ref f)) (d_mask_of : DefOk P w K mg base Tb "mask_of" 1 s_mask_of 1) (b_tuple : mg "tuple" = none) :
  DefOk P w K mg base Tb "masks_of" 1 s_masks_of 2 := ⟨f, fd, _, fn_data FD sc_masks_of (fun c A outer s H E hc hr C => 
  (dss_one (ds_ret (ve_tuple rfl b_tuple (da_cons (L2.PE.weak (de_lc (own := [("tablet", 1)]) sc_masks_of.nd (di_bor (L2.PE.weak (ve_ix (L2.PE.weak (de_var 0)) (L2.PE.weak de_int)))) (blkOk_by (by kernel_rfl)) (fun _ _ _ _ _ => (dg_nm 1 sc_masks_of.nd)) (fun _ _ _ _ _ => dif_nil) (fun _ _ _ _ _ => (ve_call d_mask_of hr (ha := (db_cons (de_var 1) db_nil)) (hn := (cnt_cons cnt_nil)))))) da_nil))))), hm, FD.kp, FD.bindsN fun _ _ _ _ _ _ us hl => match us, hl with | [_], _ => rfl⟩
abbrev st_total : Stmt := top 22
theorem sc_total : FnScope ["masks", "found", "mask"] ["masks"] (defScope st_total) := ⟨rfl, rfl, rfl, by decide +kernel, rfl, by decide +kernel, by decide +kernel⟩
theorem d_total (FD : FnP K "total" st_total f fd) (hm : mg "total" = some (.ref f)) :
  DefOk P w K mg base Tb "total" 1 s_total 1 := ⟨f, fd, _, fn_data FD sc_total (fun c A outer s H E hc hr C => 
  (dss_cons (ds_asg de_int (dg_nm 1 sc_total.nd))
  (dss_cons (ds_for .never (di_dat (de_var 0)) (dg_nm 2 sc_total.nd)
  (dss_one (ds_aug (i := 1) iop_xor link_xor (L2.PE.weak (de_var 2)) sc_total.nd)))
  (dss_one (ds_ret (de_var 1)))))), hm, FD.kp, FD.bindsN fun _ _ _ _ _ _ us hl => match us, hl with | [_], _ => rfl⟩
abbrev st_span : Stmt := top 23
theorem sc_span : FnScope ["masks", "found", "mask", "one"] ["masks"] (defScope st_span) := ⟨rfl, rfl, rfl, by decide +kernel, rfl, by decide +kernel, by decide +kernel⟩
theorem d_span (FD : FnP K "span" st_span f fd) (hm : mg "span" = some (.ref f)) (b_sorted : mg "sorted" = none) :
  DefOk P w K mg base Tb "span" 1 s_span 1 := ⟨f, fd, _, fn_data FD sc_span (fun c A outer s H E hc hr C => 
  (dss_cons (ds_asg (de_lst (db_cons de_int db_nil) (few_cons few_nil)) (dg_nm 1 sc_span.nd))
  (dss_cons (ds_for .never (di_dat (de_var 0)) (dg_nm 2 sc_span.nd)
  (dss_one (ds_if (vt_cmp ok_notin (L2.PE.weak (de_var 2)) (L2.PE.weak (de_var 1)))
  (dss_one (ds_asg (ve_add (L2.PE.weak (de_var 1)) (L2.PE.weak (de_lc (own := [("one", 3)]) sc_span.nd (di_bor (L2.PE.weak (de_var 1))) (blkOk_by (by kernel_rfl)) (fun _ _ _ _ _ => (dg_nm 3 sc_span.nd)) (fun _ _ _ _ _ => dif_nil) (fun _ _ _ _ _ => (ve_xor (L2.PE.weak (de_var 3)) (L2.PE.weak (de_var 2))))))) (dg_nm 1 sc_span.nd)))
  dss_nil)))
  (dss_one (ds_ret (ve_sorted rfl b_sorted (da_cons (L2.PE.weak (de_var 1)) da_nil))))))), hm, FD.kp, FD.bindsN fun _ _ _ _ _ _ us hl => match us, hl with | [_], _ => rfl⟩
abbrev st_has_all : Stmt := top 25
theorem sc_has_all : FnScope ["texts", "masks"] ["texts", "masks"] (defScope st_has_all) := ⟨rfl, rfl, rfl, by decide +kernel, rfl, by decide +kernel, by decide +kernel⟩
theorem d_has_all (FD : FnP K "has_all" st_has_all f fd) (hm : mg "has_all" = some (.ref f)) (d_span : DefOk P w K mg base Tb "span" 1 s_span 1) (b_len : mg "len" = none) :
  DefOk P w K mg base Tb "has_all" 2 s_has_all 2 := ⟨f, fd, _, fn_data FD sc_has_all (fun c A outer s H E hc hr C => 
  (dss_one (ds_ret (ve_cmp ok_eq (L2.PE.weak (ve_len rfl b_len (da_cons (L2.PE.weak (ve_call d_span hr (ha := (db_cons (de_var 1) db_nil)) (hn := (cnt_cons cnt_nil)))) da_nil))) (L2.PE.weak (ve_shl (L2.PE.weak de_int) (L2.PE.weak (de_var 0)))))))), hm, FD.kp, FD.bindsN fun _ _ _ _ _ _ us hl => match us, hl with | [_, _], _ => rfl⟩
abbrev st_left_of : Stmt := top 26
theorem sc_left_of : FnScope ["masks", "number"] ["masks", "number"] (defScope st_left_of) := ⟨rfl, rfl, rfl, by decide +kernel, rfl, by decide +kernel, by decide +kernel⟩
theorem d_left_of (FD : FnP K "left_of" st_left_of f fd) (hm : mg "left_of" = some (.ref f)) :
  DefOk P w K mg base Tb "left_of" 2 s_left_of 1 := ⟨f, fd, _, fn_data FD sc_left_of (fun c A outer s H E hc hr C => 
  (dss_one (ds_ret (ve_add (L2.PE.weak (de_slice (L2.PE.weak (de_var 0)) do_none (do_some (L2.PE.weak (de_var 1))))) (L2.PE.weak (de_slice (L2.PE.weak (de_var 0)) (do_some (L2.PE.weak (ve_add (L2.PE.weak (de_var 1)) (L2.PE.weak de_int)))) do_none)))))), hm, FD.kp, FD.bindsN fun _ _ _ _ _ _ us hl => match us, hl with | [_, _], _ => rfl⟩
abbrev st_rows_of : Stmt := top 27
theorem sc_rows_of : FnScope ["numbers", "most", "found", "number", "row"] ["numbers", "most"] (defScope st_rows_of) := ⟨rfl, rfl, rfl, by decide +kernel, rfl, by decide +kernel, by decide +kernel⟩
theorem d_rows_of (FD : FnP K "rows_of" st_rows_of f fd) (hm : mg "rows_of" = some (.ref f)) (b_len : mg "len" = none) (b_sorted : mg "sorted" = none) :
  DefOk P w K mg base Tb "rows_of" 2 s_rows_of 1 := ⟨f, fd, _, fn_data FD sc_rows_of (fun c A outer s H E hc hr C => 
  (dss_cons (ds_new (i := 2) (de_lstF (db_cons (de_tup db_nil few_nil) db_nil) (few_cons few_nil)) sc_rows_of.nd)
  (dss_cons (ds_for .never (di_dat (de_var 0)) (dg_nm 3 sc_rows_of.nd)
  (dss_one (ds_ext (i := 2) (de_lcF (own := [("row", 4)]) sc_rows_of.nd (di_bor (de_any 2)) (blkOk_by (by kernel_rfl)) (fun _ _ _ _ _ => (dg_nm 4 sc_rows_of.nd)) (fun _ _ _ _ _ => (dif_one (vt_cmp ok_lt (L2.PE.weak (ve_len rfl b_len (da_cons (L2.PE.weak (de_var 4)) da_nil))) (L2.PE.weak (de_var 1))))) (fun _ _ _ _ _ => (ve_add (L2.PE.weak (de_var 4)) (L2.PE.weak (de_tup (db_cons (de_var 3) db_nil) (few_cons few_nil)))))) sc_rows_of.nd)))
  (dss_one (ds_ret (ve_sorted rfl b_sorted (da_cons (de_any 2) da_nil))))))), hm, FD.kp, FD.bindsN fun _ _ _ _ _ _ us hl => match us, hl with | [_, _], _ => rfl⟩
abbrev st_sums_of : Stmt := top 30
theorem sc_sums_of : FnScope ["masks", "most", "row", "one"] ["masks", "most"] (defScope st_sums_of) := ⟨rfl, rfl, rfl, by decide +kernel, rfl, by decide +kernel, by decide +kernel⟩
theorem d_sums_of (FD : FnP K "sums_of" st_sums_of f fd) (hm : mg "sums_of" = some (.ref f)) (d_rows_of : DefOk P w K mg base Tb "rows_of" 2 s_rows_of 1) (d_total : DefOk P w K mg base Tb "total" 1 s_total 1) (b_len : mg "len" = none) (b_list : mg "list" = none) (b_range : mg "range" = none) :
  DefOk P w K mg base Tb "sums_of" 2 s_sums_of 2 := ⟨f, fd, _, fn_data FD sc_sums_of (fun c A outer s H E hc hr C => 
  (dss_one (ds_ret (de_dc (own := [("row", 2)]) sc_sums_of.nd (di_bor (L2.PE.weak (ve_call d_rows_of hr (ha := (db_cons (ve_listRg rfl b_list rfl b_range (L2.PE.weak (ve_len rfl b_len (da_cons (L2.PE.weak (de_var 0)) da_nil)))) (db_cons (de_var 1) db_nil))) (hn := (cnt_cons (cnt_cons cnt_nil)))))) (blkOk_by (by kernel_rfl)) (fun _ _ _ _ _ => (dg_nm 2 sc_sums_of.nd)) (fun _ _ _ _ _ => dif_nil) (fun _ _ _ _ _ => (ve_call d_total hr (ha := (db_cons (de_lc (own := [("one", 3)]) sc_sums_of.nd (di_bor (L2.PE.weak (de_var 2))) (blkOk_by (by kernel_rfl)) (fun _ _ _ _ _ => (dg_nm 3 sc_sums_of.nd)) (fun _ _ _ _ _ => dif_nil) (fun _ _ _ _ _ => (ve_ix (L2.PE.weak (de_var 0)) (L2.PE.weak (de_var 3))))) db_nil)) (hn := (cnt_cons cnt_nil)))) (fun _ _ _ _ _ => de_bl))))), hm, FD.kp, FD.bindsN fun _ _ _ _ _ _ us hl => match us, hl with | [_, _], _ => rfl⟩
abbrev st_is_tame : Stmt := top 31
theorem sc_is_tame : FnScope ["masks", "most", "number"] ["masks", "most", "number"] (defScope st_is_tame) := ⟨rfl, rfl, rfl, by decide +kernel, rfl, by decide +kernel, by decide +kernel⟩
theorem d_is_tame (FD : FnP K "is_tame" st_is_tame f fd) (hm : mg "is_tame" = some (.ref f)) (d_left_of : DefOk P w K mg base Tb "left_of" 2 s_left_of 1) (d_sums_of : DefOk P w K mg base Tb "sums_of" 2 s_sums_of 2) :
  DefOk P w K mg base Tb "is_tame" 3 s_is_tame 3 := ⟨f, fd, _, fn_data FD sc_is_tame (fun c A outer s H E hc hr C => 
  (dss_one (ds_ret (ve_cmp ok_in (L2.PE.weak (ve_ix (L2.PE.weak (de_var 0)) (L2.PE.weak (de_var 2)))) (L2.PE.weak (ve_call d_sums_of hr (ha := (db_cons (ve_call d_left_of hr (ha := (db_cons (de_var 0) (db_cons (de_var 2) db_nil))) (hn := (cnt_cons (cnt_cons cnt_nil)))) (db_cons (de_var 1) db_nil))) (hn := (cnt_cons (cnt_cons cnt_nil))))))))), hm, FD.kp, FD.bindsN fun _ _ _ _ _ _ us hl => match us, hl with | [_, _, _], _ => rfl⟩
abbrev st_is_fixed : Stmt := top 34
theorem sc_is_fixed : FnScope ["texts", "masks", "most", "number"] ["texts", "masks", "most"] (defScope st_is_fixed) := ⟨rfl, rfl, rfl, by decide +kernel, rfl, by decide +kernel, by decide +kernel⟩
theorem d_is_fixed (FD : FnP K "is_fixed" st_is_fixed f fd) (hm : mg "is_fixed" = some (.ref f)) (d_has_all : DefOk P w K mg base Tb "has_all" 2 s_has_all 2) (d_is_tame : DefOk P w K mg base Tb "is_tame" 3 s_is_tame 3) (b_all : mg "all" = none) (b_len : mg "len" = none) (b_range : mg "range" = none) {c0 T0 : Addr} (hcd : fd.code = .ref c0) (TB : TabB base mg c0 T0) (hP : T0 ∈ Tb) :
  DefOk P w K mg base Tb "is_fixed" 3 s_is_fixed 5 := ⟨f, fd, _, fn_data FD sc_is_fixed (fun c A outer s H E hc hr C => by
  have e0 := hc.symm.trans hcd
  cases e0
  exact (dss_one (ds_ret (de_and (ve_call d_has_all hr (ha := (db_cons (de_var 0) (db_cons (de_var 1) db_nil))) (hn := (cnt_cons (cnt_cons cnt_nil)))) (de_one (de_all (own := [("number", 3)]) (k := 3) hP hr sc_is_fixed.nd rfl b_all TB rfl ⟨blkOk_by (by kernel_rfl), by decide +kernel, rfl, rfl⟩ (di_range1 rfl b_range (L2.PE.weak (ve_len rfl b_len (da_cons (L2.PE.weak (de_var 1)) da_nil)))) (fun _ _ _ ge _ _ e hr C => by cases ge; cases e; exact (dg_nm 3 sc_is_fixed.nd)) (fun _ _ _ ge _ _ e hr C => by cases ge; cases e; exact (ve_call d_is_tame hr (ha := (db_cons (de_var 1) (db_cons (de_var 2) (db_cons (de_var 3) db_nil)))) (hn := (cnt_cons (cnt_cons (cnt_cons cnt_nil)))))))))))), hm, FD.kp, FD.bindsN fun _ _ _ _ _ _ us hl => match us, hl with | [_, _, _], _ => rfl⟩
abbrev st_need_sizes : Stmt := top 35
theorem sc_need_sizes : FnScope ["texts", "tablets", "most"] ["texts", "tablets", "most"] (defScope st_need_sizes) := ⟨rfl, rfl, rfl, by decide +kernel, rfl, by decide +kernel, by decide +kernel⟩
theorem d_need_sizes (FD : FnP K "need_sizes" st_need_sizes f fd) (hm : mg "need_sizes" = some (.ref f)) (d_is_number : DefOk P w K mg base Tb "is_number" 3 s_is_number 1) (d_need_most : DefX P w K mg base Tb "need_most" 1 s_need_most 2) {t_MOST_TABLETS : Tok} (g_MOST_TABLETS : mg "MOST_TABLETS" = some (.int 6 t_MOST_TABLETS)) {t_MOST_TEXTS : Tok} (g_MOST_TEXTS : mg "MOST_TEXTS" = some (.int 3 t_MOST_TEXTS)) (m_BadNumber : mg "BadNumber" = some (.ref (He.ga K "BadNumber"))) (fx_BadNumber : PySem.W.excIn K (He.ga K "BadNumber") He.veBase "ValueError.__new__" = true ∧ PySem.W.keepIn K (.ref (He.ga K "BadNumber")) = true ∧ PySem.W.subIn K (.ref (He.ga K "BadNumber")) (.type "BaseException") = some true ∧ PySem.W.typeIn K (.ref (He.ga K "BadNumber")) = some (.type "type")) :
  DefX P w K mg base Tb "need_sizes" 3 s_need_sizes 3 := ⟨f, fd, _, fn_dataX FD sc_need_sizes (fun c A outer s H E hc hr C T => 
  (dss_cons (ds_if (L2.PW.pt (dw_or (dt_not (dt_tru (L2.PE.weak (ve_call d_is_number hr (ha := (db_cons (de_var 0) (db_cons de_int (db_cons (de_gint rfl g_MOST_TEXTS) db_nil)))) (hn := (cnt_cons (cnt_cons (cnt_cons cnt_nil)))))))) (dw_or1 (dt_not (dt_tru (L2.PE.weak (ve_call d_is_number hr (ha := (db_cons (de_var 1) (db_cons de_int (db_cons (de_gint rfl g_MOST_TABLETS) db_nil)))) (hn := (cnt_cons (cnt_cons (cnt_cons cnt_nil)))))))))))
  (dss_one (ds_raise 4 rfl rfl fx_BadNumber m_BadNumber rfl))
  dss_nil)
  (dss_one (ds_expr (L2.PE.weak (ve_callX d_need_most hr (ha := (db_cons (de_var 2) db_nil)) (hn := (cnt_cons cnt_nil)))))))), hm, FD.kp, FD.bindsN fun _ _ _ _ _ _ us hl => match us, hl with | [_, _, _], _ => rfl⟩
abbrev st_sorted_rows : Stmt := top 36
theorem sc_sorted_rows : FnScope ["texts", "tablets", "every", "found", "_", "row", "mask"] ["texts", "tablets"] (defScope st_sorted_rows) := ⟨rfl, rfl, rfl, by decide +kernel, rfl, by decide +kernel, by decide +kernel⟩
theorem d_sorted_rows (FD : FnP K "sorted_rows" st_sorted_rows f fd) (hm : mg "sorted_rows" = some (.ref f)) (d_tablet_of : DefOk P w K mg base Tb "tablet_of" 1 s_tablet_of 1) (b_range : mg "range" = none) (b_sorted : mg "sorted" = none) :
  DefOk P w K mg base Tb "sorted_rows" 2 s_sorted_rows 4 := ⟨f, fd, _, fn_data FD sc_sorted_rows (fun c A outer s H E hc hr C => 
  (dss_cons (ds_asg (ve_sortKR d_tablet_of hr rfl b_sorted rfl b_range (L2.PE.weak (ve_shl (L2.PE.weak de_int) (L2.PE.weak (de_var 0))))) (dg_nm 2 sc_sorted_rows.nd))
  (dss_cons (ds_asg (de_lst (db_cons (de_tup db_nil few_nil) db_nil) (few_cons few_nil)) (dg_nm 3 sc_sorted_rows.nd))
  (dss_cons (ds_for .never (di_range1 rfl b_range (L2.PE.weak (de_var 1))) (dg_nm 4 sc_sorted_rows.nd)
  (dss_one (ds_asgLc2 (i := 3) (own := [("row", 5), ("mask", 6)]) (vs1 := [6]) sc_sorted_rows.nd (di_bor (L2.PE.weak (de_var 3))) (blkOk_by (by kernel_rfl)) (fun _ _ _ _ _ => (dg_nm 5 sc_sorted_rows.nd)) (fun _ _ _ _ _ => dif_nil) (fun _ _ _ _ _ => (di_dat (de_var 2))) (fun _ _ _ _ _ => (dg_nm 6 sc_sorted_rows.nd)) (fun _ _ _ _ _ => (dif_one (L2.PW.pt (dw_or (dt_not (dt_tru (L2.PE.weak (de_var 5)))) (dw_or1 (vt_cmp ok_le (L2.PE.weak (ve_call d_tablet_of hr (ha := (db_cons (ve_ix (L2.PE.weak (de_var 5)) (L2.PE.weak (ve_neg (L2.PE.weak de_int)))) db_nil)) (hn := (cnt_cons cnt_nil)))) (L2.PE.weak (ve_call d_tablet_of hr (ha := (db_cons (de_var 6) db_nil)) (hn := (cnt_cons cnt_nil)))))))))) (fun _ _ _ _ _ => (ve_add (L2.PE.weak (de_var 5)) (L2.PE.weak (de_tup (db_cons (de_var 6) db_nil) (few_cons few_nil))))))))
  (dss_one (ds_ret (de_var 3))))))), hm, FD.kp, FD.bindsN fun _ _ _ _ _ _ us hl => match us, hl with | [_, _], _ => rfl⟩
abbrev st_all_schemes : Stmt := top 37
theorem sc_all_schemes : FnScope ["texts", "tablets", "most", "row"] ["texts", "tablets", "most"] (defScope st_all_schemes) := ⟨rfl, rfl, rfl, by decide +kernel, rfl, by decide +kernel, by decide +kernel⟩
theorem d_all_schemes (FD : FnP K "all_schemes" st_all_schemes f fd) (hm : mg "all_schemes" = some (.ref f)) (d_is_fixed : DefOk P w K mg base Tb "is_fixed" 3 s_is_fixed 5) (d_sorted_rows : DefOk P w K mg base Tb "sorted_rows" 2 s_sorted_rows 4) :
  DefOk P w K mg base Tb "all_schemes" 3 s_all_schemes 6 := ⟨f, fd, _, fn_data FD sc_all_schemes (fun c A outer s H E hc hr C => 
  (dss_one (ds_ret (de_lc (own := [("row", 3)]) sc_all_schemes.nd (di_bor (L2.PE.weak (ve_call d_sorted_rows hr (ha := (db_cons (de_var 0) (db_cons (de_var 1) db_nil))) (hn := (cnt_cons (cnt_cons cnt_nil)))))) (blkOk_by (by kernel_rfl)) (fun _ _ _ _ _ => (dg_nm 3 sc_all_schemes.nd)) (fun _ _ _ _ _ => (dif_one (dt_tru (L2.PE.weak (ve_call d_is_fixed hr (ha := (db_cons (de_var 0) (db_cons (de_var 3) (db_cons (de_var 2) db_nil)))) (hn := (cnt_cons (cnt_cons (cnt_cons cnt_nil))))))))) (fun _ _ _ _ _ => (de_var 3)))))), hm, FD.kp, FD.bindsN fun _ _ _ _ _ _ us hl => match us, hl with | [_, _, _], _ => rfl⟩
abbrev st_is_bits : Stmt := top 43
theorem sc_is_bits : FnScope ["value", "many", "bit"] ["value", "many"] (defScope st_is_bits) := ⟨rfl, rfl, rfl, by decide +kernel, rfl, by decide +kernel, by decide +kernel⟩
theorem d_is_bits (FD : FnP K "is_bits" st_is_bits f fd) (hm : mg "is_bits" = some (.ref f)) (d_is_number : DefOk P w K mg base Tb "is_number" 3 s_is_number 1) (b_all : mg "all" = none) (b_isinstance : mg "isinstance" = none) (b_len : mg "len" = none) (b_tuple : mg "tuple" = none) {c0 T0 : Addr} (hcd : fd.code = .ref c0) (TB : TabB base mg c0 T0) (hP : T0 ∈ Tb) :
  DefOk P w K mg base Tb "is_bits" 2 s_is_bits 3 := ⟨f, fd, _, fn_data FD sc_is_bits (fun c A outer s H E hc hr C => by
  have e0 := hc.symm.trans hcd
  cases e0
  exact (dss_one (ds_ret (de_and (de_isa .tup (L2.PE.weak (de_var 0)) (ve_ty .tup rfl b_tuple) rfl b_isinstance) (de_and (ve_cmp ok_eq (L2.PE.weak (ve_len rfl b_len (da_cons (L2.PE.weak (de_var 0)) da_nil))) (L2.PE.weak (de_var 1))) (de_one (de_all (own := [("bit", 2)]) (k := 1) hP hr sc_is_bits.nd rfl b_all TB rfl ⟨blkOk_by (by kernel_rfl), by decide +kernel, rfl, rfl⟩ (di_bor (L2.PE.weak (de_var 0))) (fun _ _ _ ge _ _ e hr C => by cases ge; cases e; exact (dg_nm 2 sc_is_bits.nd)) (fun _ _ _ ge _ _ e hr C => by cases ge; cases e; exact (ve_call d_is_number hr (ha := (db_cons (de_var 2) (db_cons de_int (db_cons de_int db_nil)))) (hn := (cnt_cons (cnt_cons (cnt_cons cnt_nil))))))))))))), hm, FD.kp, FD.bindsN fun _ _ _ _ _ _ us hl => match us, hl with | [_, _], _ => rfl⟩
abbrev st_need_bits : Stmt := top 44
theorem sc_need_bits : FnScope ["value", "many"] ["value", "many"] (defScope st_need_bits) := ⟨rfl, rfl, rfl, by decide +kernel, rfl, by decide +kernel, by decide +kernel⟩
theorem d_need_bits (FD : FnP K "need_bits" st_need_bits f fd) (hm : mg "need_bits" = some (.ref f)) (d_is_bits : DefOk P w K mg base Tb "is_bits" 2 s_is_bits 3) (m_BadShown : mg "BadShown" = some (.ref (He.ga K "BadShown"))) (fx_BadShown : PySem.W.excIn K (He.ga K "BadShown") He.veBase "ValueError.__new__" = true ∧ PySem.W.keepIn K (.ref (He.ga K "BadShown")) = true ∧ PySem.W.subIn K (.ref (He.ga K "BadShown")) (.type "BaseException") = some true ∧ PySem.W.typeIn K (.ref (He.ga K "BadShown")) = some (.type "type")) :
  DefX P w K mg base Tb "need_bits" 2 s_need_bits 4 := ⟨f, fd, _, fn_dataX FD sc_need_bits (fun c A outer s H E hc hr C T => 
  (dss_one (ds_if (dt_not (dt_tru (L2.PE.weak (ve_call d_is_bits hr (ha := (db_cons (de_var 0) (db_cons (de_var 1) db_nil))) (hn := (cnt_cons (cnt_cons cnt_nil)))))))
  (dss_one (ds_raise 6 rfl rfl fx_BadShown m_BadShown rfl))
  dss_nil))), hm, FD.kp, FD.bindsN fun _ _ _ _ _ _ us hl => match us, hl with | [_, _], _ => rfl⟩
abbrev st_shown : Stmt := top 46
theorem sc_shown : FnScope ["library", "contents", "number", "text", "bit"] ["library", "contents"] (defScope st_shown) := ⟨rfl, rfl, rfl, by decide +kernel, rfl, by decide +kernel, by decide +kernel⟩
theorem d_shown (FD : FnP K "shown" st_shown f fd) (hm : mg "shown" = some (.ref f)) (d_need_bits : DefX P w K mg base Tb "need_bits" 2 s_need_bits 4) (d_need_library : DefX P w K mg base Tb "need_library" 1 s_need_library 5) :
  DefX P w K mg base Tb "shown" 2 s_shown 6 := ⟨f, fd, _, fn_dataX FD sc_shown (fun c A outer s H E hc hr C T => 
  (dss_cons (ds_expr (L2.PE.weak (ve_callX d_need_library hr (ha := (db_cons (de_var 0) db_nil)) (hn := (cnt_cons cnt_nil)))))
  (dss_cons (ds_expr (L2.PE.weak (ve_callX d_need_bits hr (ha := (db_cons (de_var 1) (db_cons (ve_ix (L2.PE.weak (de_var 0)) (L2.PE.weak de_int)) db_nil))) (hn := (cnt_cons (cnt_cons cnt_nil))))))
  dss_never))), hm, FD.kp, FD.bindsN fun _ _ _ _ _ _ us hl => match us, hl with | [_, _], _ => rfl⟩
abbrev st_need_wrong : Stmt := top 48
theorem sc_need_wrong : FnScope ["library", "wrong"] ["library", "wrong"] (defScope st_need_wrong) := ⟨rfl, rfl, rfl, by decide +kernel, rfl, by decide +kernel, by decide +kernel⟩
theorem d_need_wrong (FD : FnP K "need_wrong" st_need_wrong f fd) (hm : mg "need_wrong" = some (.ref f)) (d_is_number : DefOk P w K mg base Tb "is_number" 3 s_is_number 1) (d_need_library : DefX P w K mg base Tb "need_library" 1 s_need_library 5) {t_MOST_WRONG : Tok} (g_MOST_WRONG : mg "MOST_WRONG" = some (.int 6 t_MOST_WRONG)) (m_BadNumber : mg "BadNumber" = some (.ref (He.ga K "BadNumber"))) (fx_BadNumber : PySem.W.excIn K (He.ga K "BadNumber") He.veBase "ValueError.__new__" = true ∧ PySem.W.keepIn K (.ref (He.ga K "BadNumber")) = true ∧ PySem.W.subIn K (.ref (He.ga K "BadNumber")) (.type "BaseException") = some true ∧ PySem.W.typeIn K (.ref (He.ga K "BadNumber")) = some (.type "type")) :
  DefX P w K mg base Tb "need_wrong" 2 s_need_wrong 6 := ⟨f, fd, _, fn_dataX FD sc_need_wrong (fun c A outer s H E hc hr C T => 
  (dss_cons (ds_expr (L2.PE.weak (ve_callX d_need_library hr (ha := (db_cons (de_var 0) db_nil)) (hn := (cnt_cons cnt_nil)))))
  (dss_one (ds_if (dt_not (dt_tru (L2.PE.weak (ve_call d_is_number hr (ha := (db_cons (de_var 1) (db_cons de_int (db_cons (de_gint rfl g_MOST_WRONG) db_nil)))) (hn := (cnt_cons (cnt_cons (cnt_cons cnt_nil))))))))
  (dss_one (ds_raise 4 rfl rfl fx_BadNumber m_BadNumber rfl))
  dss_nil)))), hm, FD.kp, FD.bindsN fun _ _ _ _ _ _ us hl => match us, hl with | [_, _], _ => rfl⟩
abbrev st_can_tell : Stmt := top 49
theorem sc_can_tell : FnScope ["library", "wrong"] ["library", "wrong"] (defScope st_can_tell) := ⟨rfl, rfl, rfl, by decide +kernel, rfl, by decide +kernel, by decide +kernel⟩
theorem d_can_tell (FD : FnP K "can_tell" st_can_tell f fd) (hm : mg "can_tell" = some (.ref f)) (d_need_wrong : DefX P w K mg base Tb "need_wrong" 2 s_need_wrong 6) :
  DefX P w K mg base Tb "can_tell" 2 s_can_tell 7 := ⟨f, fd, _, fn_dataX FD sc_can_tell (fun c A outer s H E hc hr C T => 
  (dss_cons (ds_expr (L2.PE.weak (ve_callX d_need_wrong hr (ha := (db_cons (de_var 0) (db_cons (de_var 1) db_nil))) (hn := (cnt_cons (cnt_cons cnt_nil))))))
  dss_never)), hm, FD.kp, FD.bindsN fun _ _ _ _ _ _ us hl => match us, hl with | [_, _], _ => rfl⟩
abbrev st_can_right : Stmt := top 50
theorem sc_can_right : FnScope ["library", "wrong"] ["library", "wrong"] (defScope st_can_right) := ⟨rfl, rfl, rfl, by decide +kernel, rfl, by decide +kernel, by decide +kernel⟩
theorem d_can_right (FD : FnP K "can_right" st_can_right f fd) (hm : mg "can_right" = some (.ref f)) (d_need_wrong : DefX P w K mg base Tb "need_wrong" 2 s_need_wrong 6) :
  DefX P w K mg base Tb "can_right" 2 s_can_right 7 := ⟨f, fd, _, fn_dataX FD sc_can_right (fun c A outer s H E hc hr C T => 
  (dss_cons (ds_expr (L2.PE.weak (ve_callX d_need_wrong hr (ha := (db_cons (de_var 0) (db_cons (de_var 1) db_nil))) (hn := (cnt_cons (cnt_cons cnt_nil))))))
  dss_never)), hm, FD.kp, FD.bindsN fun _ _ _ _ _ _ us hl => match us, hl with | [_, _], _ => rfl⟩
abbrev st_contents_told : Stmt := top 51
theorem sc_contents_told : FnScope ["library", "row", "wrong", "masks", "texts", "every", "contents"] ["library", "row", "wrong"] (defScope st_contents_told) := ⟨rfl, rfl, rfl, by decide +kernel, rfl, by decide +kernel, by decide +kernel⟩
theorem d_contents_told (FD : FnP K "contents_told" st_contents_told f fd) (hm : mg "contents_told" = some (.ref f)) (d_is_number : DefOk P w K mg base Tb "is_number" 3 s_is_number 1) (d_need_bits : DefX P w K mg base Tb "need_bits" 2 s_need_bits 4) (d_need_library : DefX P w K mg base Tb "need_library" 1 s_need_library 5) (b_len : mg "len" = none) {t_MOST_WRONG : Tok} (g_MOST_WRONG : mg "MOST_WRONG" = some (.int 6 t_MOST_WRONG)) (m_BadNumber : mg "BadNumber" = some (.ref (He.ga K "BadNumber"))) (fx_BadNumber : PySem.W.excIn K (He.ga K "BadNumber") He.veBase "ValueError.__new__" = true ∧ PySem.W.keepIn K (.ref (He.ga K "BadNumber")) = true ∧ PySem.W.subIn K (.ref (He.ga K "BadNumber")) (.type "BaseException") = some true ∧ PySem.W.typeIn K (.ref (He.ga K "BadNumber")) = some (.type "type")) :
  DefX P w K mg base Tb "contents_told" 3 s_contents_told 6 := ⟨f, fd, _, fn_dataX FD sc_contents_told (fun c A outer s H E hc hr C T => 
  (dss_cons (ds_expr (L2.PE.weak (ve_callX d_need_library hr (ha := (db_cons (de_var 0) db_nil)) (hn := (cnt_cons cnt_nil)))))
  (dss_cons (ds_expr (L2.PE.weak (ve_callX d_need_bits hr (ha := (db_cons (de_var 1) (db_cons (ve_len rfl b_len (da_cons (L2.PE.weak (ve_ix (L2.PE.weak (de_var 0)) (L2.PE.weak de_int))) da_nil)) db_nil))) (hn := (cnt_cons (cnt_cons cnt_nil))))))
  (dss_cons (ds_if (dt_not (dt_tru (L2.PE.weak (ve_call d_is_number hr (ha := (db_cons (de_var 2) (db_cons de_int (db_cons (de_gint rfl g_MOST_WRONG) db_nil)))) (hn := (cnt_cons (cnt_cons (cnt_cons cnt_nil))))))))
  (dss_one (ds_raise 4 rfl rfl fx_BadNumber m_BadNumber rfl))
  dss_nil)
  dss_never)))), hm, FD.kp, FD.bindsN fun _ _ _ _ _ _ us hl => match us, hl with | [_, _, _], _ => rfl⟩
abbrev st_fewest_wrong : Stmt := top 52
theorem sc_fewest_wrong : FnScope ["library", "row", "masks", "contents"] ["library", "row"] (defScope st_fewest_wrong) := ⟨rfl, rfl, rfl, by decide +kernel, rfl, by decide +kernel, by decide +kernel⟩
theorem d_fewest_wrong (FD : FnP K "fewest_wrong" st_fewest_wrong f fd) (hm : mg "fewest_wrong" = some (.ref f)) (d_need_bits : DefX P w K mg base Tb "need_bits" 2 s_need_bits 4) (d_need_library : DefX P w K mg base Tb "need_library" 1 s_need_library 5) (b_len : mg "len" = none) :
  DefX P w K mg base Tb "fewest_wrong" 2 s_fewest_wrong 6 := ⟨f, fd, _, fn_dataX FD sc_fewest_wrong (fun c A outer s H E hc hr C T => 
  (dss_cons (ds_expr (L2.PE.weak (ve_callX d_need_library hr (ha := (db_cons (de_var 0) db_nil)) (hn := (cnt_cons cnt_nil)))))
  (dss_cons (ds_expr (L2.PE.weak (ve_callX d_need_bits hr (ha := (db_cons (de_var 1) (db_cons (ve_len rfl b_len (da_cons (L2.PE.weak (ve_ix (L2.PE.weak (de_var 0)) (L2.PE.weak de_int))) da_nil)) db_nil))) (hn := (cnt_cons (cnt_cons cnt_nil))))))
  dss_never))), hm, FD.kp, FD.bindsN fun _ _ _ _ _ _ us hl => match us, hl with | [_, _], _ => rfl⟩
abbrev st_failing_rings : Stmt := top 53
theorem sc_failing_rings : FnScope ["library", "most", "row", "ring", "number"] ["library", "most", "row"] (defScope st_failing_rings) := ⟨rfl, rfl, rfl, by decide +kernel, rfl, by decide +kernel, by decide +kernel⟩
theorem d_failing_rings (FD : FnP K "failing_rings" st_failing_rings f fd) (hm : mg "failing_rings" = some (.ref f)) (d_need_bits : DefX P w K mg base Tb "need_bits" 2 s_need_bits 4) (d_need_library : DefX P w K mg base Tb "need_library" 1 s_need_library 5) (d_need_most : DefX P w K mg base Tb "need_most" 1 s_need_most 2) (b_len : mg "len" = none) :
  DefX P w K mg base Tb "failing_rings" 3 s_failing_rings 6 := ⟨f, fd, _, fn_dataX FD sc_failing_rings (fun c A outer s H E hc hr C T => 
  (dss_cons (ds_expr (L2.PE.weak (ve_callX d_need_library hr (ha := (db_cons (de_var 0) db_nil)) (hn := (cnt_cons cnt_nil)))))
  (dss_cons (ds_expr (L2.PE.weak (ve_callX d_need_most hr (ha := (db_cons (de_var 1) db_nil)) (hn := (cnt_cons cnt_nil)))))
  (dss_cons (ds_expr (L2.PE.weak (ve_callX d_need_bits hr (ha := (db_cons (de_var 2) (db_cons (ve_len rfl b_len (da_cons (L2.PE.weak (ve_ix (L2.PE.weak (de_var 0)) (L2.PE.weak de_int))) da_nil)) db_nil))) (hn := (cnt_cons (cnt_cons cnt_nil))))))
  dss_never)))), hm, FD.kp, FD.bindsN fun _ _ _ _ _ _ us hl => match us, hl with | [_, _, _], _ => rfl⟩
abbrev st_in_order : Stmt := top 55
theorem sc_in_order : FnScope ["masks"] ["masks"] (defScope st_in_order) := ⟨rfl, rfl, rfl, by decide +kernel, rfl, by decide +kernel, by decide +kernel⟩
theorem d_in_order (FD : FnP K "in_order" st_in_order f fd) (hm : mg "in_order" = some (.ref f)) (d_tablet_of : DefOk P w K mg base Tb "tablet_of" 1 s_tablet_of 1) (b_sorted : mg "sorted" = none) (b_tuple : mg "tuple" = none) :
  DefOk P w K mg base Tb "in_order" 1 s_in_order 4 := ⟨f, fd, _, fn_data FD sc_in_order (fun c A outer s H E hc hr C => 
  (dss_one (ds_ret (ve_tuple rfl b_tuple (da_cons (L2.PE.weak (ve_sortK d_tablet_of hr rfl b_sorted (L2.PE.weak (de_var 0)))) da_nil))))), hm, FD.kp, FD.bindsN fun _ _ _ _ _ _ us hl => match us, hl with | [_], _ => rfl⟩
abbrev st_named_kinds : Stmt := top 65
theorem sc_named_kinds : FnScope ["texts", "tablets", "most"] ["texts", "tablets", "most"] (defScope st_named_kinds) := ⟨rfl, rfl, rfl, by decide +kernel, rfl, by decide +kernel, by decide +kernel⟩
theorem d_named_kinds (FD : FnP K "named_kinds" st_named_kinds f fd) (hm : mg "named_kinds" = some (.ref f)) (d_need_sizes : DefX P w K mg base Tb "need_sizes" 3 s_need_sizes 3) :
  DefX P w K mg base Tb "named_kinds" 3 s_named_kinds 4 := ⟨f, fd, _, fn_dataX FD sc_named_kinds (fun c A outer s H E hc hr C T => 
  (dss_cons (ds_expr (L2.PE.weak (ve_callX d_need_sizes hr (ha := (db_cons (de_var 0) (db_cons (de_var 1) (db_cons (de_var 2) db_nil)))) (hn := (cnt_cons (cnt_cons (cnt_cons cnt_nil)))))))
  dss_never)), hm, FD.kp, FD.bindsN fun _ _ _ _ _ _ us hl => match us, hl with | [_, _, _], _ => rfl⟩
abbrev st_mixed_kinds : Stmt := top 66
theorem sc_mixed_kinds : FnScope ["texts", "tablets", "most"] ["texts", "tablets", "most"] (defScope st_mixed_kinds) := ⟨rfl, rfl, rfl, by decide +kernel, rfl, by decide +kernel, by decide +kernel⟩
theorem d_mixed_kinds (FD : FnP K "mixed_kinds" st_mixed_kinds f fd) (hm : mg "mixed_kinds" = some (.ref f)) (d_need_sizes : DefX P w K mg base Tb "need_sizes" 3 s_need_sizes 3) :
  DefX P w K mg base Tb "mixed_kinds" 3 s_mixed_kinds 4 := ⟨f, fd, _, fn_dataX FD sc_mixed_kinds (fun c A outer s H E hc hr C T => 
  (dss_cons (ds_expr (L2.PE.weak (ve_callX d_need_sizes hr (ha := (db_cons (de_var 0) (db_cons (de_var 1) (db_cons (de_var 2) db_nil)))) (hn := (cnt_cons (cnt_cons (cnt_cons cnt_nil)))))))
  dss_never)), hm, FD.kp, FD.bindsN fun _ _ _ _ _ _ us hl => match us, hl with | [_, _, _], _ => rfl⟩
abbrev st_scheme_number : Stmt := top 67
theorem sc_scheme_number : FnScope ["library", "most", "masks"] ["library", "most"] (defScope st_scheme_number) := ⟨rfl, rfl, rfl, by decide +kernel, rfl, by decide +kernel, by decide +kernel⟩
theorem d_scheme_number (FD : FnP K "scheme_number" st_scheme_number f fd) (hm : mg "scheme_number" = some (.ref f)) (d_in_order : DefOk P w K mg base Tb "in_order" 1 s_in_order 4) (d_is_fixed : DefOk P w K mg base Tb "is_fixed" 3 s_is_fixed 5) (d_masks_of : DefOk P w K mg base Tb "masks_of" 1 s_masks_of 2) (d_need_library : DefX P w K mg base Tb "need_library" 1 s_need_library 5) (d_need_most : DefX P w K mg base Tb "need_most" 1 s_need_most 2) (m_NoScheme : mg "NoScheme" = some (.ref (He.ga K "NoScheme"))) (fx_NoScheme : PySem.W.excIn K (He.ga K "NoScheme") He.veBase "ValueError.__new__" = true ∧ PySem.W.keepIn K (.ref (He.ga K "NoScheme")) = true ∧ PySem.W.subIn K (.ref (He.ga K "NoScheme")) (.type "BaseException") = some true ∧ PySem.W.typeIn K (.ref (He.ga K "NoScheme")) = some (.type "type")) :
  DefX P w K mg base Tb "scheme_number" 2 s_scheme_number 6 := ⟨f, fd, _, fn_dataX FD sc_scheme_number (fun c A outer s H E hc hr C T => 
  (dss_cons (ds_expr (L2.PE.weak (ve_callX d_need_library hr (ha := (db_cons (de_var 0) db_nil)) (hn := (cnt_cons cnt_nil)))))
  (dss_cons (ds_expr (L2.PE.weak (ve_callX d_need_most hr (ha := (db_cons (de_var 1) db_nil)) (hn := (cnt_cons cnt_nil)))))
  (dss_cons (ds_asg (ve_call d_in_order hr (ha := (db_cons (ve_call d_masks_of hr (ha := (db_cons (de_var 0) db_nil)) (hn := (cnt_cons cnt_nil))) db_nil)) (hn := (cnt_cons cnt_nil))) (dg_nm 2 sc_scheme_number.nd))
  (dss_cons (ds_if (dt_not (dt_tru (L2.PE.weak (ve_call d_is_fixed hr (ha := (db_cons (ve_ix (L2.PE.weak (de_var 0)) (L2.PE.weak de_int)) (db_cons (de_var 2) (db_cons (de_var 1) db_nil)))) (hn := (cnt_cons (cnt_cons (cnt_cons cnt_nil))))))))
  (dss_one (ds_raise 7 rfl rfl fx_NoScheme m_NoScheme rfl))
  dss_nil)
  dss_never))))), hm, FD.kp, FD.bindsN fun _ _ _ _ _ _ us hl => match us, hl with | [_, _], _ => rfl⟩
abbrev st_scheme_told : Stmt := top 68
theorem sc_scheme_told : FnScope ["texts", "tablets", "most", "number", "every"] ["texts", "tablets", "most", "number"] (defScope st_scheme_told) := ⟨rfl, rfl, rfl, by decide +kernel, rfl, by decide +kernel, by decide +kernel⟩
theorem d_scheme_told (FD : FnP K "scheme_told" st_scheme_told f fd) (hm : mg "scheme_told" = some (.ref f)) (d_all_schemes : DefOk P w K mg base Tb "all_schemes" 3 s_all_schemes 6) (d_is_number : DefOk P w K mg base Tb "is_number" 3 s_is_number 1) (d_need_sizes : DefX P w K mg base Tb "need_sizes" 3 s_need_sizes 3) (b_len : mg "len" = none) (m_BadNumber : mg "BadNumber" = some (.ref (He.ga K "BadNumber"))) (fx_BadNumber : PySem.W.excIn K (He.ga K "BadNumber") He.veBase "ValueError.__new__" = true ∧ PySem.W.keepIn K (.ref (He.ga K "BadNumber")) = true ∧ PySem.W.subIn K (.ref (He.ga K "BadNumber")) (.type "BaseException") = some true ∧ PySem.W.typeIn K (.ref (He.ga K "BadNumber")) = some (.type "type")) :
  DefX P w K mg base Tb "scheme_told" 4 s_scheme_told 7 := ⟨f, fd, _, fn_dataX FD sc_scheme_told (fun c A outer s H E hc hr C T => 
  (dss_cons (ds_expr (L2.PE.weak (ve_callX d_need_sizes hr (ha := (db_cons (de_var 0) (db_cons (de_var 1) (db_cons (de_var 2) db_nil)))) (hn := (cnt_cons (cnt_cons (cnt_cons cnt_nil)))))))
  (dss_cons (ds_asg (ve_call d_all_schemes hr (ha := (db_cons (de_var 0) (db_cons (de_var 1) (db_cons (de_var 2) db_nil)))) (hn := (cnt_cons (cnt_cons (cnt_cons cnt_nil))))) (dg_nm 4 sc_scheme_told.nd))
  (dss_cons (ds_if (dt_not (dt_tru (L2.PE.weak (ve_call d_is_number hr (ha := (db_cons (de_var 3) (db_cons de_int (db_cons (ve_sub (L2.PE.weak (ve_len rfl b_len (da_cons (L2.PE.weak (de_var 4)) da_nil))) (L2.PE.weak de_int)) db_nil)))) (hn := (cnt_cons (cnt_cons (cnt_cons cnt_nil))))))))
  (dss_one (ds_raise 4 rfl rfl fx_BadNumber m_BadNumber rfl))
  dss_nil)
  dss_never)))), hm, FD.kp, FD.bindsN fun _ _ _ _ _ _ us hl => match us, hl with | [_, _, _, _], _ => rfl⟩
abbrev st_need_flood : Stmt := top 75
theorem sc_need_flood : FnScope ["library", "most", "melts"] ["library", "most", "melts"] (defScope st_need_flood) := ⟨rfl, rfl, rfl, by decide +kernel, rfl, by decide +kernel, by decide +kernel⟩
theorem d_need_flood (FD : FnP K "need_flood" st_need_flood f fd) (hm : mg "need_flood" = some (.ref f)) (d_is_number : DefOk P w K mg base Tb "is_number" 3 s_is_number 1) (d_need_library : DefX P w K mg base Tb "need_library" 1 s_need_library 5) (d_need_most : DefX P w K mg base Tb "need_most" 1 s_need_most 2) (b_len : mg "len" = none) (b_min : mg "min" = none) {t_MOST_MELTS : Tok} (g_MOST_MELTS : mg "MOST_MELTS" = some (.int 3 t_MOST_MELTS)) (m_BadNumber : mg "BadNumber" = some (.ref (He.ga K "BadNumber"))) (fx_BadNumber : PySem.W.excIn K (He.ga K "BadNumber") He.veBase "ValueError.__new__" = true ∧ PySem.W.keepIn K (.ref (He.ga K "BadNumber")) = true ∧ PySem.W.subIn K (.ref (He.ga K "BadNumber")) (.type "BaseException") = some true ∧ PySem.W.typeIn K (.ref (He.ga K "BadNumber")) = some (.type "type")) :
  DefX P w K mg base Tb "need_flood" 3 s_need_flood 6 := ⟨f, fd, _, fn_dataX FD sc_need_flood (fun c A outer s H E hc hr C T => 
  (dss_cons (ds_expr (L2.PE.weak (ve_callX d_need_library hr (ha := (db_cons (de_var 0) db_nil)) (hn := (cnt_cons cnt_nil)))))
  (dss_cons (ds_expr (L2.PE.weak (ve_callX d_need_most hr (ha := (db_cons (de_var 1) db_nil)) (hn := (cnt_cons cnt_nil)))))
  (dss_one (ds_if (dt_not (dt_tru (L2.PE.weak (ve_call d_is_number hr (ha := (db_cons (de_var 2) (db_cons de_int (db_cons (ve_min2 rfl b_min (da_cons (L2.PE.weak (de_gint rfl g_MOST_MELTS)) (da_cons (L2.PE.weak (ve_len rfl b_len (da_cons (L2.PE.weak (ve_ix (L2.PE.weak (de_var 0)) (L2.PE.weak de_int))) da_nil))) da_nil))) db_nil)))) (hn := (cnt_cons (cnt_cons (cnt_cons cnt_nil))))))))
  (dss_one (ds_raise 4 rfl rfl fx_BadNumber m_BadNumber rfl))
  dss_nil))))), hm, FD.kp, FD.bindsN fun _ _ _ _ _ _ us hl => match us, hl with | [_, _, _], _ => rfl⟩
abbrev st_flood_lost_within : Stmt := top 77
theorem sc_flood_lost_within : FnScope ["library", "most", "melts"] ["library", "most", "melts"] (defScope st_flood_lost_within) := ⟨rfl, rfl, rfl, by decide +kernel, rfl, by decide +kernel, by decide +kernel⟩
theorem d_flood_lost_within (FD : FnP K "flood_lost_within" st_flood_lost_within f fd) (hm : mg "flood_lost_within" = some (.ref f)) (d_need_flood : DefX P w K mg base Tb "need_flood" 3 s_need_flood 6) :
  DefX P w K mg base Tb "flood_lost_within" 3 s_flood_lost_within 7 := ⟨f, fd, _, fn_dataX FD sc_flood_lost_within (fun c A outer s H E hc hr C T => 
  (dss_cons (ds_expr (L2.PE.weak (ve_callX d_need_flood hr (ha := (db_cons (de_var 0) (db_cons (de_var 1) (db_cons (de_var 2) db_nil)))) (hn := (cnt_cons (cnt_cons (cnt_cons cnt_nil)))))))
  dss_never)), hm, FD.kp, FD.bindsN fun _ _ _ _ _ _ us hl => match us, hl with | [_, _, _], _ => rfl⟩
abbrev st_flood_kept : Stmt := top 78
theorem sc_flood_kept : FnScope ["library", "most", "melts"] ["library", "most", "melts"] (defScope st_flood_kept) := ⟨rfl, rfl, rfl, by decide +kernel, rfl, by decide +kernel, by decide +kernel⟩
theorem d_flood_kept (FD : FnP K "flood_kept" st_flood_kept f fd) (hm : mg "flood_kept" = some (.ref f)) (d_need_flood : DefX P w K mg base Tb "need_flood" 3 s_need_flood 6) :
  DefX P w K mg base Tb "flood_kept" 3 s_flood_kept 7 := ⟨f, fd, _, fn_dataX FD sc_flood_kept (fun c A outer s H E hc hr C T => 
  (dss_cons (ds_expr (L2.PE.weak (ve_callX d_need_flood hr (ha := (db_cons (de_var 0) (db_cons (de_var 1) (db_cons (de_var 2) db_nil)))) (hn := (cnt_cons (cnt_cons (cnt_cons cnt_nil)))))))
  dss_never)), hm, FD.kp, FD.bindsN fun _ _ _ _ _ _ us hl => match us, hl with | [_, _, _], _ => rfl⟩
abbrev st_flood_family : Stmt := top 79
theorem sc_flood_family : FnScope ["library", "most", "melts", "flood", "found", "layer", "masks", "answers", "safe", "held", "other"] ["library", "most", "melts"] (defScope st_flood_family) := ⟨rfl, rfl, rfl, by decide +kernel, rfl, by decide +kernel, by decide +kernel⟩
theorem d_flood_family (FD : FnP K "flood_family" st_flood_family f fd) (hm : mg "flood_family" = some (.ref f)) (d_need_flood : DefX P w K mg base Tb "need_flood" 3 s_need_flood 6) :
  DefX P w K mg base Tb "flood_family" 3 s_flood_family 7 := ⟨f, fd, _, fn_dataX FD sc_flood_family (fun c A outer s H E hc hr C T => 
  (dss_cons (ds_expr (L2.PE.weak (ve_callX d_need_flood hr (ha := (db_cons (de_var 0) (db_cons (de_var 1) (db_cons (de_var 2) db_nil)))) (hn := (cnt_cons (cnt_cons (cnt_cons cnt_nil)))))))
  dss_never)), hm, FD.kp, FD.bindsN fun _ _ _ _ _ _ us hl => match us, hl with | [_, _, _], _ => rfl⟩
abbrev st_is_flood_scheme : Stmt := top 81
theorem sc_is_flood_scheme : FnScope ["library", "most", "melts", "masks"] ["library", "most", "melts"] (defScope st_is_flood_scheme) := ⟨rfl, rfl, rfl, by decide +kernel, rfl, by decide +kernel, by decide +kernel⟩
theorem d_is_flood_scheme (FD : FnP K "is_flood_scheme" st_is_flood_scheme f fd) (hm : mg "is_flood_scheme" = some (.ref f)) (d_need_flood : DefX P w K mg base Tb "need_flood" 3 s_need_flood 6) :
  DefX P w K mg base Tb "is_flood_scheme" 3 s_is_flood_scheme 7 := ⟨f, fd, _, fn_dataX FD sc_is_flood_scheme (fun c A outer s H E hc hr C T => 
  (dss_cons (ds_expr (L2.PE.weak (ve_callX d_need_flood hr (ha := (db_cons (de_var 0) (db_cons (de_var 1) (db_cons (de_var 2) db_nil)))) (hn := (cnt_cons (cnt_cons (cnt_cons cnt_nil)))))))
  dss_never)), hm, FD.kp, FD.bindsN fun _ _ _ _ _ _ us hl => match us, hl with | [_, _, _], _ => rfl⟩
abbrev st_flood_schemes : Stmt := top 82
theorem sc_flood_schemes : FnScope ["texts", "tablets", "most", "melts", "found", "masks"] ["texts", "tablets", "most", "melts"] (defScope st_flood_schemes) := ⟨rfl, rfl, rfl, by decide +kernel, rfl, by decide +kernel, by decide +kernel⟩
theorem d_flood_schemes (FD : FnP K "flood_schemes" st_flood_schemes f fd) (hm : mg "flood_schemes" = some (.ref f)) (d_is_number : DefOk P w K mg base Tb "is_number" 3 s_is_number 1) (d_need_sizes : DefX P w K mg base Tb "need_sizes" 3 s_need_sizes 3) (b_min : mg "min" = none) {t_MOST_MELTS : Tok} (g_MOST_MELTS : mg "MOST_MELTS" = some (.int 3 t_MOST_MELTS)) (m_BadNumber : mg "BadNumber" = some (.ref (He.ga K "BadNumber"))) (fx_BadNumber : PySem.W.excIn K (He.ga K "BadNumber") He.veBase "ValueError.__new__" = true ∧ PySem.W.keepIn K (.ref (He.ga K "BadNumber")) = true ∧ PySem.W.subIn K (.ref (He.ga K "BadNumber")) (.type "BaseException") = some true ∧ PySem.W.typeIn K (.ref (He.ga K "BadNumber")) = some (.type "type")) :
  DefX P w K mg base Tb "flood_schemes" 4 s_flood_schemes 4 := ⟨f, fd, _, fn_dataX FD sc_flood_schemes (fun c A outer s H E hc hr C T => 
  (dss_cons (ds_expr (L2.PE.weak (ve_callX d_need_sizes hr (ha := (db_cons (de_var 0) (db_cons (de_var 1) (db_cons (de_var 2) db_nil)))) (hn := (cnt_cons (cnt_cons (cnt_cons cnt_nil)))))))
  (dss_cons (ds_if (dt_not (dt_tru (L2.PE.weak (ve_call d_is_number hr (ha := (db_cons (de_var 3) (db_cons de_int (db_cons (ve_min2 rfl b_min (da_cons (L2.PE.weak (de_gint rfl g_MOST_MELTS)) (da_cons (L2.PE.weak (de_var 1)) da_nil))) db_nil)))) (hn := (cnt_cons (cnt_cons (cnt_cons cnt_nil))))))))
  (dss_one (ds_raise 4 rfl rfl fx_BadNumber m_BadNumber rfl))
  dss_nil)
  dss_never))), hm, FD.kp, FD.bindsN fun _ _ _ _ _ _ us hl => match us, hl with | [_, _, _, _], _ => rfl⟩
abbrev st_need_late : Stmt := top 83
theorem sc_need_late : FnScope ["library", "most", "late"] ["library", "most", "late"] (defScope st_need_late) := ⟨rfl, rfl, rfl, by decide +kernel, rfl, by decide +kernel, by decide +kernel⟩
theorem d_need_late (FD : FnP K "need_late" st_need_late f fd) (hm : mg "need_late" = some (.ref f)) (d_is_number : DefOk P w K mg base Tb "is_number" 3 s_is_number 1) (d_need_library : DefX P w K mg base Tb "need_library" 1 s_need_library 5) (d_need_most : DefX P w K mg base Tb "need_most" 1 s_need_most 2) (b_len : mg "len" = none) (b_min : mg "min" = none) {t_MOST_LATE : Tok} (g_MOST_LATE : mg "MOST_LATE" = some (.int 3 t_MOST_LATE)) (m_BadNumber : mg "BadNumber" = some (.ref (He.ga K "BadNumber"))) (fx_BadNumber : PySem.W.excIn K (He.ga K "BadNumber") He.veBase "ValueError.__new__" = true ∧ PySem.W.keepIn K (.ref (He.ga K "BadNumber")) = true ∧ PySem.W.subIn K (.ref (He.ga K "BadNumber")) (.type "BaseException") = some true ∧ PySem.W.typeIn K (.ref (He.ga K "BadNumber")) = some (.type "type")) :
  DefX P w K mg base Tb "need_late" 3 s_need_late 6 := ⟨f, fd, _, fn_dataX FD sc_need_late (fun c A outer s H E hc hr C T => 
  (dss_cons (ds_expr (L2.PE.weak (ve_callX d_need_library hr (ha := (db_cons (de_var 0) db_nil)) (hn := (cnt_cons cnt_nil)))))
  (dss_cons (ds_expr (L2.PE.weak (ve_callX d_need_most hr (ha := (db_cons (de_var 1) db_nil)) (hn := (cnt_cons cnt_nil)))))
  (dss_one (ds_if (dt_not (dt_tru (L2.PE.weak (ve_call d_is_number hr (ha := (db_cons (de_var 2) (db_cons de_int (db_cons (ve_min2 rfl b_min (da_cons (L2.PE.weak (de_gint rfl g_MOST_LATE)) (da_cons (L2.PE.weak (ve_sub (L2.PE.weak (ve_len rfl b_len (da_cons (L2.PE.weak (ve_ix (L2.PE.weak (de_var 0)) (L2.PE.weak de_int))) da_nil))) (L2.PE.weak de_int))) da_nil))) db_nil)))) (hn := (cnt_cons (cnt_cons (cnt_cons cnt_nil))))))))
  (dss_one (ds_raise 4 rfl rfl fx_BadNumber m_BadNumber rfl))
  dss_nil))))), hm, FD.kp, FD.bindsN fun _ _ _ _ _ _ us hl => match us, hl with | [_, _, _], _ => rfl⟩
abbrev st_late_lost_within : Stmt := top 84
theorem sc_late_lost_within : FnScope ["library", "most", "late", "masks", "day", "days", "lost", "left", "many"] ["library", "most", "late"] (defScope st_late_lost_within) := ⟨rfl, rfl, rfl, by decide +kernel, rfl, by decide +kernel, by decide +kernel⟩
theorem d_late_lost_within (FD : FnP K "late_lost_within" st_late_lost_within f fd) (hm : mg "late_lost_within" = some (.ref f)) (d_need_late : DefX P w K mg base Tb "need_late" 3 s_need_late 6) :
  DefX P w K mg base Tb "late_lost_within" 3 s_late_lost_within 7 := ⟨f, fd, _, fn_dataX FD sc_late_lost_within (fun c A outer s H E hc hr C T => 
  (dss_cons (ds_expr (L2.PE.weak (ve_callX d_need_late hr (ha := (db_cons (de_var 0) (db_cons (de_var 1) (db_cons (de_var 2) db_nil)))) (hn := (cnt_cons (cnt_cons (cnt_cons cnt_nil)))))))
  dss_never)), hm, FD.kp, FD.bindsN fun _ _ _ _ _ _ us hl => match us, hl with | [_, _, _], _ => rfl⟩
abbrev st_late_kept : Stmt := top 85
theorem sc_late_kept : FnScope ["library", "most", "late"] ["library", "most", "late"] (defScope st_late_kept) := ⟨rfl, rfl, rfl, by decide +kernel, rfl, by decide +kernel, by decide +kernel⟩
theorem d_late_kept (FD : FnP K "late_kept" st_late_kept f fd) (hm : mg "late_kept" = some (.ref f)) (d_need_late : DefX P w K mg base Tb "need_late" 3 s_need_late 6) :
  DefX P w K mg base Tb "late_kept" 3 s_late_kept 7 := ⟨f, fd, _, fn_dataX FD sc_late_kept (fun c A outer s H E hc hr C T => 
  (dss_cons (ds_expr (L2.PE.weak (ve_callX d_need_late hr (ha := (db_cons (de_var 0) (db_cons (de_var 1) (db_cons (de_var 2) db_nil)))) (hn := (cnt_cons (cnt_cons (cnt_cons cnt_nil)))))))
  dss_never)), hm, FD.kp, FD.bindsN fun _ _ _ _ _ _ us hl => match us, hl with | [_, _, _], _ => rfl⟩
abbrev st_l_taken : Stmt := top 87
theorem sc_l_taken : FnScope ["_law_row", "_law_many", "_law_cell", "_law_found"] ["_law_row", "_law_many"] (defScope st_l_taken) := ⟨rfl, rfl, rfl, by decide +kernel, rfl, by decide +kernel, by decide +kernel⟩
theorem d_l_taken (FD : FnP K "_law_taken" st_l_taken f fd) (hm : mg "_law_taken" = some (.ref f)) (b_int : mg "int" = none) (b_len : mg "len" = none) :
  DefOk P w K mg base Tb "_law_taken" 2 s_l_taken 1 := ⟨f, fd, _, fn_data FD sc_l_taken (fun c A outer s H E hc hr C => 
  (dss_cons (ds_if (vt_cmp ok_gt (L2.PE.weak (ve_ix (L2.PE.weak (de_var 0)) (L2.PE.weak de_int))) (L2.PE.weak de_int))
  (dss_cons (ds_asg (ve_mod (L2.PE.weak (ve_int rfl b_int (da_cons (L2.PE.weak (ve_ix (L2.PE.weak (de_var 0)) (L2.PE.weak de_int))) da_nil))) (L2.PE.weak (de_var 1))) (dg_nm 3 sc_l_taken.nd))
  (dss_cons (ds_putB (ve_div (L2.PE.weak (ve_ix (L2.PE.weak (de_var 0)) (L2.PE.weak de_int))) (L2.PE.weak (de_var 1))) (L2.PE.weak (de_var 0)) (L2.PE.weak de_int))
  (dss_one (ds_ret (de_var 3)))))
  dss_nil)
  (dss_cons (ds_putB (ve_add (L2.PE.weak (ve_ix (L2.PE.weak (de_var 0)) (L2.PE.weak de_int))) (L2.PE.weak de_int)) (L2.PE.weak (de_var 0)) (L2.PE.weak de_int))
  (dss_cons (ds_if (vt_cmp ok_gt (L2.PE.weak (ve_ix (L2.PE.weak (de_var 0)) (L2.PE.weak de_int))) (L2.PE.weak (ve_len rfl b_len (da_cons (L2.PE.weak (ve_ix (L2.PE.weak (de_var 0)) (L2.PE.weak de_int))) da_nil))))
  (dss_cons (ds_putB (ve_mod (L2.PE.weak (ve_int rfl b_int (da_cons (L2.PE.weak (ve_add (L2.PE.weak (ve_mul (L2.PE.weak (ve_ix (L2.PE.weak (de_var 0)) (L2.PE.weak de_int))) (L2.PE.weak de_int))) (L2.PE.weak de_int))) da_nil))) (L2.PE.weak de_int)) (L2.PE.weak (de_var 0)) (L2.PE.weak de_int))
  (dss_one (ds_ret (ve_mod (L2.PE.weak (ve_int rfl b_int (da_cons (L2.PE.weak (ve_div (L2.PE.weak (ve_ix (L2.PE.weak (de_var 0)) (L2.PE.weak de_int))) (L2.PE.weak de_int))) da_nil))) (L2.PE.weak (de_var 1))))))
  dss_nil)
  (dss_cons (ds_asg (ve_ix (L2.PE.weak (ve_ix (L2.PE.weak (de_var 0)) (L2.PE.weak de_int))) (L2.PE.weak (ve_sub (L2.PE.weak (ve_ix (L2.PE.weak (de_var 0)) (L2.PE.weak de_int))) (L2.PE.weak de_int)))) (dg_nm 2 sc_l_taken.nd))
  (dss_cons (ds_putB (ve_mod (L2.PE.weak (ve_int rfl b_int (da_cons (L2.PE.weak (ve_add (L2.PE.weak (ve_add (L2.PE.weak (ve_mul (L2.PE.weak (ve_ix (L2.PE.weak (de_var 0)) (L2.PE.weak de_int))) (L2.PE.weak de_int))) (L2.PE.weak (de_var 2)))) (L2.PE.weak de_int))) da_nil))) (L2.PE.weak de_int)) (L2.PE.weak (de_var 0)) (L2.PE.weak de_int))
  (dss_cons (ds_if (vt_cmp ok_ge (L2.PE.weak (de_var 2)) (L2.PE.weak (ve_pow (L2.PE.weak de_int) (L2.PE.weak de_int))))
  (dss_one (ds_putB (ve_div (L2.PE.weak (de_var 2)) (L2.PE.weak (de_var 1))) (L2.PE.weak (de_var 0)) (L2.PE.weak de_int)))
  dss_nil)
  (dss_one (ds_ret (ve_mod (L2.PE.weak (ve_int rfl b_int (da_cons (L2.PE.weak (de_var 2)) da_nil))) (L2.PE.weak (de_var 1)))))))))))), hm, FD.kp, FD.bindsN fun _ _ _ _ _ _ us hl => match us, hl with | [_, _], _ => rfl⟩
abbrev st_l_pick : Stmt := top 88
theorem sc_l_pick : FnScope ["_law_row", "_law_things"] ["_law_row", "_law_things"] (defScope st_l_pick) := ⟨rfl, rfl, rfl, by decide +kernel, rfl, by decide +kernel, by decide +kernel⟩
theorem d_l_pick (FD : FnP K "_law_pick" st_l_pick f fd) (hm : mg "_law_pick" = some (.ref f)) (d_l_taken : DefOk P w K mg base Tb "_law_taken" 2 s_l_taken 1) (b_len : mg "len" = none) :
  DefOk P w K mg base Tb "_law_pick" 2 s_l_pick 2 := ⟨f, fd, _, fn_data FD sc_l_pick (fun c A outer s H E hc hr C => 
  (dss_one (ds_ret (ve_ix (L2.PE.weak (de_var 1)) (L2.PE.weak (ve_call d_l_taken hr (ha := (db_cons (de_var 0) (db_cons (ve_len rfl b_len (da_cons (L2.PE.weak (de_var 1)) da_nil)) db_nil))) (hn := (cnt_cons (cnt_cons cnt_nil))))))))), hm, FD.kp, FD.bindsN fun _ _ _ _ _ _ us hl => match us, hl with | [_, _], _ => rfl⟩
abbrev st_l_error : Stmt := top 89
theorem sc_l_error : FnScope ["_law_work", "_law_found", "_law_known", "error"] ["_law_work"] (defScope st_l_error) := ⟨rfl, rfl, rfl, by decide +kernel, rfl, by decide +kernel, by decide +kernel⟩
theorem w_l_error (FD : FnP K "_law_error" st_l_error f fd) (EF : ExF K [0, 1, 2, 3, 4, 5, 6, 7]) (m_BadDays : mg "BadDays" = some (.ref (He.ga K "BadDays"))) (m_BadLibrary : mg "BadLibrary" = some (.ref (He.ga K "BadLibrary"))) (m_BadMost : mg "BadMost" = some (.ref (He.ga K "BadMost"))) (m_BadNumber : mg "BadNumber" = some (.ref (He.ga K "BadNumber"))) (m_BadShown : mg "BadShown" = some (.ref (He.ga K "BadShown"))) (m_BadString : mg "BadString" = some (.ref (He.ga K "BadString"))) (m_BadTablet : mg "BadTablet" = some (.ref (He.ga K "BadTablet"))) (m_LibraryError : mg "LibraryError" = some (.ref (He.ga K "LibraryError"))) (m_NoScheme : mg "NoScheme" = some (.ref (He.ga K "NoScheme"))) (b_ValueError : mg "ValueError" = none) (b_isinstance : mg "isinstance" = none) {Xm : Cx} {M : MeT} {lams : Nat → Ex} {j : Nat} (T : TbT) (ne : T.er = none) (LO : LamsOk (mkF P w K T) Xm M j lams) (σ0 : L2.St) (r0 : Env) (hk : Kept (mkF P w K T) σ0 r0) (c : Addr) (A : Around) (outer : List PySem.Env) (s : Shared) (H : Hp) (hc : fd.code = .ref c) (hr : Room (j + 1) (A.deeper (envOfC "_law_error" (defScope st_l_error) s.heap.objs.size f (.ref c)))) (C : Ctx (mkF P w K T) (cxOf CX0 P w K mg base ["_law_work", "_law_found", "_law_known", "error"] "_law_error" (defScope st_l_error) f (.ref c) A outer s H E0).nox) (kc : KnC Xm σ0 (cxOf CX0 P w K mg base ["_law_work", "_law_found", "_law_known", "error"] "_law_error" (defScope st_l_error) f (.ref c) A outer s H E0).nox) :
  PSs (cxOf CX0 P w K mg base ["_law_work", "_law_found", "_law_known", "error"] "_law_error" (defScope st_l_error) f (.ref c) A outer s H E0).nox (defBody st_l_error) (tS (mkF P w K T) (b_l_error fun k st => lams k r0 st)) :=
  (dss_cons (ds_asg de_non (dg_nm 1 sc_l_error.nd))
  (dss_cons (ds_try EF rfl rfl sc_l_error.nd rfl rfl rfl m_LibraryError ne (fun U pn xe C2 T2 => de_act (X := Xm) (σ0 := σ0) (kc := kn_tr kc) LO.wx ne hk hr rfl (.inl rfl)) (fun a oe pn E C2 HE =>
  (dss_cons (ds_asg (de_lst (db_cons (ve_isC EF 0 (by decide) (L2.PE.weak (de_var 3)) rfl m_BadLibrary rfl b_isinstance) (db_cons (ve_isC EF 1 (by decide) (L2.PE.weak (de_var 3)) rfl m_BadMost rfl b_isinstance) (db_cons (ve_isC EF 2 (by decide) (L2.PE.weak (de_var 3)) rfl m_BadDays rfl b_isinstance) db_nil))) (few_cons (few_cons (few_cons few_nil)))) (dg_nm 2 sc_l_error.nd))
  (dss_cons (ds_asg (ve_add (L2.PE.weak (de_var 2)) (L2.PE.weak (de_lst (db_cons (ve_isC EF 3 (by decide) (L2.PE.weak (de_var 3)) rfl m_BadTablet rfl b_isinstance) (db_cons (ve_isC EF 4 (by decide) (L2.PE.weak (de_var 3)) rfl m_BadNumber rfl b_isinstance) db_nil)) (few_cons (few_cons few_nil))))) (dg_nm 2 sc_l_error.nd))
  (dss_cons (ds_asg (ve_add (L2.PE.weak (de_var 2)) (L2.PE.weak (de_lst (db_cons (ve_isC EF 5 (by decide) (L2.PE.weak (de_var 3)) rfl m_BadString rfl b_isinstance) db_nil) (few_cons few_nil)))) (dg_nm 2 sc_l_error.nd))
  (dss_cons (ds_asg (ve_add (L2.PE.weak (de_var 2)) (L2.PE.weak (de_lst (db_cons (ve_isC EF 6 (by decide) (L2.PE.weak (de_var 3)) rfl m_BadShown rfl b_isinstance) (db_cons (ve_isC EF 7 (by decide) (L2.PE.weak (de_var 3)) rfl m_NoScheme rfl b_isinstance) db_nil)) (few_cons (few_cons few_nil))))) (dg_nm 2 sc_l_error.nd))
  (dss_one (ds_asg (de_ite (L2.PW.pt (dw_and (vt_cmp ok_eq (L2.PE.weak (de_countD (L2.PE.weak (de_var 2)) (L2.PE.weak de_bl))) (L2.PE.weak de_int)) (dw_and1 (dt_tru (L2.PE.weak (ve_isV EF (L2.PE.weak (de_var 3)) rfl b_ValueError rfl b_isinstance)))))) (de_idxL (L2.PE.weak (de_var 2)) (L2.PE.weak de_bl)) (de_str rfl)) (dg_nm 1 sc_l_error.nd)))))))) (fun X2 h2 => by rw [h2]; rfl))
  (dss_one (ds_ret (de_var 1)))))
end
end Mg
end
/-! ## K71Prl -/
section
set_option Elab.async false
set_option linter.all false
set_option maxRecDepth 100000
set_option maxHeartbeats 2500000
namespace Mg
open PySem PySem.Spec PyProof.Rows L2 GxR
section
variable {P : Program} {w : World} {K : PySem.W.Frag} {mg : Str → Option Value} {base : Heap} {Tb : TbT} {f : Addr} {fd : FuncData}
abbrev st_law : Stmt := top 90
theorem sc_law : FnScope ["_law_script", "_law_row", "_law_number", "_law_good", "_law_melts", "_law_late", "_law_wrong", "_law_works", "_law_bits", "_law_found", "_law_work"] ["_law_script"] (defScope st_law) := ⟨rfl, rfl, rfl, by decide +kernel, rfl, by decide +kernel, by decide +kernel⟩
theorem len_lams : (lams (defBody st_law)).length = 20 := by kernel_rfl
theorem at_0 : (lams (defBody st_law))[0]? = some (lamAt (defBody st_law) 0) := by kernel_rfl
theorem LW0 : LamW ["_law_script", "_law_row", "_law_number", "_law_good", "_law_melts", "_law_late", "_law_wrong", "_law_works", "_law_bits", "_law_found", "_law_work"] (defScope st_law) (lamAt (defBody st_law) 0).scope := lamW_by (by kernel_rfl)
theorem Bd0 : Bound (lamAt (defBody st_law) 0) := .zero (by kernel_rfl) fun _ _ _ _ _ _ => rfl
theorem at_1 : (lams (defBody st_law))[1]? = some (lamAt (defBody st_law) 1) := by kernel_rfl
theorem LW1 : LamW ["_law_script", "_law_row", "_law_number", "_law_good", "_law_melts", "_law_late", "_law_wrong", "_law_works", "_law_bits", "_law_found", "_law_work"] (defScope st_law) (lamAt (defBody st_law) 1).scope := lamW_by (by kernel_rfl)
theorem Bd1 : Bound (lamAt (defBody st_law) 1) := .one "_law_a" (by kernel_rfl) (by intro h; cases h) fun _ _ _ _ _ _ _ => ⟨_, rfl, fun _ => rfl⟩
theorem at_2 : (lams (defBody st_law))[2]? = some (lamAt (defBody st_law) 2) := by kernel_rfl
theorem LW2 : LamW ["_law_script", "_law_row", "_law_number", "_law_good", "_law_melts", "_law_late", "_law_wrong", "_law_works", "_law_bits", "_law_found", "_law_work"] (defScope st_law) (lamAt (defBody st_law) 2).scope := lamW_by (by kernel_rfl)
theorem Bd2 : Bound (lamAt (defBody st_law) 2) := .one "_law_b" (by kernel_rfl) (by intro h; cases h) fun _ _ _ _ _ _ _ => ⟨_, rfl, fun _ => rfl⟩
theorem at_3 : (lams (defBody st_law))[3]? = some (lamAt (defBody st_law) 3) := by kernel_rfl
theorem LW3 : LamW ["_law_script", "_law_row", "_law_number", "_law_good", "_law_melts", "_law_late", "_law_wrong", "_law_works", "_law_bits", "_law_found", "_law_work"] (defScope st_law) (lamAt (defBody st_law) 3).scope := lamW_by (by kernel_rfl)
theorem Bd3 : Bound (lamAt (defBody st_law) 3) := .one "_law_c" (by kernel_rfl) (by intro h; cases h) fun _ _ _ _ _ _ _ => ⟨_, rfl, fun _ => rfl⟩
theorem at_4 : (lams (defBody st_law))[4]? = some (lamAt (defBody st_law) 4) := by kernel_rfl
theorem LW4 : LamW ["_law_script", "_law_row", "_law_number", "_law_good", "_law_melts", "_law_late", "_law_wrong", "_law_works", "_law_bits", "_law_found", "_law_work"] (defScope st_law) (lamAt (defBody st_law) 4).scope := lamW_by (by kernel_rfl)
theorem Bd4 : Bound (lamAt (defBody st_law) 4) := .zero (by kernel_rfl) fun _ _ _ _ _ _ => rfl
theorem at_5 : (lams (defBody st_law))[5]? = some (lamAt (defBody st_law) 5) := by kernel_rfl
theorem LW5 : LamW ["_law_script", "_law_row", "_law_number", "_law_good", "_law_melts", "_law_late", "_law_wrong", "_law_works", "_law_bits", "_law_found", "_law_work"] (defScope st_law) (lamAt (defBody st_law) 5).scope := lamW_by (by kernel_rfl)
theorem Bd5 : Bound (lamAt (defBody st_law) 5) := .one "_law_a" (by kernel_rfl) (by intro h; cases h) fun _ _ _ _ _ _ _ => ⟨_, rfl, fun _ => rfl⟩
theorem at_6 : (lams (defBody st_law))[6]? = some (lamAt (defBody st_law) 6) := by kernel_rfl
theorem LW6 : LamW ["_law_script", "_law_row", "_law_number", "_law_good", "_law_melts", "_law_late", "_law_wrong", "_law_works", "_law_bits", "_law_found", "_law_work"] (defScope st_law) (lamAt (defBody st_law) 6).scope := lamW_by (by kernel_rfl)
theorem Bd6 : Bound (lamAt (defBody st_law) 6) := .one "_law_b" (by kernel_rfl) (by intro h; cases h) fun _ _ _ _ _ _ _ => ⟨_, rfl, fun _ => rfl⟩
theorem at_7 : (lams (defBody st_law))[7]? = some (lamAt (defBody st_law) 7) := by kernel_rfl
theorem LW7 : LamW ["_law_script", "_law_row", "_law_number", "_law_good", "_law_melts", "_law_late", "_law_wrong", "_law_works", "_law_bits", "_law_found", "_law_work"] (defScope st_law) (lamAt (defBody st_law) 7).scope := lamW_by (by kernel_rfl)
theorem Bd7 : Bound (lamAt (defBody st_law) 7) := .one "_law_c" (by kernel_rfl) (by intro h; cases h) fun _ _ _ _ _ _ _ => ⟨_, rfl, fun _ => rfl⟩
theorem at_8 : (lams (defBody st_law))[8]? = some (lamAt (defBody st_law) 8) := by kernel_rfl
theorem LW8 : LamW ["_law_script", "_law_row", "_law_number", "_law_good", "_law_melts", "_law_late", "_law_wrong", "_law_works", "_law_bits", "_law_found", "_law_work"] (defScope st_law) (lamAt (defBody st_law) 8).scope := lamW_by (by kernel_rfl)
theorem Bd8 : Bound (lamAt (defBody st_law) 8) := .zero (by kernel_rfl) fun _ _ _ _ _ _ => rfl
theorem at_9 : (lams (defBody st_law))[9]? = some (lamAt (defBody st_law) 9) := by kernel_rfl
theorem LW9 : LamW ["_law_script", "_law_row", "_law_number", "_law_good", "_law_melts", "_law_late", "_law_wrong", "_law_works", "_law_bits", "_law_found", "_law_work"] (defScope st_law) (lamAt (defBody st_law) 9).scope := lamW_by (by kernel_rfl)
theorem Bd9 : Bound (lamAt (defBody st_law) 9) := .one "_law_a" (by kernel_rfl) (by intro h; cases h) fun _ _ _ _ _ _ _ => ⟨_, rfl, fun _ => rfl⟩
theorem at_10 : (lams (defBody st_law))[10]? = some (lamAt (defBody st_law) 10) := by kernel_rfl
theorem LW10 : LamW ["_law_script", "_law_row", "_law_number", "_law_good", "_law_melts", "_law_late", "_law_wrong", "_law_works", "_law_bits", "_law_found", "_law_work"] (defScope st_law) (lamAt (defBody st_law) 10).scope := lamW_by (by kernel_rfl)
theorem Bd10 : Bound (lamAt (defBody st_law) 10) := .one "_law_b" (by kernel_rfl) (by intro h; cases h) fun _ _ _ _ _ _ _ => ⟨_, rfl, fun _ => rfl⟩
theorem at_11 : (lams (defBody st_law))[11]? = some (lamAt (defBody st_law) 11) := by kernel_rfl
theorem LW11 : LamW ["_law_script", "_law_row", "_law_number", "_law_good", "_law_melts", "_law_late", "_law_wrong", "_law_works", "_law_bits", "_law_found", "_law_work"] (defScope st_law) (lamAt (defBody st_law) 11).scope := lamW_by (by kernel_rfl)
theorem Bd11 : Bound (lamAt (defBody st_law) 11) := .zero (by kernel_rfl) fun _ _ _ _ _ _ => rfl
theorem at_12 : (lams (defBody st_law))[12]? = some (lamAt (defBody st_law) 12) := by kernel_rfl
theorem LW12 : LamW ["_law_script", "_law_row", "_law_number", "_law_good", "_law_melts", "_law_late", "_law_wrong", "_law_works", "_law_bits", "_law_found", "_law_work"] (defScope st_law) (lamAt (defBody st_law) 12).scope := lamW_by (by kernel_rfl)
theorem Bd12 : Bound (lamAt (defBody st_law) 12) := .one "_law_a" (by kernel_rfl) (by intro h; cases h) fun _ _ _ _ _ _ _ => ⟨_, rfl, fun _ => rfl⟩
theorem at_13 : (lams (defBody st_law))[13]? = some (lamAt (defBody st_law) 13) := by kernel_rfl
theorem LW13 : LamW ["_law_script", "_law_row", "_law_number", "_law_good", "_law_melts", "_law_late", "_law_wrong", "_law_works", "_law_bits", "_law_found", "_law_work"] (defScope st_law) (lamAt (defBody st_law) 13).scope := lamW_by (by kernel_rfl)
theorem Bd13 : Bound (lamAt (defBody st_law) 13) := .one "_law_b" (by kernel_rfl) (by intro h; cases h) fun _ _ _ _ _ _ _ => ⟨_, rfl, fun _ => rfl⟩
theorem at_14 : (lams (defBody st_law))[14]? = some (lamAt (defBody st_law) 14) := by kernel_rfl
theorem LW14 : LamW ["_law_script", "_law_row", "_law_number", "_law_good", "_law_melts", "_law_late", "_law_wrong", "_law_works", "_law_bits", "_law_found", "_law_work"] (defScope st_law) (lamAt (defBody st_law) 14).scope := lamW_by (by kernel_rfl)
theorem Bd14 : Bound (lamAt (defBody st_law) 14) := .one "_law_c" (by kernel_rfl) (by intro h; cases h) fun _ _ _ _ _ _ _ => ⟨_, rfl, fun _ => rfl⟩
theorem at_15 : (lams (defBody st_law))[15]? = some (lamAt (defBody st_law) 15) := by kernel_rfl
theorem LW15 : LamW ["_law_script", "_law_row", "_law_number", "_law_good", "_law_melts", "_law_late", "_law_wrong", "_law_works", "_law_bits", "_law_found", "_law_work"] (defScope st_law) (lamAt (defBody st_law) 15).scope := lamW_by (by kernel_rfl)
theorem Bd15 : Bound (lamAt (defBody st_law) 15) := .zero (by kernel_rfl) fun _ _ _ _ _ _ => rfl
theorem at_16 : (lams (defBody st_law))[16]? = some (lamAt (defBody st_law) 16) := by kernel_rfl
theorem LW16 : LamW ["_law_script", "_law_row", "_law_number", "_law_good", "_law_melts", "_law_late", "_law_wrong", "_law_works", "_law_bits", "_law_found", "_law_work"] (defScope st_law) (lamAt (defBody st_law) 16).scope := lamW_by (by kernel_rfl)
theorem Bd16 : Bound (lamAt (defBody st_law) 16) := .one "_law_a" (by kernel_rfl) (by intro h; cases h) fun _ _ _ _ _ _ _ => ⟨_, rfl, fun _ => rfl⟩
theorem at_17 : (lams (defBody st_law))[17]? = some (lamAt (defBody st_law) 17) := by kernel_rfl
theorem LW17 : LamW ["_law_script", "_law_row", "_law_number", "_law_good", "_law_melts", "_law_late", "_law_wrong", "_law_works", "_law_bits", "_law_found", "_law_work"] (defScope st_law) (lamAt (defBody st_law) 17).scope := lamW_by (by kernel_rfl)
theorem Bd17 : Bound (lamAt (defBody st_law) 17) := .one "_law_b" (by kernel_rfl) (by intro h; cases h) fun _ _ _ _ _ _ _ => ⟨_, rfl, fun _ => rfl⟩
theorem at_18 : (lams (defBody st_law))[18]? = some (lamAt (defBody st_law) 18) := by kernel_rfl
theorem LW18 : LamW ["_law_script", "_law_row", "_law_number", "_law_good", "_law_melts", "_law_late", "_law_wrong", "_law_works", "_law_bits", "_law_found", "_law_work"] (defScope st_law) (lamAt (defBody st_law) 18).scope := lamW_by (by kernel_rfl)
theorem Bd18 : Bound (lamAt (defBody st_law) 18) := .one "_law_c" (by kernel_rfl) (by intro h; cases h) fun _ _ _ _ _ _ _ => ⟨_, rfl, fun _ => rfl⟩
theorem at_19 : (lams (defBody st_law))[19]? = some (lamAt (defBody st_law) 19) := by kernel_rfl
theorem LW19 : LamW ["_law_script", "_law_row", "_law_number", "_law_good", "_law_melts", "_law_late", "_law_wrong", "_law_works", "_law_bits", "_law_found", "_law_work"] (defScope st_law) (lamAt (defBody st_law) 19).scope := lamW_by (by kernel_rfl)
theorem Bd19 : Bound (lamAt (defBody st_law) 19) := .zero (by kernel_rfl) fun _ _ _ _ _ _ => rfl
theorem lamOk_0 (d_l_pick : ∀ T : TbT, T.tb = Tb.tb → T.lt = Tb.lt → DefOk P w K mg base T "_law_pick" 2 s_l_pick 2) (d_can_right : ∀ T : TbT, T.tb = Tb.tb → T.lt = Tb.lt → DefX P w K mg base T "can_right" 2 s_can_right 7) (d_can_tell : ∀ T : TbT, T.tb = Tb.tb → T.lt = Tb.lt → DefX P w K mg base T "can_tell" 2 s_can_tell 7) (d_contents_told : ∀ T : TbT, T.tb = Tb.tb → T.lt = Tb.lt → DefX P w K mg base T "contents_told" 3 s_contents_told 6) (d_failing_rings : ∀ T : TbT, T.tb = Tb.tb → T.lt = Tb.lt → DefX P w K mg base T "failing_rings" 3 s_failing_rings 6) (d_fewest_wrong : ∀ T : TbT, T.tb = Tb.tb → T.lt = Tb.lt → DefX P w K mg base T "fewest_wrong" 2 s_fewest_wrong 6) (d_flood_family : ∀ T : TbT, T.tb = Tb.tb → T.lt = Tb.lt → DefX P w K mg base T "flood_family" 3 s_flood_family 7) (d_flood_kept : ∀ T : TbT, T.tb = Tb.tb → T.lt = Tb.lt → DefX P w K mg base T "flood_kept" 3 s_flood_kept 7) (d_flood_lost_within : ∀ T : TbT, T.tb = Tb.tb → T.lt = Tb.lt → DefX P w K mg base T "flood_lost_within" 3 s_flood_lost_within 7) (d_flood_schemes : ∀ T : TbT, T.tb = Tb.tb → T.lt = Tb.lt → DefX P w K mg base T "flood_schemes" 4 s_flood_schemes 4) (d_is_flood_scheme : ∀ T : TbT, T.tb = Tb.tb → T.lt = Tb.lt → DefX P w K mg base T "is_flood_scheme" 3 s_is_flood_scheme 7) (d_late_kept : ∀ T : TbT, T.tb = Tb.tb → T.lt = Tb.lt → DefX P w K mg base T "late_kept" 3 s_late_kept 7) (d_late_lost_within : ∀ T : TbT, T.tb = Tb.tb → T.lt = Tb.lt → DefX P w K mg base T "late_lost_within" 3 s_late_lost_within 7) (d_mixed_kinds : ∀ T : TbT, T.tb = Tb.tb → T.lt = Tb.lt → DefX P w K mg base T "mixed_kinds" 3 s_mixed_kinds 4) (d_named_kinds : ∀ T : TbT, T.tb = Tb.tb → T.lt = Tb.lt → DefX P w K mg base T "named_kinds" 3 s_named_kinds 4) (d_scheme_number : ∀ T : TbT, T.tb = Tb.tb → T.lt = Tb.lt → DefX P w K mg base T "scheme_number" 2 s_scheme_number 6) (d_scheme_told : ∀ T : TbT, T.tb = Tb.tb → T.lt = Tb.lt → DefX P w K mg base T "scheme_told" 4 s_scheme_told 7) (d_shown : ∀ T : TbT, T.tb = Tb.tb → T.lt = Tb.lt → DefX P w K mg base T "shown" 2 s_shown 6) (c : Addr) (A : Around) (outer : List PySem.Env) (s : Shared) (H : Hp) (E : XK) (T : TbT) (e1 : T.tb = Tb.tb) (e2 : T.lt = Tb.lt) (A2 : Around) (outer2 : List PySem.Env) (s2 : Shared) (H2 : Hp) (E2 : XK) (f2 c2 : Addr) (hr : Room 7 (A2.deeper (LamX.lamEnv (cxOf CX0 P w K mg base ["_law_script", "_law_row", "_law_number", "_law_good", "_law_melts", "_law_late", "_law_wrong", "_law_works", "_law_bits", "_law_found", "_law_work"] "law" (defScope st_law) f (.ref c) A outer s H E).nox (lamAt (defBody st_law) 0).scope s2.heap.objs.size f2 c2))) (C2 : Ctx ((mkF P w K T).to E2) (LamX.lamCx (cxOf CX0 P w K mg base ["_law_script", "_law_row", "_law_number", "_law_good", "_law_melts", "_law_late", "_law_wrong", "_law_works", "_law_bits", "_law_found", "_law_work"] "law" (defScope st_law) f (.ref c) A outer s H E).nox A2 outer2 s2 H2 E2 (lamAt (defBody st_law) 0).scope f2 c2)) (T2 : XTk ((mkF P w K T).to E2) (LamX.lamCx (cxOf CX0 P w K mg base ["_law_script", "_law_row", "_law_number", "_law_good", "_law_melts", "_law_late", "_law_wrong", "_law_works", "_law_bits", "_law_found", "_law_work"] "law" (defScope st_law) f (.ref c) A outer s H E).nox A2 outer2 s2 H2 E2 (lamAt (defBody st_law) 0).scope f2 c2)) :
  PE (LamX.lamCx (cxOf CX0 P w K mg base ["_law_script", "_law_row", "_law_number", "_law_good", "_law_melts", "_law_late", "_law_wrong", "_law_works", "_law_bits", "_law_found", "_law_work"] "law" (defScope st_law) f (.ref c) A outer s H E).nox A2 outer2 s2 H2 E2 (lamAt (defBody st_law) 0).scope f2 c2) (lamAt (defBody st_law) 0).body (tD ((mkF P w K T).to E2) false (lam_law 0)) := by
  have d_l_pick := d_l_pick T e1 e2; have d_can_right := d_can_right T e1 e2; have d_can_tell := d_can_tell T e1 e2; have d_contents_told := d_contents_told T e1 e2; have d_failing_rings := d_failing_rings T e1 e2; have d_fewest_wrong := d_fewest_wrong T e1 e2; have d_flood_family := d_flood_family T e1 e2; have d_flood_kept := d_flood_kept T e1 e2; have d_flood_lost_within := d_flood_lost_within T e1 e2; have d_flood_schemes := d_flood_schemes T e1 e2; have d_is_flood_scheme := d_is_flood_scheme T e1 e2; have d_late_kept := d_late_kept T e1 e2; have d_late_lost_within := d_late_lost_within T e1 e2; have d_mixed_kinds := d_mixed_kinds T e1 e2; have d_named_kinds := d_named_kinds T e1 e2; have d_scheme_number := d_scheme_number T e1 e2; have d_scheme_told := d_scheme_told T e1 e2; have d_shown := d_shown T e1 e2
  exact (ve_callX d_flood_lost_within hr (ha := (db_cons (de_var 3) (db_cons de_int (db_cons (de_var 4) db_nil)))) (hn := (cnt_cons (cnt_cons (cnt_cons cnt_nil)))))
theorem lamOk_1 (d_l_pick : ∀ T : TbT, T.tb = Tb.tb → T.lt = Tb.lt → DefOk P w K mg base T "_law_pick" 2 s_l_pick 2) (d_can_right : ∀ T : TbT, T.tb = Tb.tb → T.lt = Tb.lt → DefX P w K mg base T "can_right" 2 s_can_right 7) (d_can_tell : ∀ T : TbT, T.tb = Tb.tb → T.lt = Tb.lt → DefX P w K mg base T "can_tell" 2 s_can_tell 7) (d_contents_told : ∀ T : TbT, T.tb = Tb.tb → T.lt = Tb.lt → DefX P w K mg base T "contents_told" 3 s_contents_told 6) (d_failing_rings : ∀ T : TbT, T.tb = Tb.tb → T.lt = Tb.lt → DefX P w K mg base T "failing_rings" 3 s_failing_rings 6) (d_fewest_wrong : ∀ T : TbT, T.tb = Tb.tb → T.lt = Tb.lt → DefX P w K mg base T "fewest_wrong" 2 s_fewest_wrong 6) (d_flood_family : ∀ T : TbT, T.tb = Tb.tb → T.lt = Tb.lt → DefX P w K mg base T "flood_family" 3 s_flood_family 7) (d_flood_kept : ∀ T : TbT, T.tb = Tb.tb → T.lt = Tb.lt → DefX P w K mg base T "flood_kept" 3 s_flood_kept 7) (d_flood_lost_within : ∀ T : TbT, T.tb = Tb.tb → T.lt = Tb.lt → DefX P w K mg base T "flood_lost_within" 3 s_flood_lost_within 7) (d_flood_schemes : ∀ T : TbT, T.tb = Tb.tb → T.lt = Tb.lt → DefX P w K mg base T "flood_schemes" 4 s_flood_schemes 4) (d_is_flood_scheme : ∀ T : TbT, T.tb = Tb.tb → T.lt = Tb.lt → DefX P w K mg base T "is_flood_scheme" 3 s_is_flood_scheme 7) (d_late_kept : ∀ T : TbT, T.tb = Tb.tb → T.lt = Tb.lt → DefX P w K mg base T "late_kept" 3 s_late_kept 7) (d_late_lost_within : ∀ T : TbT, T.tb = Tb.tb → T.lt = Tb.lt → DefX P w K mg base T "late_lost_within" 3 s_late_lost_within 7) (d_mixed_kinds : ∀ T : TbT, T.tb = Tb.tb → T.lt = Tb.lt → DefX P w K mg base T "mixed_kinds" 3 s_mixed_kinds 4) (d_named_kinds : ∀ T : TbT, T.tb = Tb.tb → T.lt = Tb.lt → DefX P w K mg base T "named_kinds" 3 s_named_kinds 4) (d_scheme_number : ∀ T : TbT, T.tb = Tb.tb → T.lt = Tb.lt → DefX P w K mg base T "scheme_number" 2 s_scheme_number 6) (d_scheme_told : ∀ T : TbT, T.tb = Tb.tb → T.lt = Tb.lt → DefX P w K mg base T "scheme_told" 4 s_scheme_told 7) (d_shown : ∀ T : TbT, T.tb = Tb.tb → T.lt = Tb.lt → DefX P w K mg base T "shown" 2 s_shown 6) (c : Addr) (A : Around) (outer : List PySem.Env) (s : Shared) (H : Hp) (E : XK) (T : TbT) (e1 : T.tb = Tb.tb) (e2 : T.lt = Tb.lt) (A2 : Around) (outer2 : List PySem.Env) (s2 : Shared) (H2 : Hp) (E2 : XK) (f2 c2 : Addr) (hr : Room 7 (A2.deeper (LamX.lamEnv (cxOf CX0 P w K mg base ["_law_script", "_law_row", "_law_number", "_law_good", "_law_melts", "_law_late", "_law_wrong", "_law_works", "_law_bits", "_law_found", "_law_work"] "law" (defScope st_law) f (.ref c) A outer s H E).nox (lamAt (defBody st_law) 1).scope s2.heap.objs.size f2 c2))) (C2 : Ctx ((mkF P w K T).to E2) (LamX.lamCx (cxOf CX0 P w K mg base ["_law_script", "_law_row", "_law_number", "_law_good", "_law_melts", "_law_late", "_law_wrong", "_law_works", "_law_bits", "_law_found", "_law_work"] "law" (defScope st_law) f (.ref c) A outer s H E).nox A2 outer2 s2 H2 E2 (lamAt (defBody st_law) 1).scope f2 c2)) (T2 : XTk ((mkF P w K T).to E2) (LamX.lamCx (cxOf CX0 P w K mg base ["_law_script", "_law_row", "_law_number", "_law_good", "_law_melts", "_law_late", "_law_wrong", "_law_works", "_law_bits", "_law_found", "_law_work"] "law" (defScope st_law) f (.ref c) A outer s H E).nox A2 outer2 s2 H2 E2 (lamAt (defBody st_law) 1).scope f2 c2)) :
  PE (LamX.lamCx (cxOf CX0 P w K mg base ["_law_script", "_law_row", "_law_number", "_law_good", "_law_melts", "_law_late", "_law_wrong", "_law_works", "_law_bits", "_law_found", "_law_work"] "law" (defScope st_law) f (.ref c) A outer s H E).nox A2 outer2 s2 H2 E2 (lamAt (defBody st_law) 1).scope f2 c2) (lamAt (defBody st_law) 1).body (tD ((mkF P w K T).to E2) false (lam_law 1)) := by
  have d_l_pick := d_l_pick T e1 e2; have d_can_right := d_can_right T e1 e2; have d_can_tell := d_can_tell T e1 e2; have d_contents_told := d_contents_told T e1 e2; have d_failing_rings := d_failing_rings T e1 e2; have d_fewest_wrong := d_fewest_wrong T e1 e2; have d_flood_family := d_flood_family T e1 e2; have d_flood_kept := d_flood_kept T e1 e2; have d_flood_lost_within := d_flood_lost_within T e1 e2; have d_flood_schemes := d_flood_schemes T e1 e2; have d_is_flood_scheme := d_is_flood_scheme T e1 e2; have d_late_kept := d_late_kept T e1 e2; have d_late_lost_within := d_late_lost_within T e1 e2; have d_mixed_kinds := d_mixed_kinds T e1 e2; have d_named_kinds := d_named_kinds T e1 e2; have d_scheme_number := d_scheme_number T e1 e2; have d_scheme_told := d_scheme_told T e1 e2; have d_shown := d_shown T e1 e2
  exact (ve_callX d_flood_kept hr (ha := (db_cons (de_tup (db_cons de_int (db_cons (de_tup (db_cons (de_tup db_nil few_nil) db_nil) (few_cons few_nil)) db_nil)) (few_cons (few_cons few_nil))) (db_cons de_int (db_cons de_int db_nil)))) (hn := (cnt_cons (cnt_cons (cnt_cons cnt_nil)))))
theorem lamOk_2 (d_l_pick : ∀ T : TbT, T.tb = Tb.tb → T.lt = Tb.lt → DefOk P w K mg base T "_law_pick" 2 s_l_pick 2) (d_can_right : ∀ T : TbT, T.tb = Tb.tb → T.lt = Tb.lt → DefX P w K mg base T "can_right" 2 s_can_right 7) (d_can_tell : ∀ T : TbT, T.tb = Tb.tb → T.lt = Tb.lt → DefX P w K mg base T "can_tell" 2 s_can_tell 7) (d_contents_told : ∀ T : TbT, T.tb = Tb.tb → T.lt = Tb.lt → DefX P w K mg base T "contents_told" 3 s_contents_told 6) (d_failing_rings : ∀ T : TbT, T.tb = Tb.tb → T.lt = Tb.lt → DefX P w K mg base T "failing_rings" 3 s_failing_rings 6) (d_fewest_wrong : ∀ T : TbT, T.tb = Tb.tb → T.lt = Tb.lt → DefX P w K mg base T "fewest_wrong" 2 s_fewest_wrong 6) (d_flood_family : ∀ T : TbT, T.tb = Tb.tb → T.lt = Tb.lt → DefX P w K mg base T "flood_family" 3 s_flood_family 7) (d_flood_kept : ∀ T : TbT, T.tb = Tb.tb → T.lt = Tb.lt → DefX P w K mg base T "flood_kept" 3 s_flood_kept 7) (d_flood_lost_within : ∀ T : TbT, T.tb = Tb.tb → T.lt = Tb.lt → DefX P w K mg base T "flood_lost_within" 3 s_flood_lost_within 7) (d_flood_schemes : ∀ T : TbT, T.tb = Tb.tb → T.lt = Tb.lt → DefX P w K mg base T "flood_schemes" 4 s_flood_schemes 4) (d_is_flood_scheme : ∀ T : TbT, T.tb = Tb.tb → T.lt = Tb.lt → DefX P w K mg base T "is_flood_scheme" 3 s_is_flood_scheme 7) (d_late_kept : ∀ T : TbT, T.tb = Tb.tb → T.lt = Tb.lt → DefX P w K mg base T "late_kept" 3 s_late_kept 7) (d_late_lost_within : ∀ T : TbT, T.tb = Tb.tb → T.lt = Tb.lt → DefX P w K mg base T "late_lost_within" 3 s_late_lost_within 7) (d_mixed_kinds : ∀ T : TbT, T.tb = Tb.tb → T.lt = Tb.lt → DefX P w K mg base T "mixed_kinds" 3 s_mixed_kinds 4) (d_named_kinds : ∀ T : TbT, T.tb = Tb.tb → T.lt = Tb.lt → DefX P w K mg base T "named_kinds" 3 s_named_kinds 4) (d_scheme_number : ∀ T : TbT, T.tb = Tb.tb → T.lt = Tb.lt → DefX P w K mg base T "scheme_number" 2 s_scheme_number 6) (d_scheme_told : ∀ T : TbT, T.tb = Tb.tb → T.lt = Tb.lt → DefX P w K mg base T "scheme_told" 4 s_scheme_told 7) (d_shown : ∀ T : TbT, T.tb = Tb.tb → T.lt = Tb.lt → DefX P w K mg base T "shown" 2 s_shown 6) (c : Addr) (A : Around) (outer : List PySem.Env) (s : Shared) (H : Hp) (E : XK) (T : TbT) (e1 : T.tb = Tb.tb) (e2 : T.lt = Tb.lt) (A2 : Around) (outer2 : List PySem.Env) (s2 : Shared) (H2 : Hp) (E2 : XK) (f2 c2 : Addr) (hr : Room 7 (A2.deeper (LamX.lamEnv (cxOf CX0 P w K mg base ["_law_script", "_law_row", "_law_number", "_law_good", "_law_melts", "_law_late", "_law_wrong", "_law_works", "_law_bits", "_law_found", "_law_work"] "law" (defScope st_law) f (.ref c) A outer s H E).nox (lamAt (defBody st_law) 2).scope s2.heap.objs.size f2 c2))) (C2 : Ctx ((mkF P w K T).to E2) (LamX.lamCx (cxOf CX0 P w K mg base ["_law_script", "_law_row", "_law_number", "_law_good", "_law_melts", "_law_late", "_law_wrong", "_law_works", "_law_bits", "_law_found", "_law_work"] "law" (defScope st_law) f (.ref c) A outer s H E).nox A2 outer2 s2 H2 E2 (lamAt (defBody st_law) 2).scope f2 c2)) (T2 : XTk ((mkF P w K T).to E2) (LamX.lamCx (cxOf CX0 P w K mg base ["_law_script", "_law_row", "_law_number", "_law_good", "_law_melts", "_law_late", "_law_wrong", "_law_works", "_law_bits", "_law_found", "_law_work"] "law" (defScope st_law) f (.ref c) A outer s H E).nox A2 outer2 s2 H2 E2 (lamAt (defBody st_law) 2).scope f2 c2)) :
  PE (LamX.lamCx (cxOf CX0 P w K mg base ["_law_script", "_law_row", "_law_number", "_law_good", "_law_melts", "_law_late", "_law_wrong", "_law_works", "_law_bits", "_law_found", "_law_work"] "law" (defScope st_law) f (.ref c) A outer s H E).nox A2 outer2 s2 H2 E2 (lamAt (defBody st_law) 2).scope f2 c2) (lamAt (defBody st_law) 2).body (tD ((mkF P w K T).to E2) false (lam_law 2)) := by
  have d_l_pick := d_l_pick T e1 e2; have d_can_right := d_can_right T e1 e2; have d_can_tell := d_can_tell T e1 e2; have d_contents_told := d_contents_told T e1 e2; have d_failing_rings := d_failing_rings T e1 e2; have d_fewest_wrong := d_fewest_wrong T e1 e2; have d_flood_family := d_flood_family T e1 e2; have d_flood_kept := d_flood_kept T e1 e2; have d_flood_lost_within := d_flood_lost_within T e1 e2; have d_flood_schemes := d_flood_schemes T e1 e2; have d_is_flood_scheme := d_is_flood_scheme T e1 e2; have d_late_kept := d_late_kept T e1 e2; have d_late_lost_within := d_late_lost_within T e1 e2; have d_mixed_kinds := d_mixed_kinds T e1 e2; have d_named_kinds := d_named_kinds T e1 e2; have d_scheme_number := d_scheme_number T e1 e2; have d_scheme_told := d_scheme_told T e1 e2; have d_shown := d_shown T e1 e2
  exact (ve_callX d_flood_family hr (ha := (db_cons (de_var 3) (db_cons de_int (db_cons (de_var 4) db_nil)))) (hn := (cnt_cons (cnt_cons (cnt_cons cnt_nil)))))
theorem lamOk_3 (d_l_pick : ∀ T : TbT, T.tb = Tb.tb → T.lt = Tb.lt → DefOk P w K mg base T "_law_pick" 2 s_l_pick 2) (d_can_right : ∀ T : TbT, T.tb = Tb.tb → T.lt = Tb.lt → DefX P w K mg base T "can_right" 2 s_can_right 7) (d_can_tell : ∀ T : TbT, T.tb = Tb.tb → T.lt = Tb.lt → DefX P w K mg base T "can_tell" 2 s_can_tell 7) (d_contents_told : ∀ T : TbT, T.tb = Tb.tb → T.lt = Tb.lt → DefX P w K mg base T "contents_told" 3 s_contents_told 6) (d_failing_rings : ∀ T : TbT, T.tb = Tb.tb → T.lt = Tb.lt → DefX P w K mg base T "failing_rings" 3 s_failing_rings 6) (d_fewest_wrong : ∀ T : TbT, T.tb = Tb.tb → T.lt = Tb.lt → DefX P w K mg base T "fewest_wrong" 2 s_fewest_wrong 6) (d_flood_family : ∀ T : TbT, T.tb = Tb.tb → T.lt = Tb.lt → DefX P w K mg base T "flood_family" 3 s_flood_family 7) (d_flood_kept : ∀ T : TbT, T.tb = Tb.tb → T.lt = Tb.lt → DefX P w K mg base T "flood_kept" 3 s_flood_kept 7) (d_flood_lost_within : ∀ T : TbT, T.tb = Tb.tb → T.lt = Tb.lt → DefX P w K mg base T "flood_lost_within" 3 s_flood_lost_within 7) (d_flood_schemes : ∀ T : TbT, T.tb = Tb.tb → T.lt = Tb.lt → DefX P w K mg base T "flood_schemes" 4 s_flood_schemes 4) (d_is_flood_scheme : ∀ T : TbT, T.tb = Tb.tb → T.lt = Tb.lt → DefX P w K mg base T "is_flood_scheme" 3 s_is_flood_scheme 7) (d_late_kept : ∀ T : TbT, T.tb = Tb.tb → T.lt = Tb.lt → DefX P w K mg base T "late_kept" 3 s_late_kept 7) (d_late_lost_within : ∀ T : TbT, T.tb = Tb.tb → T.lt = Tb.lt → DefX P w K mg base T "late_lost_within" 3 s_late_lost_within 7) (d_mixed_kinds : ∀ T : TbT, T.tb = Tb.tb → T.lt = Tb.lt → DefX P w K mg base T "mixed_kinds" 3 s_mixed_kinds 4) (d_named_kinds : ∀ T : TbT, T.tb = Tb.tb → T.lt = Tb.lt → DefX P w K mg base T "named_kinds" 3 s_named_kinds 4) (d_scheme_number : ∀ T : TbT, T.tb = Tb.tb → T.lt = Tb.lt → DefX P w K mg base T "scheme_number" 2 s_scheme_number 6) (d_scheme_told : ∀ T : TbT, T.tb = Tb.tb → T.lt = Tb.lt → DefX P w K mg base T "scheme_told" 4 s_scheme_told 7) (d_shown : ∀ T : TbT, T.tb = Tb.tb → T.lt = Tb.lt → DefX P w K mg base T "shown" 2 s_shown 6) (c : Addr) (A : Around) (outer : List PySem.Env) (s : Shared) (H : Hp) (E : XK) (T : TbT) (e1 : T.tb = Tb.tb) (e2 : T.lt = Tb.lt) (A2 : Around) (outer2 : List PySem.Env) (s2 : Shared) (H2 : Hp) (E2 : XK) (f2 c2 : Addr) (hr : Room 7 (A2.deeper (LamX.lamEnv (cxOf CX0 P w K mg base ["_law_script", "_law_row", "_law_number", "_law_good", "_law_melts", "_law_late", "_law_wrong", "_law_works", "_law_bits", "_law_found", "_law_work"] "law" (defScope st_law) f (.ref c) A outer s H E).nox (lamAt (defBody st_law) 3).scope s2.heap.objs.size f2 c2))) (C2 : Ctx ((mkF P w K T).to E2) (LamX.lamCx (cxOf CX0 P w K mg base ["_law_script", "_law_row", "_law_number", "_law_good", "_law_melts", "_law_late", "_law_wrong", "_law_works", "_law_bits", "_law_found", "_law_work"] "law" (defScope st_law) f (.ref c) A outer s H E).nox A2 outer2 s2 H2 E2 (lamAt (defBody st_law) 3).scope f2 c2)) (T2 : XTk ((mkF P w K T).to E2) (LamX.lamCx (cxOf CX0 P w K mg base ["_law_script", "_law_row", "_law_number", "_law_good", "_law_melts", "_law_late", "_law_wrong", "_law_works", "_law_bits", "_law_found", "_law_work"] "law" (defScope st_law) f (.ref c) A outer s H E).nox A2 outer2 s2 H2 E2 (lamAt (defBody st_law) 3).scope f2 c2)) :
  PE (LamX.lamCx (cxOf CX0 P w K mg base ["_law_script", "_law_row", "_law_number", "_law_good", "_law_melts", "_law_late", "_law_wrong", "_law_works", "_law_bits", "_law_found", "_law_work"] "law" (defScope st_law) f (.ref c) A outer s H E).nox A2 outer2 s2 H2 E2 (lamAt (defBody st_law) 3).scope f2 c2) (lamAt (defBody st_law) 3).body (tD ((mkF P w K T).to E2) false (lam_law 3)) := by
  have d_l_pick := d_l_pick T e1 e2; have d_can_right := d_can_right T e1 e2; have d_can_tell := d_can_tell T e1 e2; have d_contents_told := d_contents_told T e1 e2; have d_failing_rings := d_failing_rings T e1 e2; have d_fewest_wrong := d_fewest_wrong T e1 e2; have d_flood_family := d_flood_family T e1 e2; have d_flood_kept := d_flood_kept T e1 e2; have d_flood_lost_within := d_flood_lost_within T e1 e2; have d_flood_schemes := d_flood_schemes T e1 e2; have d_is_flood_scheme := d_is_flood_scheme T e1 e2; have d_late_kept := d_late_kept T e1 e2; have d_late_lost_within := d_late_lost_within T e1 e2; have d_mixed_kinds := d_mixed_kinds T e1 e2; have d_named_kinds := d_named_kinds T e1 e2; have d_scheme_number := d_scheme_number T e1 e2; have d_scheme_told := d_scheme_told T e1 e2; have d_shown := d_shown T e1 e2
  exact (ve_callX d_is_flood_scheme hr (ha := (db_cons (de_var 3) (db_cons de_int (db_cons (de_var 4) db_nil)))) (hn := (cnt_cons (cnt_cons (cnt_cons cnt_nil)))))
theorem lamOk_4 (d_l_pick : ∀ T : TbT, T.tb = Tb.tb → T.lt = Tb.lt → DefOk P w K mg base T "_law_pick" 2 s_l_pick 2) (d_can_right : ∀ T : TbT, T.tb = Tb.tb → T.lt = Tb.lt → DefX P w K mg base T "can_right" 2 s_can_right 7) (d_can_tell : ∀ T : TbT, T.tb = Tb.tb → T.lt = Tb.lt → DefX P w K mg base T "can_tell" 2 s_can_tell 7) (d_contents_told : ∀ T : TbT, T.tb = Tb.tb → T.lt = Tb.lt → DefX P w K mg base T "contents_told" 3 s_contents_told 6) (d_failing_rings : ∀ T : TbT, T.tb = Tb.tb → T.lt = Tb.lt → DefX P w K mg base T "failing_rings" 3 s_failing_rings 6) (d_fewest_wrong : ∀ T : TbT, T.tb = Tb.tb → T.lt = Tb.lt → DefX P w K mg base T "fewest_wrong" 2 s_fewest_wrong 6) (d_flood_family : ∀ T : TbT, T.tb = Tb.tb → T.lt = Tb.lt → DefX P w K mg base T "flood_family" 3 s_flood_family 7) (d_flood_kept : ∀ T : TbT, T.tb = Tb.tb → T.lt = Tb.lt → DefX P w K mg base T "flood_kept" 3 s_flood_kept 7) (d_flood_lost_within : ∀ T : TbT, T.tb = Tb.tb → T.lt = Tb.lt → DefX P w K mg base T "flood_lost_within" 3 s_flood_lost_within 7) (d_flood_schemes : ∀ T : TbT, T.tb = Tb.tb → T.lt = Tb.lt → DefX P w K mg base T "flood_schemes" 4 s_flood_schemes 4) (d_is_flood_scheme : ∀ T : TbT, T.tb = Tb.tb → T.lt = Tb.lt → DefX P w K mg base T "is_flood_scheme" 3 s_is_flood_scheme 7) (d_late_kept : ∀ T : TbT, T.tb = Tb.tb → T.lt = Tb.lt → DefX P w K mg base T "late_kept" 3 s_late_kept 7) (d_late_lost_within : ∀ T : TbT, T.tb = Tb.tb → T.lt = Tb.lt → DefX P w K mg base T "late_lost_within" 3 s_late_lost_within 7) (d_mixed_kinds : ∀ T : TbT, T.tb = Tb.tb → T.lt = Tb.lt → DefX P w K mg base T "mixed_kinds" 3 s_mixed_kinds 4) (d_named_kinds : ∀ T : TbT, T.tb = Tb.tb → T.lt = Tb.lt → DefX P w K mg base T "named_kinds" 3 s_named_kinds 4) (d_scheme_number : ∀ T : TbT, T.tb = Tb.tb → T.lt = Tb.lt → DefX P w K mg base T "scheme_number" 2 s_scheme_number 6) (d_scheme_told : ∀ T : TbT, T.tb = Tb.tb → T.lt = Tb.lt → DefX P w K mg base T "scheme_told" 4 s_scheme_told 7) (d_shown : ∀ T : TbT, T.tb = Tb.tb → T.lt = Tb.lt → DefX P w K mg base T "shown" 2 s_shown 6) (c : Addr) (A : Around) (outer : List PySem.Env) (s : Shared) (H : Hp) (E : XK) (T : TbT) (e1 : T.tb = Tb.tb) (e2 : T.lt = Tb.lt) (A2 : Around) (outer2 : List PySem.Env) (s2 : Shared) (H2 : Hp) (E2 : XK) (f2 c2 : Addr) (hr : Room 7 (A2.deeper (LamX.lamEnv (cxOf CX0 P w K mg base ["_law_script", "_law_row", "_law_number", "_law_good", "_law_melts", "_law_late", "_law_wrong", "_law_works", "_law_bits", "_law_found", "_law_work"] "law" (defScope st_law) f (.ref c) A outer s H E).nox (lamAt (defBody st_law) 4).scope s2.heap.objs.size f2 c2))) (C2 : Ctx ((mkF P w K T).to E2) (LamX.lamCx (cxOf CX0 P w K mg base ["_law_script", "_law_row", "_law_number", "_law_good", "_law_melts", "_law_late", "_law_wrong", "_law_works", "_law_bits", "_law_found", "_law_work"] "law" (defScope st_law) f (.ref c) A outer s H E).nox A2 outer2 s2 H2 E2 (lamAt (defBody st_law) 4).scope f2 c2)) (T2 : XTk ((mkF P w K T).to E2) (LamX.lamCx (cxOf CX0 P w K mg base ["_law_script", "_law_row", "_law_number", "_law_good", "_law_melts", "_law_late", "_law_wrong", "_law_works", "_law_bits", "_law_found", "_law_work"] "law" (defScope st_law) f (.ref c) A outer s H E).nox A2 outer2 s2 H2 E2 (lamAt (defBody st_law) 4).scope f2 c2)) :
  PE (LamX.lamCx (cxOf CX0 P w K mg base ["_law_script", "_law_row", "_law_number", "_law_good", "_law_melts", "_law_late", "_law_wrong", "_law_works", "_law_bits", "_law_found", "_law_work"] "law" (defScope st_law) f (.ref c) A outer s H E).nox A2 outer2 s2 H2 E2 (lamAt (defBody st_law) 4).scope f2 c2) (lamAt (defBody st_law) 4).body (tD ((mkF P w K T).to E2) false (lam_law 4)) := by
  have d_l_pick := d_l_pick T e1 e2; have d_can_right := d_can_right T e1 e2; have d_can_tell := d_can_tell T e1 e2; have d_contents_told := d_contents_told T e1 e2; have d_failing_rings := d_failing_rings T e1 e2; have d_fewest_wrong := d_fewest_wrong T e1 e2; have d_flood_family := d_flood_family T e1 e2; have d_flood_kept := d_flood_kept T e1 e2; have d_flood_lost_within := d_flood_lost_within T e1 e2; have d_flood_schemes := d_flood_schemes T e1 e2; have d_is_flood_scheme := d_is_flood_scheme T e1 e2; have d_late_kept := d_late_kept T e1 e2; have d_late_lost_within := d_late_lost_within T e1 e2; have d_mixed_kinds := d_mixed_kinds T e1 e2; have d_named_kinds := d_named_kinds T e1 e2; have d_scheme_number := d_scheme_number T e1 e2; have d_scheme_told := d_scheme_told T e1 e2; have d_shown := d_shown T e1 e2
  exact (ve_callX d_late_kept hr (ha := (db_cons (de_var 3) (db_cons de_int (db_cons (de_var 5) db_nil)))) (hn := (cnt_cons (cnt_cons (cnt_cons cnt_nil)))))
theorem lamOk_5 (d_l_pick : ∀ T : TbT, T.tb = Tb.tb → T.lt = Tb.lt → DefOk P w K mg base T "_law_pick" 2 s_l_pick 2) (d_can_right : ∀ T : TbT, T.tb = Tb.tb → T.lt = Tb.lt → DefX P w K mg base T "can_right" 2 s_can_right 7) (d_can_tell : ∀ T : TbT, T.tb = Tb.tb → T.lt = Tb.lt → DefX P w K mg base T "can_tell" 2 s_can_tell 7) (d_contents_told : ∀ T : TbT, T.tb = Tb.tb → T.lt = Tb.lt → DefX P w K mg base T "contents_told" 3 s_contents_told 6) (d_failing_rings : ∀ T : TbT, T.tb = Tb.tb → T.lt = Tb.lt → DefX P w K mg base T "failing_rings" 3 s_failing_rings 6) (d_fewest_wrong : ∀ T : TbT, T.tb = Tb.tb → T.lt = Tb.lt → DefX P w K mg base T "fewest_wrong" 2 s_fewest_wrong 6) (d_flood_family : ∀ T : TbT, T.tb = Tb.tb → T.lt = Tb.lt → DefX P w K mg base T "flood_family" 3 s_flood_family 7) (d_flood_kept : ∀ T : TbT, T.tb = Tb.tb → T.lt = Tb.lt → DefX P w K mg base T "flood_kept" 3 s_flood_kept 7) (d_flood_lost_within : ∀ T : TbT, T.tb = Tb.tb → T.lt = Tb.lt → DefX P w K mg base T "flood_lost_within" 3 s_flood_lost_within 7) (d_flood_schemes : ∀ T : TbT, T.tb = Tb.tb → T.lt = Tb.lt → DefX P w K mg base T "flood_schemes" 4 s_flood_schemes 4) (d_is_flood_scheme : ∀ T : TbT, T.tb = Tb.tb → T.lt = Tb.lt → DefX P w K mg base T "is_flood_scheme" 3 s_is_flood_scheme 7) (d_late_kept : ∀ T : TbT, T.tb = Tb.tb → T.lt = Tb.lt → DefX P w K mg base T "late_kept" 3 s_late_kept 7) (d_late_lost_within : ∀ T : TbT, T.tb = Tb.tb → T.lt = Tb.lt → DefX P w K mg base T "late_lost_within" 3 s_late_lost_within 7) (d_mixed_kinds : ∀ T : TbT, T.tb = Tb.tb → T.lt = Tb.lt → DefX P w K mg base T "mixed_kinds" 3 s_mixed_kinds 4) (d_named_kinds : ∀ T : TbT, T.tb = Tb.tb → T.lt = Tb.lt → DefX P w K mg base T "named_kinds" 3 s_named_kinds 4) (d_scheme_number : ∀ T : TbT, T.tb = Tb.tb → T.lt = Tb.lt → DefX P w K mg base T "scheme_number" 2 s_scheme_number 6) (d_scheme_told : ∀ T : TbT, T.tb = Tb.tb → T.lt = Tb.lt → DefX P w K mg base T "scheme_told" 4 s_scheme_told 7) (d_shown : ∀ T : TbT, T.tb = Tb.tb → T.lt = Tb.lt → DefX P w K mg base T "shown" 2 s_shown 6) (c : Addr) (A : Around) (outer : List PySem.Env) (s : Shared) (H : Hp) (E : XK) (T : TbT) (e1 : T.tb = Tb.tb) (e2 : T.lt = Tb.lt) (A2 : Around) (outer2 : List PySem.Env) (s2 : Shared) (H2 : Hp) (E2 : XK) (f2 c2 : Addr) (hr : Room 7 (A2.deeper (LamX.lamEnv (cxOf CX0 P w K mg base ["_law_script", "_law_row", "_law_number", "_law_good", "_law_melts", "_law_late", "_law_wrong", "_law_works", "_law_bits", "_law_found", "_law_work"] "law" (defScope st_law) f (.ref c) A outer s H E).nox (lamAt (defBody st_law) 5).scope s2.heap.objs.size f2 c2))) (C2 : Ctx ((mkF P w K T).to E2) (LamX.lamCx (cxOf CX0 P w K mg base ["_law_script", "_law_row", "_law_number", "_law_good", "_law_melts", "_law_late", "_law_wrong", "_law_works", "_law_bits", "_law_found", "_law_work"] "law" (defScope st_law) f (.ref c) A outer s H E).nox A2 outer2 s2 H2 E2 (lamAt (defBody st_law) 5).scope f2 c2)) (T2 : XTk ((mkF P w K T).to E2) (LamX.lamCx (cxOf CX0 P w K mg base ["_law_script", "_law_row", "_law_number", "_law_good", "_law_melts", "_law_late", "_law_wrong", "_law_works", "_law_bits", "_law_found", "_law_work"] "law" (defScope st_law) f (.ref c) A outer s H E).nox A2 outer2 s2 H2 E2 (lamAt (defBody st_law) 5).scope f2 c2)) :
  PE (LamX.lamCx (cxOf CX0 P w K mg base ["_law_script", "_law_row", "_law_number", "_law_good", "_law_melts", "_law_late", "_law_wrong", "_law_works", "_law_bits", "_law_found", "_law_work"] "law" (defScope st_law) f (.ref c) A outer s H E).nox A2 outer2 s2 H2 E2 (lamAt (defBody st_law) 5).scope f2 c2) (lamAt (defBody st_law) 5).body (tD ((mkF P w K T).to E2) false (lam_law 5)) := by
  have d_l_pick := d_l_pick T e1 e2; have d_can_right := d_can_right T e1 e2; have d_can_tell := d_can_tell T e1 e2; have d_contents_told := d_contents_told T e1 e2; have d_failing_rings := d_failing_rings T e1 e2; have d_fewest_wrong := d_fewest_wrong T e1 e2; have d_flood_family := d_flood_family T e1 e2; have d_flood_kept := d_flood_kept T e1 e2; have d_flood_lost_within := d_flood_lost_within T e1 e2; have d_flood_schemes := d_flood_schemes T e1 e2; have d_is_flood_scheme := d_is_flood_scheme T e1 e2; have d_late_kept := d_late_kept T e1 e2; have d_late_lost_within := d_late_lost_within T e1 e2; have d_mixed_kinds := d_mixed_kinds T e1 e2; have d_named_kinds := d_named_kinds T e1 e2; have d_scheme_number := d_scheme_number T e1 e2; have d_scheme_told := d_scheme_told T e1 e2; have d_shown := d_shown T e1 e2
  exact (ve_callX d_late_lost_within hr (ha := (db_cons (de_tup (db_cons de_int (db_cons (de_tup (db_cons (de_tup db_nil few_nil) db_nil) (few_cons few_nil)) db_nil)) (few_cons (few_cons few_nil))) (db_cons de_int (db_cons de_int db_nil)))) (hn := (cnt_cons (cnt_cons (cnt_cons cnt_nil)))))
theorem lamOk_6 (d_l_pick : ∀ T : TbT, T.tb = Tb.tb → T.lt = Tb.lt → DefOk P w K mg base T "_law_pick" 2 s_l_pick 2) (d_can_right : ∀ T : TbT, T.tb = Tb.tb → T.lt = Tb.lt → DefX P w K mg base T "can_right" 2 s_can_right 7) (d_can_tell : ∀ T : TbT, T.tb = Tb.tb → T.lt = Tb.lt → DefX P w K mg base T "can_tell" 2 s_can_tell 7) (d_contents_told : ∀ T : TbT, T.tb = Tb.tb → T.lt = Tb.lt → DefX P w K mg base T "contents_told" 3 s_contents_told 6) (d_failing_rings : ∀ T : TbT, T.tb = Tb.tb → T.lt = Tb.lt → DefX P w K mg base T "failing_rings" 3 s_failing_rings 6) (d_fewest_wrong : ∀ T : TbT, T.tb = Tb.tb → T.lt = Tb.lt → DefX P w K mg base T "fewest_wrong" 2 s_fewest_wrong 6) (d_flood_family : ∀ T : TbT, T.tb = Tb.tb → T.lt = Tb.lt → DefX P w K mg base T "flood_family" 3 s_flood_family 7) (d_flood_kept : ∀ T : TbT, T.tb = Tb.tb → T.lt = Tb.lt → DefX P w K mg base T "flood_kept" 3 s_flood_kept 7) (d_flood_lost_within : ∀ T : TbT, T.tb = Tb.tb → T.lt = Tb.lt → DefX P w K mg base T "flood_lost_within" 3 s_flood_lost_within 7) (d_flood_schemes : ∀ T : TbT, T.tb = Tb.tb → T.lt = Tb.lt → DefX P w K mg base T "flood_schemes" 4 s_flood_schemes 4) (d_is_flood_scheme : ∀ T : TbT, T.tb = Tb.tb → T.lt = Tb.lt → DefX P w K mg base T "is_flood_scheme" 3 s_is_flood_scheme 7) (d_late_kept : ∀ T : TbT, T.tb = Tb.tb → T.lt = Tb.lt → DefX P w K mg base T "late_kept" 3 s_late_kept 7) (d_late_lost_within : ∀ T : TbT, T.tb = Tb.tb → T.lt = Tb.lt → DefX P w K mg base T "late_lost_within" 3 s_late_lost_within 7) (d_mixed_kinds : ∀ T : TbT, T.tb = Tb.tb → T.lt = Tb.lt → DefX P w K mg base T "mixed_kinds" 3 s_mixed_kinds 4) (d_named_kinds : ∀ T : TbT, T.tb = Tb.tb → T.lt = Tb.lt → DefX P w K mg base T "named_kinds" 3 s_named_kinds 4) (d_scheme_number : ∀ T : TbT, T.tb = Tb.tb → T.lt = Tb.lt → DefX P w K mg base T "scheme_number" 2 s_scheme_number 6) (d_scheme_told : ∀ T : TbT, T.tb = Tb.tb → T.lt = Tb.lt → DefX P w K mg base T "scheme_told" 4 s_scheme_told 7) (d_shown : ∀ T : TbT, T.tb = Tb.tb → T.lt = Tb.lt → DefX P w K mg base T "shown" 2 s_shown 6) (c : Addr) (A : Around) (outer : List PySem.Env) (s : Shared) (H : Hp) (E : XK) (T : TbT) (e1 : T.tb = Tb.tb) (e2 : T.lt = Tb.lt) (A2 : Around) (outer2 : List PySem.Env) (s2 : Shared) (H2 : Hp) (E2 : XK) (f2 c2 : Addr) (hr : Room 7 (A2.deeper (LamX.lamEnv (cxOf CX0 P w K mg base ["_law_script", "_law_row", "_law_number", "_law_good", "_law_melts", "_law_late", "_law_wrong", "_law_works", "_law_bits", "_law_found", "_law_work"] "law" (defScope st_law) f (.ref c) A outer s H E).nox (lamAt (defBody st_law) 6).scope s2.heap.objs.size f2 c2))) (C2 : Ctx ((mkF P w K T).to E2) (LamX.lamCx (cxOf CX0 P w K mg base ["_law_script", "_law_row", "_law_number", "_law_good", "_law_melts", "_law_late", "_law_wrong", "_law_works", "_law_bits", "_law_found", "_law_work"] "law" (defScope st_law) f (.ref c) A outer s H E).nox A2 outer2 s2 H2 E2 (lamAt (defBody st_law) 6).scope f2 c2)) (T2 : XTk ((mkF P w K T).to E2) (LamX.lamCx (cxOf CX0 P w K mg base ["_law_script", "_law_row", "_law_number", "_law_good", "_law_melts", "_law_late", "_law_wrong", "_law_works", "_law_bits", "_law_found", "_law_work"] "law" (defScope st_law) f (.ref c) A outer s H E).nox A2 outer2 s2 H2 E2 (lamAt (defBody st_law) 6).scope f2 c2)) :
  PE (LamX.lamCx (cxOf CX0 P w K mg base ["_law_script", "_law_row", "_law_number", "_law_good", "_law_melts", "_law_late", "_law_wrong", "_law_works", "_law_bits", "_law_found", "_law_work"] "law" (defScope st_law) f (.ref c) A outer s H E).nox A2 outer2 s2 H2 E2 (lamAt (defBody st_law) 6).scope f2 c2) (lamAt (defBody st_law) 6).body (tD ((mkF P w K T).to E2) false (lam_law 6)) := by
  have d_l_pick := d_l_pick T e1 e2; have d_can_right := d_can_right T e1 e2; have d_can_tell := d_can_tell T e1 e2; have d_contents_told := d_contents_told T e1 e2; have d_failing_rings := d_failing_rings T e1 e2; have d_fewest_wrong := d_fewest_wrong T e1 e2; have d_flood_family := d_flood_family T e1 e2; have d_flood_kept := d_flood_kept T e1 e2; have d_flood_lost_within := d_flood_lost_within T e1 e2; have d_flood_schemes := d_flood_schemes T e1 e2; have d_is_flood_scheme := d_is_flood_scheme T e1 e2; have d_late_kept := d_late_kept T e1 e2; have d_late_lost_within := d_late_lost_within T e1 e2; have d_mixed_kinds := d_mixed_kinds T e1 e2; have d_named_kinds := d_named_kinds T e1 e2; have d_scheme_number := d_scheme_number T e1 e2; have d_scheme_told := d_scheme_told T e1 e2; have d_shown := d_shown T e1 e2
  exact (ve_callX d_can_tell hr (ha := (db_cons (de_var 3) (db_cons (de_var 6) db_nil))) (hn := (cnt_cons (cnt_cons cnt_nil))))
theorem lamOk_7 (d_l_pick : ∀ T : TbT, T.tb = Tb.tb → T.lt = Tb.lt → DefOk P w K mg base T "_law_pick" 2 s_l_pick 2) (d_can_right : ∀ T : TbT, T.tb = Tb.tb → T.lt = Tb.lt → DefX P w K mg base T "can_right" 2 s_can_right 7) (d_can_tell : ∀ T : TbT, T.tb = Tb.tb → T.lt = Tb.lt → DefX P w K mg base T "can_tell" 2 s_can_tell 7) (d_contents_told : ∀ T : TbT, T.tb = Tb.tb → T.lt = Tb.lt → DefX P w K mg base T "contents_told" 3 s_contents_told 6) (d_failing_rings : ∀ T : TbT, T.tb = Tb.tb → T.lt = Tb.lt → DefX P w K mg base T "failing_rings" 3 s_failing_rings 6) (d_fewest_wrong : ∀ T : TbT, T.tb = Tb.tb → T.lt = Tb.lt → DefX P w K mg base T "fewest_wrong" 2 s_fewest_wrong 6) (d_flood_family : ∀ T : TbT, T.tb = Tb.tb → T.lt = Tb.lt → DefX P w K mg base T "flood_family" 3 s_flood_family 7) (d_flood_kept : ∀ T : TbT, T.tb = Tb.tb → T.lt = Tb.lt → DefX P w K mg base T "flood_kept" 3 s_flood_kept 7) (d_flood_lost_within : ∀ T : TbT, T.tb = Tb.tb → T.lt = Tb.lt → DefX P w K mg base T "flood_lost_within" 3 s_flood_lost_within 7) (d_flood_schemes : ∀ T : TbT, T.tb = Tb.tb → T.lt = Tb.lt → DefX P w K mg base T "flood_schemes" 4 s_flood_schemes 4) (d_is_flood_scheme : ∀ T : TbT, T.tb = Tb.tb → T.lt = Tb.lt → DefX P w K mg base T "is_flood_scheme" 3 s_is_flood_scheme 7) (d_late_kept : ∀ T : TbT, T.tb = Tb.tb → T.lt = Tb.lt → DefX P w K mg base T "late_kept" 3 s_late_kept 7) (d_late_lost_within : ∀ T : TbT, T.tb = Tb.tb → T.lt = Tb.lt → DefX P w K mg base T "late_lost_within" 3 s_late_lost_within 7) (d_mixed_kinds : ∀ T : TbT, T.tb = Tb.tb → T.lt = Tb.lt → DefX P w K mg base T "mixed_kinds" 3 s_mixed_kinds 4) (d_named_kinds : ∀ T : TbT, T.tb = Tb.tb → T.lt = Tb.lt → DefX P w K mg base T "named_kinds" 3 s_named_kinds 4) (d_scheme_number : ∀ T : TbT, T.tb = Tb.tb → T.lt = Tb.lt → DefX P w K mg base T "scheme_number" 2 s_scheme_number 6) (d_scheme_told : ∀ T : TbT, T.tb = Tb.tb → T.lt = Tb.lt → DefX P w K mg base T "scheme_told" 4 s_scheme_told 7) (d_shown : ∀ T : TbT, T.tb = Tb.tb → T.lt = Tb.lt → DefX P w K mg base T "shown" 2 s_shown 6) (c : Addr) (A : Around) (outer : List PySem.Env) (s : Shared) (H : Hp) (E : XK) (T : TbT) (e1 : T.tb = Tb.tb) (e2 : T.lt = Tb.lt) (A2 : Around) (outer2 : List PySem.Env) (s2 : Shared) (H2 : Hp) (E2 : XK) (f2 c2 : Addr) (hr : Room 7 (A2.deeper (LamX.lamEnv (cxOf CX0 P w K mg base ["_law_script", "_law_row", "_law_number", "_law_good", "_law_melts", "_law_late", "_law_wrong", "_law_works", "_law_bits", "_law_found", "_law_work"] "law" (defScope st_law) f (.ref c) A outer s H E).nox (lamAt (defBody st_law) 7).scope s2.heap.objs.size f2 c2))) (C2 : Ctx ((mkF P w K T).to E2) (LamX.lamCx (cxOf CX0 P w K mg base ["_law_script", "_law_row", "_law_number", "_law_good", "_law_melts", "_law_late", "_law_wrong", "_law_works", "_law_bits", "_law_found", "_law_work"] "law" (defScope st_law) f (.ref c) A outer s H E).nox A2 outer2 s2 H2 E2 (lamAt (defBody st_law) 7).scope f2 c2)) (T2 : XTk ((mkF P w K T).to E2) (LamX.lamCx (cxOf CX0 P w K mg base ["_law_script", "_law_row", "_law_number", "_law_good", "_law_melts", "_law_late", "_law_wrong", "_law_works", "_law_bits", "_law_found", "_law_work"] "law" (defScope st_law) f (.ref c) A outer s H E).nox A2 outer2 s2 H2 E2 (lamAt (defBody st_law) 7).scope f2 c2)) :
  PE (LamX.lamCx (cxOf CX0 P w K mg base ["_law_script", "_law_row", "_law_number", "_law_good", "_law_melts", "_law_late", "_law_wrong", "_law_works", "_law_bits", "_law_found", "_law_work"] "law" (defScope st_law) f (.ref c) A outer s H E).nox A2 outer2 s2 H2 E2 (lamAt (defBody st_law) 7).scope f2 c2) (lamAt (defBody st_law) 7).body (tD ((mkF P w K T).to E2) false (lam_law 7)) := by
  have d_l_pick := d_l_pick T e1 e2; have d_can_right := d_can_right T e1 e2; have d_can_tell := d_can_tell T e1 e2; have d_contents_told := d_contents_told T e1 e2; have d_failing_rings := d_failing_rings T e1 e2; have d_fewest_wrong := d_fewest_wrong T e1 e2; have d_flood_family := d_flood_family T e1 e2; have d_flood_kept := d_flood_kept T e1 e2; have d_flood_lost_within := d_flood_lost_within T e1 e2; have d_flood_schemes := d_flood_schemes T e1 e2; have d_is_flood_scheme := d_is_flood_scheme T e1 e2; have d_late_kept := d_late_kept T e1 e2; have d_late_lost_within := d_late_lost_within T e1 e2; have d_mixed_kinds := d_mixed_kinds T e1 e2; have d_named_kinds := d_named_kinds T e1 e2; have d_scheme_number := d_scheme_number T e1 e2; have d_scheme_told := d_scheme_told T e1 e2; have d_shown := d_shown T e1 e2
  exact (ve_callX d_can_right hr (ha := (db_cons (de_var 3) (db_cons (de_var 6) db_nil))) (hn := (cnt_cons (cnt_cons cnt_nil))))
theorem lamOk_8 (d_l_pick : ∀ T : TbT, T.tb = Tb.tb → T.lt = Tb.lt → DefOk P w K mg base T "_law_pick" 2 s_l_pick 2) (d_can_right : ∀ T : TbT, T.tb = Tb.tb → T.lt = Tb.lt → DefX P w K mg base T "can_right" 2 s_can_right 7) (d_can_tell : ∀ T : TbT, T.tb = Tb.tb → T.lt = Tb.lt → DefX P w K mg base T "can_tell" 2 s_can_tell 7) (d_contents_told : ∀ T : TbT, T.tb = Tb.tb → T.lt = Tb.lt → DefX P w K mg base T "contents_told" 3 s_contents_told 6) (d_failing_rings : ∀ T : TbT, T.tb = Tb.tb → T.lt = Tb.lt → DefX P w K mg base T "failing_rings" 3 s_failing_rings 6) (d_fewest_wrong : ∀ T : TbT, T.tb = Tb.tb → T.lt = Tb.lt → DefX P w K mg base T "fewest_wrong" 2 s_fewest_wrong 6) (d_flood_family : ∀ T : TbT, T.tb = Tb.tb → T.lt = Tb.lt → DefX P w K mg base T "flood_family" 3 s_flood_family 7) (d_flood_kept : ∀ T : TbT, T.tb = Tb.tb → T.lt = Tb.lt → DefX P w K mg base T "flood_kept" 3 s_flood_kept 7) (d_flood_lost_within : ∀ T : TbT, T.tb = Tb.tb → T.lt = Tb.lt → DefX P w K mg base T "flood_lost_within" 3 s_flood_lost_within 7) (d_flood_schemes : ∀ T : TbT, T.tb = Tb.tb → T.lt = Tb.lt → DefX P w K mg base T "flood_schemes" 4 s_flood_schemes 4) (d_is_flood_scheme : ∀ T : TbT, T.tb = Tb.tb → T.lt = Tb.lt → DefX P w K mg base T "is_flood_scheme" 3 s_is_flood_scheme 7) (d_late_kept : ∀ T : TbT, T.tb = Tb.tb → T.lt = Tb.lt → DefX P w K mg base T "late_kept" 3 s_late_kept 7) (d_late_lost_within : ∀ T : TbT, T.tb = Tb.tb → T.lt = Tb.lt → DefX P w K mg base T "late_lost_within" 3 s_late_lost_within 7) (d_mixed_kinds : ∀ T : TbT, T.tb = Tb.tb → T.lt = Tb.lt → DefX P w K mg base T "mixed_kinds" 3 s_mixed_kinds 4) (d_named_kinds : ∀ T : TbT, T.tb = Tb.tb → T.lt = Tb.lt → DefX P w K mg base T "named_kinds" 3 s_named_kinds 4) (d_scheme_number : ∀ T : TbT, T.tb = Tb.tb → T.lt = Tb.lt → DefX P w K mg base T "scheme_number" 2 s_scheme_number 6) (d_scheme_told : ∀ T : TbT, T.tb = Tb.tb → T.lt = Tb.lt → DefX P w K mg base T "scheme_told" 4 s_scheme_told 7) (d_shown : ∀ T : TbT, T.tb = Tb.tb → T.lt = Tb.lt → DefX P w K mg base T "shown" 2 s_shown 6) (c : Addr) (A : Around) (outer : List PySem.Env) (s : Shared) (H : Hp) (E : XK) (T : TbT) (e1 : T.tb = Tb.tb) (e2 : T.lt = Tb.lt) (A2 : Around) (outer2 : List PySem.Env) (s2 : Shared) (H2 : Hp) (E2 : XK) (f2 c2 : Addr) (hr : Room 7 (A2.deeper (LamX.lamEnv (cxOf CX0 P w K mg base ["_law_script", "_law_row", "_law_number", "_law_good", "_law_melts", "_law_late", "_law_wrong", "_law_works", "_law_bits", "_law_found", "_law_work"] "law" (defScope st_law) f (.ref c) A outer s H E).nox (lamAt (defBody st_law) 8).scope s2.heap.objs.size f2 c2))) (C2 : Ctx ((mkF P w K T).to E2) (LamX.lamCx (cxOf CX0 P w K mg base ["_law_script", "_law_row", "_law_number", "_law_good", "_law_melts", "_law_late", "_law_wrong", "_law_works", "_law_bits", "_law_found", "_law_work"] "law" (defScope st_law) f (.ref c) A outer s H E).nox A2 outer2 s2 H2 E2 (lamAt (defBody st_law) 8).scope f2 c2)) (T2 : XTk ((mkF P w K T).to E2) (LamX.lamCx (cxOf CX0 P w K mg base ["_law_script", "_law_row", "_law_number", "_law_good", "_law_melts", "_law_late", "_law_wrong", "_law_works", "_law_bits", "_law_found", "_law_work"] "law" (defScope st_law) f (.ref c) A outer s H E).nox A2 outer2 s2 H2 E2 (lamAt (defBody st_law) 8).scope f2 c2)) :
  PE (LamX.lamCx (cxOf CX0 P w K mg base ["_law_script", "_law_row", "_law_number", "_law_good", "_law_melts", "_law_late", "_law_wrong", "_law_works", "_law_bits", "_law_found", "_law_work"] "law" (defScope st_law) f (.ref c) A outer s H E).nox A2 outer2 s2 H2 E2 (lamAt (defBody st_law) 8).scope f2 c2) (lamAt (defBody st_law) 8).body (tD ((mkF P w K T).to E2) false (lam_law 8)) := by
  have d_l_pick := d_l_pick T e1 e2; have d_can_right := d_can_right T e1 e2; have d_can_tell := d_can_tell T e1 e2; have d_contents_told := d_contents_told T e1 e2; have d_failing_rings := d_failing_rings T e1 e2; have d_fewest_wrong := d_fewest_wrong T e1 e2; have d_flood_family := d_flood_family T e1 e2; have d_flood_kept := d_flood_kept T e1 e2; have d_flood_lost_within := d_flood_lost_within T e1 e2; have d_flood_schemes := d_flood_schemes T e1 e2; have d_is_flood_scheme := d_is_flood_scheme T e1 e2; have d_late_kept := d_late_kept T e1 e2; have d_late_lost_within := d_late_lost_within T e1 e2; have d_mixed_kinds := d_mixed_kinds T e1 e2; have d_named_kinds := d_named_kinds T e1 e2; have d_scheme_number := d_scheme_number T e1 e2; have d_scheme_told := d_scheme_told T e1 e2; have d_shown := d_shown T e1 e2
  exact (ve_callX d_contents_told hr (ha := (db_cons (de_var 3) (db_cons (de_tup (db_cons de_int (db_cons de_int (db_cons de_int db_nil))) (few_cons (few_cons (few_cons few_nil)))) (db_cons (de_var 6) db_nil)))) (hn := (cnt_cons (cnt_cons (cnt_cons cnt_nil)))))
theorem lamOk_9 (d_l_pick : ∀ T : TbT, T.tb = Tb.tb → T.lt = Tb.lt → DefOk P w K mg base T "_law_pick" 2 s_l_pick 2) (d_can_right : ∀ T : TbT, T.tb = Tb.tb → T.lt = Tb.lt → DefX P w K mg base T "can_right" 2 s_can_right 7) (d_can_tell : ∀ T : TbT, T.tb = Tb.tb → T.lt = Tb.lt → DefX P w K mg base T "can_tell" 2 s_can_tell 7) (d_contents_told : ∀ T : TbT, T.tb = Tb.tb → T.lt = Tb.lt → DefX P w K mg base T "contents_told" 3 s_contents_told 6) (d_failing_rings : ∀ T : TbT, T.tb = Tb.tb → T.lt = Tb.lt → DefX P w K mg base T "failing_rings" 3 s_failing_rings 6) (d_fewest_wrong : ∀ T : TbT, T.tb = Tb.tb → T.lt = Tb.lt → DefX P w K mg base T "fewest_wrong" 2 s_fewest_wrong 6) (d_flood_family : ∀ T : TbT, T.tb = Tb.tb → T.lt = Tb.lt → DefX P w K mg base T "flood_family" 3 s_flood_family 7) (d_flood_kept : ∀ T : TbT, T.tb = Tb.tb → T.lt = Tb.lt → DefX P w K mg base T "flood_kept" 3 s_flood_kept 7) (d_flood_lost_within : ∀ T : TbT, T.tb = Tb.tb → T.lt = Tb.lt → DefX P w K mg base T "flood_lost_within" 3 s_flood_lost_within 7) (d_flood_schemes : ∀ T : TbT, T.tb = Tb.tb → T.lt = Tb.lt → DefX P w K mg base T "flood_schemes" 4 s_flood_schemes 4) (d_is_flood_scheme : ∀ T : TbT, T.tb = Tb.tb → T.lt = Tb.lt → DefX P w K mg base T "is_flood_scheme" 3 s_is_flood_scheme 7) (d_late_kept : ∀ T : TbT, T.tb = Tb.tb → T.lt = Tb.lt → DefX P w K mg base T "late_kept" 3 s_late_kept 7) (d_late_lost_within : ∀ T : TbT, T.tb = Tb.tb → T.lt = Tb.lt → DefX P w K mg base T "late_lost_within" 3 s_late_lost_within 7) (d_mixed_kinds : ∀ T : TbT, T.tb = Tb.tb → T.lt = Tb.lt → DefX P w K mg base T "mixed_kinds" 3 s_mixed_kinds 4) (d_named_kinds : ∀ T : TbT, T.tb = Tb.tb → T.lt = Tb.lt → DefX P w K mg base T "named_kinds" 3 s_named_kinds 4) (d_scheme_number : ∀ T : TbT, T.tb = Tb.tb → T.lt = Tb.lt → DefX P w K mg base T "scheme_number" 2 s_scheme_number 6) (d_scheme_told : ∀ T : TbT, T.tb = Tb.tb → T.lt = Tb.lt → DefX P w K mg base T "scheme_told" 4 s_scheme_told 7) (d_shown : ∀ T : TbT, T.tb = Tb.tb → T.lt = Tb.lt → DefX P w K mg base T "shown" 2 s_shown 6) (c : Addr) (A : Around) (outer : List PySem.Env) (s : Shared) (H : Hp) (E : XK) (T : TbT) (e1 : T.tb = Tb.tb) (e2 : T.lt = Tb.lt) (A2 : Around) (outer2 : List PySem.Env) (s2 : Shared) (H2 : Hp) (E2 : XK) (f2 c2 : Addr) (hr : Room 7 (A2.deeper (LamX.lamEnv (cxOf CX0 P w K mg base ["_law_script", "_law_row", "_law_number", "_law_good", "_law_melts", "_law_late", "_law_wrong", "_law_works", "_law_bits", "_law_found", "_law_work"] "law" (defScope st_law) f (.ref c) A outer s H E).nox (lamAt (defBody st_law) 9).scope s2.heap.objs.size f2 c2))) (C2 : Ctx ((mkF P w K T).to E2) (LamX.lamCx (cxOf CX0 P w K mg base ["_law_script", "_law_row", "_law_number", "_law_good", "_law_melts", "_law_late", "_law_wrong", "_law_works", "_law_bits", "_law_found", "_law_work"] "law" (defScope st_law) f (.ref c) A outer s H E).nox A2 outer2 s2 H2 E2 (lamAt (defBody st_law) 9).scope f2 c2)) (T2 : XTk ((mkF P w K T).to E2) (LamX.lamCx (cxOf CX0 P w K mg base ["_law_script", "_law_row", "_law_number", "_law_good", "_law_melts", "_law_late", "_law_wrong", "_law_works", "_law_bits", "_law_found", "_law_work"] "law" (defScope st_law) f (.ref c) A outer s H E).nox A2 outer2 s2 H2 E2 (lamAt (defBody st_law) 9).scope f2 c2)) :
  PE (LamX.lamCx (cxOf CX0 P w K mg base ["_law_script", "_law_row", "_law_number", "_law_good", "_law_melts", "_law_late", "_law_wrong", "_law_works", "_law_bits", "_law_found", "_law_work"] "law" (defScope st_law) f (.ref c) A outer s H E).nox A2 outer2 s2 H2 E2 (lamAt (defBody st_law) 9).scope f2 c2) (lamAt (defBody st_law) 9).body (tD ((mkF P w K T).to E2) false (lam_law 9)) := by
  have d_l_pick := d_l_pick T e1 e2; have d_can_right := d_can_right T e1 e2; have d_can_tell := d_can_tell T e1 e2; have d_contents_told := d_contents_told T e1 e2; have d_failing_rings := d_failing_rings T e1 e2; have d_fewest_wrong := d_fewest_wrong T e1 e2; have d_flood_family := d_flood_family T e1 e2; have d_flood_kept := d_flood_kept T e1 e2; have d_flood_lost_within := d_flood_lost_within T e1 e2; have d_flood_schemes := d_flood_schemes T e1 e2; have d_is_flood_scheme := d_is_flood_scheme T e1 e2; have d_late_kept := d_late_kept T e1 e2; have d_late_lost_within := d_late_lost_within T e1 e2; have d_mixed_kinds := d_mixed_kinds T e1 e2; have d_named_kinds := d_named_kinds T e1 e2; have d_scheme_number := d_scheme_number T e1 e2; have d_scheme_told := d_scheme_told T e1 e2; have d_shown := d_shown T e1 e2
  exact (ve_callX d_named_kinds hr (ha := (db_cons (de_var 2) (db_cons de_non (db_cons de_non db_nil)))) (hn := (cnt_cons (cnt_cons (cnt_cons cnt_nil)))))
theorem lamOk_10 (d_l_pick : ∀ T : TbT, T.tb = Tb.tb → T.lt = Tb.lt → DefOk P w K mg base T "_law_pick" 2 s_l_pick 2) (d_can_right : ∀ T : TbT, T.tb = Tb.tb → T.lt = Tb.lt → DefX P w K mg base T "can_right" 2 s_can_right 7) (d_can_tell : ∀ T : TbT, T.tb = Tb.tb → T.lt = Tb.lt → DefX P w K mg base T "can_tell" 2 s_can_tell 7) (d_contents_told : ∀ T : TbT, T.tb = Tb.tb → T.lt = Tb.lt → DefX P w K mg base T "contents_told" 3 s_contents_told 6) (d_failing_rings : ∀ T : TbT, T.tb = Tb.tb → T.lt = Tb.lt → DefX P w K mg base T "failing_rings" 3 s_failing_rings 6) (d_fewest_wrong : ∀ T : TbT, T.tb = Tb.tb → T.lt = Tb.lt → DefX P w K mg base T "fewest_wrong" 2 s_fewest_wrong 6) (d_flood_family : ∀ T : TbT, T.tb = Tb.tb → T.lt = Tb.lt → DefX P w K mg base T "flood_family" 3 s_flood_family 7) (d_flood_kept : ∀ T : TbT, T.tb = Tb.tb → T.lt = Tb.lt → DefX P w K mg base T "flood_kept" 3 s_flood_kept 7) (d_flood_lost_within : ∀ T : TbT, T.tb = Tb.tb → T.lt = Tb.lt → DefX P w K mg base T "flood_lost_within" 3 s_flood_lost_within 7) (d_flood_schemes : ∀ T : TbT, T.tb = Tb.tb → T.lt = Tb.lt → DefX P w K mg base T "flood_schemes" 4 s_flood_schemes 4) (d_is_flood_scheme : ∀ T : TbT, T.tb = Tb.tb → T.lt = Tb.lt → DefX P w K mg base T "is_flood_scheme" 3 s_is_flood_scheme 7) (d_late_kept : ∀ T : TbT, T.tb = Tb.tb → T.lt = Tb.lt → DefX P w K mg base T "late_kept" 3 s_late_kept 7) (d_late_lost_within : ∀ T : TbT, T.tb = Tb.tb → T.lt = Tb.lt → DefX P w K mg base T "late_lost_within" 3 s_late_lost_within 7) (d_mixed_kinds : ∀ T : TbT, T.tb = Tb.tb → T.lt = Tb.lt → DefX P w K mg base T "mixed_kinds" 3 s_mixed_kinds 4) (d_named_kinds : ∀ T : TbT, T.tb = Tb.tb → T.lt = Tb.lt → DefX P w K mg base T "named_kinds" 3 s_named_kinds 4) (d_scheme_number : ∀ T : TbT, T.tb = Tb.tb → T.lt = Tb.lt → DefX P w K mg base T "scheme_number" 2 s_scheme_number 6) (d_scheme_told : ∀ T : TbT, T.tb = Tb.tb → T.lt = Tb.lt → DefX P w K mg base T "scheme_told" 4 s_scheme_told 7) (d_shown : ∀ T : TbT, T.tb = Tb.tb → T.lt = Tb.lt → DefX P w K mg base T "shown" 2 s_shown 6) (c : Addr) (A : Around) (outer : List PySem.Env) (s : Shared) (H : Hp) (E : XK) (T : TbT) (e1 : T.tb = Tb.tb) (e2 : T.lt = Tb.lt) (A2 : Around) (outer2 : List PySem.Env) (s2 : Shared) (H2 : Hp) (E2 : XK) (f2 c2 : Addr) (hr : Room 7 (A2.deeper (LamX.lamEnv (cxOf CX0 P w K mg base ["_law_script", "_law_row", "_law_number", "_law_good", "_law_melts", "_law_late", "_law_wrong", "_law_works", "_law_bits", "_law_found", "_law_work"] "law" (defScope st_law) f (.ref c) A outer s H E).nox (lamAt (defBody st_law) 10).scope s2.heap.objs.size f2 c2))) (C2 : Ctx ((mkF P w K T).to E2) (LamX.lamCx (cxOf CX0 P w K mg base ["_law_script", "_law_row", "_law_number", "_law_good", "_law_melts", "_law_late", "_law_wrong", "_law_works", "_law_bits", "_law_found", "_law_work"] "law" (defScope st_law) f (.ref c) A outer s H E).nox A2 outer2 s2 H2 E2 (lamAt (defBody st_law) 10).scope f2 c2)) (T2 : XTk ((mkF P w K T).to E2) (LamX.lamCx (cxOf CX0 P w K mg base ["_law_script", "_law_row", "_law_number", "_law_good", "_law_melts", "_law_late", "_law_wrong", "_law_works", "_law_bits", "_law_found", "_law_work"] "law" (defScope st_law) f (.ref c) A outer s H E).nox A2 outer2 s2 H2 E2 (lamAt (defBody st_law) 10).scope f2 c2)) :
  PE (LamX.lamCx (cxOf CX0 P w K mg base ["_law_script", "_law_row", "_law_number", "_law_good", "_law_melts", "_law_late", "_law_wrong", "_law_works", "_law_bits", "_law_found", "_law_work"] "law" (defScope st_law) f (.ref c) A outer s H E).nox A2 outer2 s2 H2 E2 (lamAt (defBody st_law) 10).scope f2 c2) (lamAt (defBody st_law) 10).body (tD ((mkF P w K T).to E2) false (lam_law 10)) := by
  have d_l_pick := d_l_pick T e1 e2; have d_can_right := d_can_right T e1 e2; have d_can_tell := d_can_tell T e1 e2; have d_contents_told := d_contents_told T e1 e2; have d_failing_rings := d_failing_rings T e1 e2; have d_fewest_wrong := d_fewest_wrong T e1 e2; have d_flood_family := d_flood_family T e1 e2; have d_flood_kept := d_flood_kept T e1 e2; have d_flood_lost_within := d_flood_lost_within T e1 e2; have d_flood_schemes := d_flood_schemes T e1 e2; have d_is_flood_scheme := d_is_flood_scheme T e1 e2; have d_late_kept := d_late_kept T e1 e2; have d_late_lost_within := d_late_lost_within T e1 e2; have d_mixed_kinds := d_mixed_kinds T e1 e2; have d_named_kinds := d_named_kinds T e1 e2; have d_scheme_number := d_scheme_number T e1 e2; have d_scheme_told := d_scheme_told T e1 e2; have d_shown := d_shown T e1 e2
  exact (ve_callX d_mixed_kinds hr (ha := (db_cons de_int (db_cons (de_var 2) (db_cons de_non db_nil)))) (hn := (cnt_cons (cnt_cons (cnt_cons cnt_nil)))))
theorem lamOk_11 (d_l_pick : ∀ T : TbT, T.tb = Tb.tb → T.lt = Tb.lt → DefOk P w K mg base T "_law_pick" 2 s_l_pick 2) (d_can_right : ∀ T : TbT, T.tb = Tb.tb → T.lt = Tb.lt → DefX P w K mg base T "can_right" 2 s_can_right 7) (d_can_tell : ∀ T : TbT, T.tb = Tb.tb → T.lt = Tb.lt → DefX P w K mg base T "can_tell" 2 s_can_tell 7) (d_contents_told : ∀ T : TbT, T.tb = Tb.tb → T.lt = Tb.lt → DefX P w K mg base T "contents_told" 3 s_contents_told 6) (d_failing_rings : ∀ T : TbT, T.tb = Tb.tb → T.lt = Tb.lt → DefX P w K mg base T "failing_rings" 3 s_failing_rings 6) (d_fewest_wrong : ∀ T : TbT, T.tb = Tb.tb → T.lt = Tb.lt → DefX P w K mg base T "fewest_wrong" 2 s_fewest_wrong 6) (d_flood_family : ∀ T : TbT, T.tb = Tb.tb → T.lt = Tb.lt → DefX P w K mg base T "flood_family" 3 s_flood_family 7) (d_flood_kept : ∀ T : TbT, T.tb = Tb.tb → T.lt = Tb.lt → DefX P w K mg base T "flood_kept" 3 s_flood_kept 7) (d_flood_lost_within : ∀ T : TbT, T.tb = Tb.tb → T.lt = Tb.lt → DefX P w K mg base T "flood_lost_within" 3 s_flood_lost_within 7) (d_flood_schemes : ∀ T : TbT, T.tb = Tb.tb → T.lt = Tb.lt → DefX P w K mg base T "flood_schemes" 4 s_flood_schemes 4) (d_is_flood_scheme : ∀ T : TbT, T.tb = Tb.tb → T.lt = Tb.lt → DefX P w K mg base T "is_flood_scheme" 3 s_is_flood_scheme 7) (d_late_kept : ∀ T : TbT, T.tb = Tb.tb → T.lt = Tb.lt → DefX P w K mg base T "late_kept" 3 s_late_kept 7) (d_late_lost_within : ∀ T : TbT, T.tb = Tb.tb → T.lt = Tb.lt → DefX P w K mg base T "late_lost_within" 3 s_late_lost_within 7) (d_mixed_kinds : ∀ T : TbT, T.tb = Tb.tb → T.lt = Tb.lt → DefX P w K mg base T "mixed_kinds" 3 s_mixed_kinds 4) (d_named_kinds : ∀ T : TbT, T.tb = Tb.tb → T.lt = Tb.lt → DefX P w K mg base T "named_kinds" 3 s_named_kinds 4) (d_scheme_number : ∀ T : TbT, T.tb = Tb.tb → T.lt = Tb.lt → DefX P w K mg base T "scheme_number" 2 s_scheme_number 6) (d_scheme_told : ∀ T : TbT, T.tb = Tb.tb → T.lt = Tb.lt → DefX P w K mg base T "scheme_told" 4 s_scheme_told 7) (d_shown : ∀ T : TbT, T.tb = Tb.tb → T.lt = Tb.lt → DefX P w K mg base T "shown" 2 s_shown 6) (c : Addr) (A : Around) (outer : List PySem.Env) (s : Shared) (H : Hp) (E : XK) (T : TbT) (e1 : T.tb = Tb.tb) (e2 : T.lt = Tb.lt) (A2 : Around) (outer2 : List PySem.Env) (s2 : Shared) (H2 : Hp) (E2 : XK) (f2 c2 : Addr) (hr : Room 7 (A2.deeper (LamX.lamEnv (cxOf CX0 P w K mg base ["_law_script", "_law_row", "_law_number", "_law_good", "_law_melts", "_law_late", "_law_wrong", "_law_works", "_law_bits", "_law_found", "_law_work"] "law" (defScope st_law) f (.ref c) A outer s H E).nox (lamAt (defBody st_law) 11).scope s2.heap.objs.size f2 c2))) (C2 : Ctx ((mkF P w K T).to E2) (LamX.lamCx (cxOf CX0 P w K mg base ["_law_script", "_law_row", "_law_number", "_law_good", "_law_melts", "_law_late", "_law_wrong", "_law_works", "_law_bits", "_law_found", "_law_work"] "law" (defScope st_law) f (.ref c) A outer s H E).nox A2 outer2 s2 H2 E2 (lamAt (defBody st_law) 11).scope f2 c2)) (T2 : XTk ((mkF P w K T).to E2) (LamX.lamCx (cxOf CX0 P w K mg base ["_law_script", "_law_row", "_law_number", "_law_good", "_law_melts", "_law_late", "_law_wrong", "_law_works", "_law_bits", "_law_found", "_law_work"] "law" (defScope st_law) f (.ref c) A outer s H E).nox A2 outer2 s2 H2 E2 (lamAt (defBody st_law) 11).scope f2 c2)) :
  PE (LamX.lamCx (cxOf CX0 P w K mg base ["_law_script", "_law_row", "_law_number", "_law_good", "_law_melts", "_law_late", "_law_wrong", "_law_works", "_law_bits", "_law_found", "_law_work"] "law" (defScope st_law) f (.ref c) A outer s H E).nox A2 outer2 s2 H2 E2 (lamAt (defBody st_law) 11).scope f2 c2) (lamAt (defBody st_law) 11).body (tD ((mkF P w K T).to E2) false (lam_law 11)) := by
  have d_l_pick := d_l_pick T e1 e2; have d_can_right := d_can_right T e1 e2; have d_can_tell := d_can_tell T e1 e2; have d_contents_told := d_contents_told T e1 e2; have d_failing_rings := d_failing_rings T e1 e2; have d_fewest_wrong := d_fewest_wrong T e1 e2; have d_flood_family := d_flood_family T e1 e2; have d_flood_kept := d_flood_kept T e1 e2; have d_flood_lost_within := d_flood_lost_within T e1 e2; have d_flood_schemes := d_flood_schemes T e1 e2; have d_is_flood_scheme := d_is_flood_scheme T e1 e2; have d_late_kept := d_late_kept T e1 e2; have d_late_lost_within := d_late_lost_within T e1 e2; have d_mixed_kinds := d_mixed_kinds T e1 e2; have d_named_kinds := d_named_kinds T e1 e2; have d_scheme_number := d_scheme_number T e1 e2; have d_scheme_told := d_scheme_told T e1 e2; have d_shown := d_shown T e1 e2
  exact (ve_callX d_flood_schemes hr (ha := (db_cons de_int (db_cons de_int (db_cons de_int (db_cons de_int db_nil))))) (hn := (cnt_cons (cnt_cons (cnt_cons (cnt_cons cnt_nil))))))
theorem lamOk_12 (d_l_pick : ∀ T : TbT, T.tb = Tb.tb → T.lt = Tb.lt → DefOk P w K mg base T "_law_pick" 2 s_l_pick 2) (d_can_right : ∀ T : TbT, T.tb = Tb.tb → T.lt = Tb.lt → DefX P w K mg base T "can_right" 2 s_can_right 7) (d_can_tell : ∀ T : TbT, T.tb = Tb.tb → T.lt = Tb.lt → DefX P w K mg base T "can_tell" 2 s_can_tell 7) (d_contents_told : ∀ T : TbT, T.tb = Tb.tb → T.lt = Tb.lt → DefX P w K mg base T "contents_told" 3 s_contents_told 6) (d_failing_rings : ∀ T : TbT, T.tb = Tb.tb → T.lt = Tb.lt → DefX P w K mg base T "failing_rings" 3 s_failing_rings 6) (d_fewest_wrong : ∀ T : TbT, T.tb = Tb.tb → T.lt = Tb.lt → DefX P w K mg base T "fewest_wrong" 2 s_fewest_wrong 6) (d_flood_family : ∀ T : TbT, T.tb = Tb.tb → T.lt = Tb.lt → DefX P w K mg base T "flood_family" 3 s_flood_family 7) (d_flood_kept : ∀ T : TbT, T.tb = Tb.tb → T.lt = Tb.lt → DefX P w K mg base T "flood_kept" 3 s_flood_kept 7) (d_flood_lost_within : ∀ T : TbT, T.tb = Tb.tb → T.lt = Tb.lt → DefX P w K mg base T "flood_lost_within" 3 s_flood_lost_within 7) (d_flood_schemes : ∀ T : TbT, T.tb = Tb.tb → T.lt = Tb.lt → DefX P w K mg base T "flood_schemes" 4 s_flood_schemes 4) (d_is_flood_scheme : ∀ T : TbT, T.tb = Tb.tb → T.lt = Tb.lt → DefX P w K mg base T "is_flood_scheme" 3 s_is_flood_scheme 7) (d_late_kept : ∀ T : TbT, T.tb = Tb.tb → T.lt = Tb.lt → DefX P w K mg base T "late_kept" 3 s_late_kept 7) (d_late_lost_within : ∀ T : TbT, T.tb = Tb.tb → T.lt = Tb.lt → DefX P w K mg base T "late_lost_within" 3 s_late_lost_within 7) (d_mixed_kinds : ∀ T : TbT, T.tb = Tb.tb → T.lt = Tb.lt → DefX P w K mg base T "mixed_kinds" 3 s_mixed_kinds 4) (d_named_kinds : ∀ T : TbT, T.tb = Tb.tb → T.lt = Tb.lt → DefX P w K mg base T "named_kinds" 3 s_named_kinds 4) (d_scheme_number : ∀ T : TbT, T.tb = Tb.tb → T.lt = Tb.lt → DefX P w K mg base T "scheme_number" 2 s_scheme_number 6) (d_scheme_told : ∀ T : TbT, T.tb = Tb.tb → T.lt = Tb.lt → DefX P w K mg base T "scheme_told" 4 s_scheme_told 7) (d_shown : ∀ T : TbT, T.tb = Tb.tb → T.lt = Tb.lt → DefX P w K mg base T "shown" 2 s_shown 6) (c : Addr) (A : Around) (outer : List PySem.Env) (s : Shared) (H : Hp) (E : XK) (T : TbT) (e1 : T.tb = Tb.tb) (e2 : T.lt = Tb.lt) (A2 : Around) (outer2 : List PySem.Env) (s2 : Shared) (H2 : Hp) (E2 : XK) (f2 c2 : Addr) (hr : Room 7 (A2.deeper (LamX.lamEnv (cxOf CX0 P w K mg base ["_law_script", "_law_row", "_law_number", "_law_good", "_law_melts", "_law_late", "_law_wrong", "_law_works", "_law_bits", "_law_found", "_law_work"] "law" (defScope st_law) f (.ref c) A outer s H E).nox (lamAt (defBody st_law) 12).scope s2.heap.objs.size f2 c2))) (C2 : Ctx ((mkF P w K T).to E2) (LamX.lamCx (cxOf CX0 P w K mg base ["_law_script", "_law_row", "_law_number", "_law_good", "_law_melts", "_law_late", "_law_wrong", "_law_works", "_law_bits", "_law_found", "_law_work"] "law" (defScope st_law) f (.ref c) A outer s H E).nox A2 outer2 s2 H2 E2 (lamAt (defBody st_law) 12).scope f2 c2)) (T2 : XTk ((mkF P w K T).to E2) (LamX.lamCx (cxOf CX0 P w K mg base ["_law_script", "_law_row", "_law_number", "_law_good", "_law_melts", "_law_late", "_law_wrong", "_law_works", "_law_bits", "_law_found", "_law_work"] "law" (defScope st_law) f (.ref c) A outer s H E).nox A2 outer2 s2 H2 E2 (lamAt (defBody st_law) 12).scope f2 c2)) :
  PE (LamX.lamCx (cxOf CX0 P w K mg base ["_law_script", "_law_row", "_law_number", "_law_good", "_law_melts", "_law_late", "_law_wrong", "_law_works", "_law_bits", "_law_found", "_law_work"] "law" (defScope st_law) f (.ref c) A outer s H E).nox A2 outer2 s2 H2 E2 (lamAt (defBody st_law) 12).scope f2 c2) (lamAt (defBody st_law) 12).body (tD ((mkF P w K T).to E2) false (lam_law 12)) := by
  have d_l_pick := d_l_pick T e1 e2; have d_can_right := d_can_right T e1 e2; have d_can_tell := d_can_tell T e1 e2; have d_contents_told := d_contents_told T e1 e2; have d_failing_rings := d_failing_rings T e1 e2; have d_fewest_wrong := d_fewest_wrong T e1 e2; have d_flood_family := d_flood_family T e1 e2; have d_flood_kept := d_flood_kept T e1 e2; have d_flood_lost_within := d_flood_lost_within T e1 e2; have d_flood_schemes := d_flood_schemes T e1 e2; have d_is_flood_scheme := d_is_flood_scheme T e1 e2; have d_late_kept := d_late_kept T e1 e2; have d_late_lost_within := d_late_lost_within T e1 e2; have d_mixed_kinds := d_mixed_kinds T e1 e2; have d_named_kinds := d_named_kinds T e1 e2; have d_scheme_number := d_scheme_number T e1 e2; have d_scheme_told := d_scheme_told T e1 e2; have d_shown := d_shown T e1 e2
  exact (ve_callX d_flood_schemes hr (ha := (db_cons de_int (db_cons de_int (db_cons de_int (db_cons de_int db_nil))))) (hn := (cnt_cons (cnt_cons (cnt_cons (cnt_cons cnt_nil))))))
theorem lamOk_13 (d_l_pick : ∀ T : TbT, T.tb = Tb.tb → T.lt = Tb.lt → DefOk P w K mg base T "_law_pick" 2 s_l_pick 2) (d_can_right : ∀ T : TbT, T.tb = Tb.tb → T.lt = Tb.lt → DefX P w K mg base T "can_right" 2 s_can_right 7) (d_can_tell : ∀ T : TbT, T.tb = Tb.tb → T.lt = Tb.lt → DefX P w K mg base T "can_tell" 2 s_can_tell 7) (d_contents_told : ∀ T : TbT, T.tb = Tb.tb → T.lt = Tb.lt → DefX P w K mg base T "contents_told" 3 s_contents_told 6) (d_failing_rings : ∀ T : TbT, T.tb = Tb.tb → T.lt = Tb.lt → DefX P w K mg base T "failing_rings" 3 s_failing_rings 6) (d_fewest_wrong : ∀ T : TbT, T.tb = Tb.tb → T.lt = Tb.lt → DefX P w K mg base T "fewest_wrong" 2 s_fewest_wrong 6) (d_flood_family : ∀ T : TbT, T.tb = Tb.tb → T.lt = Tb.lt → DefX P w K mg base T "flood_family" 3 s_flood_family 7) (d_flood_kept : ∀ T : TbT, T.tb = Tb.tb → T.lt = Tb.lt → DefX P w K mg base T "flood_kept" 3 s_flood_kept 7) (d_flood_lost_within : ∀ T : TbT, T.tb = Tb.tb → T.lt = Tb.lt → DefX P w K mg base T "flood_lost_within" 3 s_flood_lost_within 7) (d_flood_schemes : ∀ T : TbT, T.tb = Tb.tb → T.lt = Tb.lt → DefX P w K mg base T "flood_schemes" 4 s_flood_schemes 4) (d_is_flood_scheme : ∀ T : TbT, T.tb = Tb.tb → T.lt = Tb.lt → DefX P w K mg base T "is_flood_scheme" 3 s_is_flood_scheme 7) (d_late_kept : ∀ T : TbT, T.tb = Tb.tb → T.lt = Tb.lt → DefX P w K mg base T "late_kept" 3 s_late_kept 7) (d_late_lost_within : ∀ T : TbT, T.tb = Tb.tb → T.lt = Tb.lt → DefX P w K mg base T "late_lost_within" 3 s_late_lost_within 7) (d_mixed_kinds : ∀ T : TbT, T.tb = Tb.tb → T.lt = Tb.lt → DefX P w K mg base T "mixed_kinds" 3 s_mixed_kinds 4) (d_named_kinds : ∀ T : TbT, T.tb = Tb.tb → T.lt = Tb.lt → DefX P w K mg base T "named_kinds" 3 s_named_kinds 4) (d_scheme_number : ∀ T : TbT, T.tb = Tb.tb → T.lt = Tb.lt → DefX P w K mg base T "scheme_number" 2 s_scheme_number 6) (d_scheme_told : ∀ T : TbT, T.tb = Tb.tb → T.lt = Tb.lt → DefX P w K mg base T "scheme_told" 4 s_scheme_told 7) (d_shown : ∀ T : TbT, T.tb = Tb.tb → T.lt = Tb.lt → DefX P w K mg base T "shown" 2 s_shown 6) (c : Addr) (A : Around) (outer : List PySem.Env) (s : Shared) (H : Hp) (E : XK) (T : TbT) (e1 : T.tb = Tb.tb) (e2 : T.lt = Tb.lt) (A2 : Around) (outer2 : List PySem.Env) (s2 : Shared) (H2 : Hp) (E2 : XK) (f2 c2 : Addr) (hr : Room 7 (A2.deeper (LamX.lamEnv (cxOf CX0 P w K mg base ["_law_script", "_law_row", "_law_number", "_law_good", "_law_melts", "_law_late", "_law_wrong", "_law_works", "_law_bits", "_law_found", "_law_work"] "law" (defScope st_law) f (.ref c) A outer s H E).nox (lamAt (defBody st_law) 13).scope s2.heap.objs.size f2 c2))) (C2 : Ctx ((mkF P w K T).to E2) (LamX.lamCx (cxOf CX0 P w K mg base ["_law_script", "_law_row", "_law_number", "_law_good", "_law_melts", "_law_late", "_law_wrong", "_law_works", "_law_bits", "_law_found", "_law_work"] "law" (defScope st_law) f (.ref c) A outer s H E).nox A2 outer2 s2 H2 E2 (lamAt (defBody st_law) 13).scope f2 c2)) (T2 : XTk ((mkF P w K T).to E2) (LamX.lamCx (cxOf CX0 P w K mg base ["_law_script", "_law_row", "_law_number", "_law_good", "_law_melts", "_law_late", "_law_wrong", "_law_works", "_law_bits", "_law_found", "_law_work"] "law" (defScope st_law) f (.ref c) A outer s H E).nox A2 outer2 s2 H2 E2 (lamAt (defBody st_law) 13).scope f2 c2)) :
  PE (LamX.lamCx (cxOf CX0 P w K mg base ["_law_script", "_law_row", "_law_number", "_law_good", "_law_melts", "_law_late", "_law_wrong", "_law_works", "_law_bits", "_law_found", "_law_work"] "law" (defScope st_law) f (.ref c) A outer s H E).nox A2 outer2 s2 H2 E2 (lamAt (defBody st_law) 13).scope f2 c2) (lamAt (defBody st_law) 13).body (tD ((mkF P w K T).to E2) false (lam_law 13)) := by
  have d_l_pick := d_l_pick T e1 e2; have d_can_right := d_can_right T e1 e2; have d_can_tell := d_can_tell T e1 e2; have d_contents_told := d_contents_told T e1 e2; have d_failing_rings := d_failing_rings T e1 e2; have d_fewest_wrong := d_fewest_wrong T e1 e2; have d_flood_family := d_flood_family T e1 e2; have d_flood_kept := d_flood_kept T e1 e2; have d_flood_lost_within := d_flood_lost_within T e1 e2; have d_flood_schemes := d_flood_schemes T e1 e2; have d_is_flood_scheme := d_is_flood_scheme T e1 e2; have d_late_kept := d_late_kept T e1 e2; have d_late_lost_within := d_late_lost_within T e1 e2; have d_mixed_kinds := d_mixed_kinds T e1 e2; have d_named_kinds := d_named_kinds T e1 e2; have d_scheme_number := d_scheme_number T e1 e2; have d_scheme_told := d_scheme_told T e1 e2; have d_shown := d_shown T e1 e2
  exact (ve_callX d_scheme_told hr (ha := (db_cons de_int (db_cons de_int (db_cons de_int (db_cons (ve_call d_l_pick hr (ha := (db_cons (de_var 1) (db_cons (de_lst (db_cons de_non (db_cons (ve_neg (L2.PE.weak de_int)) (db_cons de_int (db_cons de_bl db_nil)))) (few_cons (few_cons (few_cons (few_cons few_nil))))) db_nil))) (hn := (cnt_cons (cnt_cons cnt_nil)))) db_nil))))) (hn := (cnt_cons (cnt_cons (cnt_cons (cnt_cons cnt_nil))))))
theorem lamOk_14 (d_l_pick : ∀ T : TbT, T.tb = Tb.tb → T.lt = Tb.lt → DefOk P w K mg base T "_law_pick" 2 s_l_pick 2) (d_can_right : ∀ T : TbT, T.tb = Tb.tb → T.lt = Tb.lt → DefX P w K mg base T "can_right" 2 s_can_right 7) (d_can_tell : ∀ T : TbT, T.tb = Tb.tb → T.lt = Tb.lt → DefX P w K mg base T "can_tell" 2 s_can_tell 7) (d_contents_told : ∀ T : TbT, T.tb = Tb.tb → T.lt = Tb.lt → DefX P w K mg base T "contents_told" 3 s_contents_told 6) (d_failing_rings : ∀ T : TbT, T.tb = Tb.tb → T.lt = Tb.lt → DefX P w K mg base T "failing_rings" 3 s_failing_rings 6) (d_fewest_wrong : ∀ T : TbT, T.tb = Tb.tb → T.lt = Tb.lt → DefX P w K mg base T "fewest_wrong" 2 s_fewest_wrong 6) (d_flood_family : ∀ T : TbT, T.tb = Tb.tb → T.lt = Tb.lt → DefX P w K mg base T "flood_family" 3 s_flood_family 7) (d_flood_kept : ∀ T : TbT, T.tb = Tb.tb → T.lt = Tb.lt → DefX P w K mg base T "flood_kept" 3 s_flood_kept 7) (d_flood_lost_within : ∀ T : TbT, T.tb = Tb.tb → T.lt = Tb.lt → DefX P w K mg base T "flood_lost_within" 3 s_flood_lost_within 7) (d_flood_schemes : ∀ T : TbT, T.tb = Tb.tb → T.lt = Tb.lt → DefX P w K mg base T "flood_schemes" 4 s_flood_schemes 4) (d_is_flood_scheme : ∀ T : TbT, T.tb = Tb.tb → T.lt = Tb.lt → DefX P w K mg base T "is_flood_scheme" 3 s_is_flood_scheme 7) (d_late_kept : ∀ T : TbT, T.tb = Tb.tb → T.lt = Tb.lt → DefX P w K mg base T "late_kept" 3 s_late_kept 7) (d_late_lost_within : ∀ T : TbT, T.tb = Tb.tb → T.lt = Tb.lt → DefX P w K mg base T "late_lost_within" 3 s_late_lost_within 7) (d_mixed_kinds : ∀ T : TbT, T.tb = Tb.tb → T.lt = Tb.lt → DefX P w K mg base T "mixed_kinds" 3 s_mixed_kinds 4) (d_named_kinds : ∀ T : TbT, T.tb = Tb.tb → T.lt = Tb.lt → DefX P w K mg base T "named_kinds" 3 s_named_kinds 4) (d_scheme_number : ∀ T : TbT, T.tb = Tb.tb → T.lt = Tb.lt → DefX P w K mg base T "scheme_number" 2 s_scheme_number 6) (d_scheme_told : ∀ T : TbT, T.tb = Tb.tb → T.lt = Tb.lt → DefX P w K mg base T "scheme_told" 4 s_scheme_told 7) (d_shown : ∀ T : TbT, T.tb = Tb.tb → T.lt = Tb.lt → DefX P w K mg base T "shown" 2 s_shown 6) (c : Addr) (A : Around) (outer : List PySem.Env) (s : Shared) (H : Hp) (E : XK) (T : TbT) (e1 : T.tb = Tb.tb) (e2 : T.lt = Tb.lt) (A2 : Around) (outer2 : List PySem.Env) (s2 : Shared) (H2 : Hp) (E2 : XK) (f2 c2 : Addr) (hr : Room 7 (A2.deeper (LamX.lamEnv (cxOf CX0 P w K mg base ["_law_script", "_law_row", "_law_number", "_law_good", "_law_melts", "_law_late", "_law_wrong", "_law_works", "_law_bits", "_law_found", "_law_work"] "law" (defScope st_law) f (.ref c) A outer s H E).nox (lamAt (defBody st_law) 14).scope s2.heap.objs.size f2 c2))) (C2 : Ctx ((mkF P w K T).to E2) (LamX.lamCx (cxOf CX0 P w K mg base ["_law_script", "_law_row", "_law_number", "_law_good", "_law_melts", "_law_late", "_law_wrong", "_law_works", "_law_bits", "_law_found", "_law_work"] "law" (defScope st_law) f (.ref c) A outer s H E).nox A2 outer2 s2 H2 E2 (lamAt (defBody st_law) 14).scope f2 c2)) (T2 : XTk ((mkF P w K T).to E2) (LamX.lamCx (cxOf CX0 P w K mg base ["_law_script", "_law_row", "_law_number", "_law_good", "_law_melts", "_law_late", "_law_wrong", "_law_works", "_law_bits", "_law_found", "_law_work"] "law" (defScope st_law) f (.ref c) A outer s H E).nox A2 outer2 s2 H2 E2 (lamAt (defBody st_law) 14).scope f2 c2)) :
  PE (LamX.lamCx (cxOf CX0 P w K mg base ["_law_script", "_law_row", "_law_number", "_law_good", "_law_melts", "_law_late", "_law_wrong", "_law_works", "_law_bits", "_law_found", "_law_work"] "law" (defScope st_law) f (.ref c) A outer s H E).nox A2 outer2 s2 H2 E2 (lamAt (defBody st_law) 14).scope f2 c2) (lamAt (defBody st_law) 14).body (tD ((mkF P w K T).to E2) false (lam_law 14)) := by
  have d_l_pick := d_l_pick T e1 e2; have d_can_right := d_can_right T e1 e2; have d_can_tell := d_can_tell T e1 e2; have d_contents_told := d_contents_told T e1 e2; have d_failing_rings := d_failing_rings T e1 e2; have d_fewest_wrong := d_fewest_wrong T e1 e2; have d_flood_family := d_flood_family T e1 e2; have d_flood_kept := d_flood_kept T e1 e2; have d_flood_lost_within := d_flood_lost_within T e1 e2; have d_flood_schemes := d_flood_schemes T e1 e2; have d_is_flood_scheme := d_is_flood_scheme T e1 e2; have d_late_kept := d_late_kept T e1 e2; have d_late_lost_within := d_late_lost_within T e1 e2; have d_mixed_kinds := d_mixed_kinds T e1 e2; have d_named_kinds := d_named_kinds T e1 e2; have d_scheme_number := d_scheme_number T e1 e2; have d_scheme_told := d_scheme_told T e1 e2; have d_shown := d_shown T e1 e2
  exact (ve_callX d_scheme_told hr (ha := (db_cons de_int (db_cons de_int (db_cons de_int (db_cons de_int db_nil))))) (hn := (cnt_cons (cnt_cons (cnt_cons (cnt_cons cnt_nil))))))
theorem lamOk_15 (d_l_pick : ∀ T : TbT, T.tb = Tb.tb → T.lt = Tb.lt → DefOk P w K mg base T "_law_pick" 2 s_l_pick 2) (d_can_right : ∀ T : TbT, T.tb = Tb.tb → T.lt = Tb.lt → DefX P w K mg base T "can_right" 2 s_can_right 7) (d_can_tell : ∀ T : TbT, T.tb = Tb.tb → T.lt = Tb.lt → DefX P w K mg base T "can_tell" 2 s_can_tell 7) (d_contents_told : ∀ T : TbT, T.tb = Tb.tb → T.lt = Tb.lt → DefX P w K mg base T "contents_told" 3 s_contents_told 6) (d_failing_rings : ∀ T : TbT, T.tb = Tb.tb → T.lt = Tb.lt → DefX P w K mg base T "failing_rings" 3 s_failing_rings 6) (d_fewest_wrong : ∀ T : TbT, T.tb = Tb.tb → T.lt = Tb.lt → DefX P w K mg base T "fewest_wrong" 2 s_fewest_wrong 6) (d_flood_family : ∀ T : TbT, T.tb = Tb.tb → T.lt = Tb.lt → DefX P w K mg base T "flood_family" 3 s_flood_family 7) (d_flood_kept : ∀ T : TbT, T.tb = Tb.tb → T.lt = Tb.lt → DefX P w K mg base T "flood_kept" 3 s_flood_kept 7) (d_flood_lost_within : ∀ T : TbT, T.tb = Tb.tb → T.lt = Tb.lt → DefX P w K mg base T "flood_lost_within" 3 s_flood_lost_within 7) (d_flood_schemes : ∀ T : TbT, T.tb = Tb.tb → T.lt = Tb.lt → DefX P w K mg base T "flood_schemes" 4 s_flood_schemes 4) (d_is_flood_scheme : ∀ T : TbT, T.tb = Tb.tb → T.lt = Tb.lt → DefX P w K mg base T "is_flood_scheme" 3 s_is_flood_scheme 7) (d_late_kept : ∀ T : TbT, T.tb = Tb.tb → T.lt = Tb.lt → DefX P w K mg base T "late_kept" 3 s_late_kept 7) (d_late_lost_within : ∀ T : TbT, T.tb = Tb.tb → T.lt = Tb.lt → DefX P w K mg base T "late_lost_within" 3 s_late_lost_within 7) (d_mixed_kinds : ∀ T : TbT, T.tb = Tb.tb → T.lt = Tb.lt → DefX P w K mg base T "mixed_kinds" 3 s_mixed_kinds 4) (d_named_kinds : ∀ T : TbT, T.tb = Tb.tb → T.lt = Tb.lt → DefX P w K mg base T "named_kinds" 3 s_named_kinds 4) (d_scheme_number : ∀ T : TbT, T.tb = Tb.tb → T.lt = Tb.lt → DefX P w K mg base T "scheme_number" 2 s_scheme_number 6) (d_scheme_told : ∀ T : TbT, T.tb = Tb.tb → T.lt = Tb.lt → DefX P w K mg base T "scheme_told" 4 s_scheme_told 7) (d_shown : ∀ T : TbT, T.tb = Tb.tb → T.lt = Tb.lt → DefX P w K mg base T "shown" 2 s_shown 6) (c : Addr) (A : Around) (outer : List PySem.Env) (s : Shared) (H : Hp) (E : XK) (T : TbT) (e1 : T.tb = Tb.tb) (e2 : T.lt = Tb.lt) (A2 : Around) (outer2 : List PySem.Env) (s2 : Shared) (H2 : Hp) (E2 : XK) (f2 c2 : Addr) (hr : Room 7 (A2.deeper (LamX.lamEnv (cxOf CX0 P w K mg base ["_law_script", "_law_row", "_law_number", "_law_good", "_law_melts", "_law_late", "_law_wrong", "_law_works", "_law_bits", "_law_found", "_law_work"] "law" (defScope st_law) f (.ref c) A outer s H E).nox (lamAt (defBody st_law) 15).scope s2.heap.objs.size f2 c2))) (C2 : Ctx ((mkF P w K T).to E2) (LamX.lamCx (cxOf CX0 P w K mg base ["_law_script", "_law_row", "_law_number", "_law_good", "_law_melts", "_law_late", "_law_wrong", "_law_works", "_law_bits", "_law_found", "_law_work"] "law" (defScope st_law) f (.ref c) A outer s H E).nox A2 outer2 s2 H2 E2 (lamAt (defBody st_law) 15).scope f2 c2)) (T2 : XTk ((mkF P w K T).to E2) (LamX.lamCx (cxOf CX0 P w K mg base ["_law_script", "_law_row", "_law_number", "_law_good", "_law_melts", "_law_late", "_law_wrong", "_law_works", "_law_bits", "_law_found", "_law_work"] "law" (defScope st_law) f (.ref c) A outer s H E).nox A2 outer2 s2 H2 E2 (lamAt (defBody st_law) 15).scope f2 c2)) :
  PE (LamX.lamCx (cxOf CX0 P w K mg base ["_law_script", "_law_row", "_law_number", "_law_good", "_law_melts", "_law_late", "_law_wrong", "_law_works", "_law_bits", "_law_found", "_law_work"] "law" (defScope st_law) f (.ref c) A outer s H E).nox A2 outer2 s2 H2 E2 (lamAt (defBody st_law) 15).scope f2 c2) (lamAt (defBody st_law) 15).body (tD ((mkF P w K T).to E2) false (lam_law 15)) := by
  have d_l_pick := d_l_pick T e1 e2; have d_can_right := d_can_right T e1 e2; have d_can_tell := d_can_tell T e1 e2; have d_contents_told := d_contents_told T e1 e2; have d_failing_rings := d_failing_rings T e1 e2; have d_fewest_wrong := d_fewest_wrong T e1 e2; have d_flood_family := d_flood_family T e1 e2; have d_flood_kept := d_flood_kept T e1 e2; have d_flood_lost_within := d_flood_lost_within T e1 e2; have d_flood_schemes := d_flood_schemes T e1 e2; have d_is_flood_scheme := d_is_flood_scheme T e1 e2; have d_late_kept := d_late_kept T e1 e2; have d_late_lost_within := d_late_lost_within T e1 e2; have d_mixed_kinds := d_mixed_kinds T e1 e2; have d_named_kinds := d_named_kinds T e1 e2; have d_scheme_number := d_scheme_number T e1 e2; have d_scheme_told := d_scheme_told T e1 e2; have d_shown := d_shown T e1 e2
  exact (ve_callX d_shown hr (ha := (db_cons (de_var 3) (db_cons (de_var 8) db_nil))) (hn := (cnt_cons (cnt_cons cnt_nil))))
theorem lamOk_16 (d_l_pick : ∀ T : TbT, T.tb = Tb.tb → T.lt = Tb.lt → DefOk P w K mg base T "_law_pick" 2 s_l_pick 2) (d_can_right : ∀ T : TbT, T.tb = Tb.tb → T.lt = Tb.lt → DefX P w K mg base T "can_right" 2 s_can_right 7) (d_can_tell : ∀ T : TbT, T.tb = Tb.tb → T.lt = Tb.lt → DefX P w K mg base T "can_tell" 2 s_can_tell 7) (d_contents_told : ∀ T : TbT, T.tb = Tb.tb → T.lt = Tb.lt → DefX P w K mg base T "contents_told" 3 s_contents_told 6) (d_failing_rings : ∀ T : TbT, T.tb = Tb.tb → T.lt = Tb.lt → DefX P w K mg base T "failing_rings" 3 s_failing_rings 6) (d_fewest_wrong : ∀ T : TbT, T.tb = Tb.tb → T.lt = Tb.lt → DefX P w K mg base T "fewest_wrong" 2 s_fewest_wrong 6) (d_flood_family : ∀ T : TbT, T.tb = Tb.tb → T.lt = Tb.lt → DefX P w K mg base T "flood_family" 3 s_flood_family 7) (d_flood_kept : ∀ T : TbT, T.tb = Tb.tb → T.lt = Tb.lt → DefX P w K mg base T "flood_kept" 3 s_flood_kept 7) (d_flood_lost_within : ∀ T : TbT, T.tb = Tb.tb → T.lt = Tb.lt → DefX P w K mg base T "flood_lost_within" 3 s_flood_lost_within 7) (d_flood_schemes : ∀ T : TbT, T.tb = Tb.tb → T.lt = Tb.lt → DefX P w K mg base T "flood_schemes" 4 s_flood_schemes 4) (d_is_flood_scheme : ∀ T : TbT, T.tb = Tb.tb → T.lt = Tb.lt → DefX P w K mg base T "is_flood_scheme" 3 s_is_flood_scheme 7) (d_late_kept : ∀ T : TbT, T.tb = Tb.tb → T.lt = Tb.lt → DefX P w K mg base T "late_kept" 3 s_late_kept 7) (d_late_lost_within : ∀ T : TbT, T.tb = Tb.tb → T.lt = Tb.lt → DefX P w K mg base T "late_lost_within" 3 s_late_lost_within 7) (d_mixed_kinds : ∀ T : TbT, T.tb = Tb.tb → T.lt = Tb.lt → DefX P w K mg base T "mixed_kinds" 3 s_mixed_kinds 4) (d_named_kinds : ∀ T : TbT, T.tb = Tb.tb → T.lt = Tb.lt → DefX P w K mg base T "named_kinds" 3 s_named_kinds 4) (d_scheme_number : ∀ T : TbT, T.tb = Tb.tb → T.lt = Tb.lt → DefX P w K mg base T "scheme_number" 2 s_scheme_number 6) (d_scheme_told : ∀ T : TbT, T.tb = Tb.tb → T.lt = Tb.lt → DefX P w K mg base T "scheme_told" 4 s_scheme_told 7) (d_shown : ∀ T : TbT, T.tb = Tb.tb → T.lt = Tb.lt → DefX P w K mg base T "shown" 2 s_shown 6) (c : Addr) (A : Around) (outer : List PySem.Env) (s : Shared) (H : Hp) (E : XK) (T : TbT) (e1 : T.tb = Tb.tb) (e2 : T.lt = Tb.lt) (A2 : Around) (outer2 : List PySem.Env) (s2 : Shared) (H2 : Hp) (E2 : XK) (f2 c2 : Addr) (hr : Room 7 (A2.deeper (LamX.lamEnv (cxOf CX0 P w K mg base ["_law_script", "_law_row", "_law_number", "_law_good", "_law_melts", "_law_late", "_law_wrong", "_law_works", "_law_bits", "_law_found", "_law_work"] "law" (defScope st_law) f (.ref c) A outer s H E).nox (lamAt (defBody st_law) 16).scope s2.heap.objs.size f2 c2))) (C2 : Ctx ((mkF P w K T).to E2) (LamX.lamCx (cxOf CX0 P w K mg base ["_law_script", "_law_row", "_law_number", "_law_good", "_law_melts", "_law_late", "_law_wrong", "_law_works", "_law_bits", "_law_found", "_law_work"] "law" (defScope st_law) f (.ref c) A outer s H E).nox A2 outer2 s2 H2 E2 (lamAt (defBody st_law) 16).scope f2 c2)) (T2 : XTk ((mkF P w K T).to E2) (LamX.lamCx (cxOf CX0 P w K mg base ["_law_script", "_law_row", "_law_number", "_law_good", "_law_melts", "_law_late", "_law_wrong", "_law_works", "_law_bits", "_law_found", "_law_work"] "law" (defScope st_law) f (.ref c) A outer s H E).nox A2 outer2 s2 H2 E2 (lamAt (defBody st_law) 16).scope f2 c2)) :
  PE (LamX.lamCx (cxOf CX0 P w K mg base ["_law_script", "_law_row", "_law_number", "_law_good", "_law_melts", "_law_late", "_law_wrong", "_law_works", "_law_bits", "_law_found", "_law_work"] "law" (defScope st_law) f (.ref c) A outer s H E).nox A2 outer2 s2 H2 E2 (lamAt (defBody st_law) 16).scope f2 c2) (lamAt (defBody st_law) 16).body (tD ((mkF P w K T).to E2) false (lam_law 16)) := by
  have d_l_pick := d_l_pick T e1 e2; have d_can_right := d_can_right T e1 e2; have d_can_tell := d_can_tell T e1 e2; have d_contents_told := d_contents_told T e1 e2; have d_failing_rings := d_failing_rings T e1 e2; have d_fewest_wrong := d_fewest_wrong T e1 e2; have d_flood_family := d_flood_family T e1 e2; have d_flood_kept := d_flood_kept T e1 e2; have d_flood_lost_within := d_flood_lost_within T e1 e2; have d_flood_schemes := d_flood_schemes T e1 e2; have d_is_flood_scheme := d_is_flood_scheme T e1 e2; have d_late_kept := d_late_kept T e1 e2; have d_late_lost_within := d_late_lost_within T e1 e2; have d_mixed_kinds := d_mixed_kinds T e1 e2; have d_named_kinds := d_named_kinds T e1 e2; have d_scheme_number := d_scheme_number T e1 e2; have d_scheme_told := d_scheme_told T e1 e2; have d_shown := d_shown T e1 e2
  exact (ve_callX d_contents_told hr (ha := (db_cons (de_var 3) (db_cons (de_var 8) (db_cons de_non db_nil)))) (hn := (cnt_cons (cnt_cons (cnt_cons cnt_nil)))))
theorem lamOk_17 (d_l_pick : ∀ T : TbT, T.tb = Tb.tb → T.lt = Tb.lt → DefOk P w K mg base T "_law_pick" 2 s_l_pick 2) (d_can_right : ∀ T : TbT, T.tb = Tb.tb → T.lt = Tb.lt → DefX P w K mg base T "can_right" 2 s_can_right 7) (d_can_tell : ∀ T : TbT, T.tb = Tb.tb → T.lt = Tb.lt → DefX P w K mg base T "can_tell" 2 s_can_tell 7) (d_contents_told : ∀ T : TbT, T.tb = Tb.tb → T.lt = Tb.lt → DefX P w K mg base T "contents_told" 3 s_contents_told 6) (d_failing_rings : ∀ T : TbT, T.tb = Tb.tb → T.lt = Tb.lt → DefX P w K mg base T "failing_rings" 3 s_failing_rings 6) (d_fewest_wrong : ∀ T : TbT, T.tb = Tb.tb → T.lt = Tb.lt → DefX P w K mg base T "fewest_wrong" 2 s_fewest_wrong 6) (d_flood_family : ∀ T : TbT, T.tb = Tb.tb → T.lt = Tb.lt → DefX P w K mg base T "flood_family" 3 s_flood_family 7) (d_flood_kept : ∀ T : TbT, T.tb = Tb.tb → T.lt = Tb.lt → DefX P w K mg base T "flood_kept" 3 s_flood_kept 7) (d_flood_lost_within : ∀ T : TbT, T.tb = Tb.tb → T.lt = Tb.lt → DefX P w K mg base T "flood_lost_within" 3 s_flood_lost_within 7) (d_flood_schemes : ∀ T : TbT, T.tb = Tb.tb → T.lt = Tb.lt → DefX P w K mg base T "flood_schemes" 4 s_flood_schemes 4) (d_is_flood_scheme : ∀ T : TbT, T.tb = Tb.tb → T.lt = Tb.lt → DefX P w K mg base T "is_flood_scheme" 3 s_is_flood_scheme 7) (d_late_kept : ∀ T : TbT, T.tb = Tb.tb → T.lt = Tb.lt → DefX P w K mg base T "late_kept" 3 s_late_kept 7) (d_late_lost_within : ∀ T : TbT, T.tb = Tb.tb → T.lt = Tb.lt → DefX P w K mg base T "late_lost_within" 3 s_late_lost_within 7) (d_mixed_kinds : ∀ T : TbT, T.tb = Tb.tb → T.lt = Tb.lt → DefX P w K mg base T "mixed_kinds" 3 s_mixed_kinds 4) (d_named_kinds : ∀ T : TbT, T.tb = Tb.tb → T.lt = Tb.lt → DefX P w K mg base T "named_kinds" 3 s_named_kinds 4) (d_scheme_number : ∀ T : TbT, T.tb = Tb.tb → T.lt = Tb.lt → DefX P w K mg base T "scheme_number" 2 s_scheme_number 6) (d_scheme_told : ∀ T : TbT, T.tb = Tb.tb → T.lt = Tb.lt → DefX P w K mg base T "scheme_told" 4 s_scheme_told 7) (d_shown : ∀ T : TbT, T.tb = Tb.tb → T.lt = Tb.lt → DefX P w K mg base T "shown" 2 s_shown 6) (c : Addr) (A : Around) (outer : List PySem.Env) (s : Shared) (H : Hp) (E : XK) (T : TbT) (e1 : T.tb = Tb.tb) (e2 : T.lt = Tb.lt) (A2 : Around) (outer2 : List PySem.Env) (s2 : Shared) (H2 : Hp) (E2 : XK) (f2 c2 : Addr) (hr : Room 7 (A2.deeper (LamX.lamEnv (cxOf CX0 P w K mg base ["_law_script", "_law_row", "_law_number", "_law_good", "_law_melts", "_law_late", "_law_wrong", "_law_works", "_law_bits", "_law_found", "_law_work"] "law" (defScope st_law) f (.ref c) A outer s H E).nox (lamAt (defBody st_law) 17).scope s2.heap.objs.size f2 c2))) (C2 : Ctx ((mkF P w K T).to E2) (LamX.lamCx (cxOf CX0 P w K mg base ["_law_script", "_law_row", "_law_number", "_law_good", "_law_melts", "_law_late", "_law_wrong", "_law_works", "_law_bits", "_law_found", "_law_work"] "law" (defScope st_law) f (.ref c) A outer s H E).nox A2 outer2 s2 H2 E2 (lamAt (defBody st_law) 17).scope f2 c2)) (T2 : XTk ((mkF P w K T).to E2) (LamX.lamCx (cxOf CX0 P w K mg base ["_law_script", "_law_row", "_law_number", "_law_good", "_law_melts", "_law_late", "_law_wrong", "_law_works", "_law_bits", "_law_found", "_law_work"] "law" (defScope st_law) f (.ref c) A outer s H E).nox A2 outer2 s2 H2 E2 (lamAt (defBody st_law) 17).scope f2 c2)) :
  PE (LamX.lamCx (cxOf CX0 P w K mg base ["_law_script", "_law_row", "_law_number", "_law_good", "_law_melts", "_law_late", "_law_wrong", "_law_works", "_law_bits", "_law_found", "_law_work"] "law" (defScope st_law) f (.ref c) A outer s H E).nox A2 outer2 s2 H2 E2 (lamAt (defBody st_law) 17).scope f2 c2) (lamAt (defBody st_law) 17).body (tD ((mkF P w K T).to E2) false (lam_law 17)) := by
  have d_l_pick := d_l_pick T e1 e2; have d_can_right := d_can_right T e1 e2; have d_can_tell := d_can_tell T e1 e2; have d_contents_told := d_contents_told T e1 e2; have d_failing_rings := d_failing_rings T e1 e2; have d_fewest_wrong := d_fewest_wrong T e1 e2; have d_flood_family := d_flood_family T e1 e2; have d_flood_kept := d_flood_kept T e1 e2; have d_flood_lost_within := d_flood_lost_within T e1 e2; have d_flood_schemes := d_flood_schemes T e1 e2; have d_is_flood_scheme := d_is_flood_scheme T e1 e2; have d_late_kept := d_late_kept T e1 e2; have d_late_lost_within := d_late_lost_within T e1 e2; have d_mixed_kinds := d_mixed_kinds T e1 e2; have d_named_kinds := d_named_kinds T e1 e2; have d_scheme_number := d_scheme_number T e1 e2; have d_scheme_told := d_scheme_told T e1 e2; have d_shown := d_shown T e1 e2
  exact (ve_callX d_fewest_wrong hr (ha := (db_cons (de_var 3) (db_cons (de_var 8) db_nil))) (hn := (cnt_cons (cnt_cons cnt_nil))))
theorem lamOk_18 (d_l_pick : ∀ T : TbT, T.tb = Tb.tb → T.lt = Tb.lt → DefOk P w K mg base T "_law_pick" 2 s_l_pick 2) (d_can_right : ∀ T : TbT, T.tb = Tb.tb → T.lt = Tb.lt → DefX P w K mg base T "can_right" 2 s_can_right 7) (d_can_tell : ∀ T : TbT, T.tb = Tb.tb → T.lt = Tb.lt → DefX P w K mg base T "can_tell" 2 s_can_tell 7) (d_contents_told : ∀ T : TbT, T.tb = Tb.tb → T.lt = Tb.lt → DefX P w K mg base T "contents_told" 3 s_contents_told 6) (d_failing_rings : ∀ T : TbT, T.tb = Tb.tb → T.lt = Tb.lt → DefX P w K mg base T "failing_rings" 3 s_failing_rings 6) (d_fewest_wrong : ∀ T : TbT, T.tb = Tb.tb → T.lt = Tb.lt → DefX P w K mg base T "fewest_wrong" 2 s_fewest_wrong 6) (d_flood_family : ∀ T : TbT, T.tb = Tb.tb → T.lt = Tb.lt → DefX P w K mg base T "flood_family" 3 s_flood_family 7) (d_flood_kept : ∀ T : TbT, T.tb = Tb.tb → T.lt = Tb.lt → DefX P w K mg base T "flood_kept" 3 s_flood_kept 7) (d_flood_lost_within : ∀ T : TbT, T.tb = Tb.tb → T.lt = Tb.lt → DefX P w K mg base T "flood_lost_within" 3 s_flood_lost_within 7) (d_flood_schemes : ∀ T : TbT, T.tb = Tb.tb → T.lt = Tb.lt → DefX P w K mg base T "flood_schemes" 4 s_flood_schemes 4) (d_is_flood_scheme : ∀ T : TbT, T.tb = Tb.tb → T.lt = Tb.lt → DefX P w K mg base T "is_flood_scheme" 3 s_is_flood_scheme 7) (d_late_kept : ∀ T : TbT, T.tb = Tb.tb → T.lt = Tb.lt → DefX P w K mg base T "late_kept" 3 s_late_kept 7) (d_late_lost_within : ∀ T : TbT, T.tb = Tb.tb → T.lt = Tb.lt → DefX P w K mg base T "late_lost_within" 3 s_late_lost_within 7) (d_mixed_kinds : ∀ T : TbT, T.tb = Tb.tb → T.lt = Tb.lt → DefX P w K mg base T "mixed_kinds" 3 s_mixed_kinds 4) (d_named_kinds : ∀ T : TbT, T.tb = Tb.tb → T.lt = Tb.lt → DefX P w K mg base T "named_kinds" 3 s_named_kinds 4) (d_scheme_number : ∀ T : TbT, T.tb = Tb.tb → T.lt = Tb.lt → DefX P w K mg base T "scheme_number" 2 s_scheme_number 6) (d_scheme_told : ∀ T : TbT, T.tb = Tb.tb → T.lt = Tb.lt → DefX P w K mg base T "scheme_told" 4 s_scheme_told 7) (d_shown : ∀ T : TbT, T.tb = Tb.tb → T.lt = Tb.lt → DefX P w K mg base T "shown" 2 s_shown 6) (c : Addr) (A : Around) (outer : List PySem.Env) (s : Shared) (H : Hp) (E : XK) (T : TbT) (e1 : T.tb = Tb.tb) (e2 : T.lt = Tb.lt) (A2 : Around) (outer2 : List PySem.Env) (s2 : Shared) (H2 : Hp) (E2 : XK) (f2 c2 : Addr) (hr : Room 7 (A2.deeper (LamX.lamEnv (cxOf CX0 P w K mg base ["_law_script", "_law_row", "_law_number", "_law_good", "_law_melts", "_law_late", "_law_wrong", "_law_works", "_law_bits", "_law_found", "_law_work"] "law" (defScope st_law) f (.ref c) A outer s H E).nox (lamAt (defBody st_law) 18).scope s2.heap.objs.size f2 c2))) (C2 : Ctx ((mkF P w K T).to E2) (LamX.lamCx (cxOf CX0 P w K mg base ["_law_script", "_law_row", "_law_number", "_law_good", "_law_melts", "_law_late", "_law_wrong", "_law_works", "_law_bits", "_law_found", "_law_work"] "law" (defScope st_law) f (.ref c) A outer s H E).nox A2 outer2 s2 H2 E2 (lamAt (defBody st_law) 18).scope f2 c2)) (T2 : XTk ((mkF P w K T).to E2) (LamX.lamCx (cxOf CX0 P w K mg base ["_law_script", "_law_row", "_law_number", "_law_good", "_law_melts", "_law_late", "_law_wrong", "_law_works", "_law_bits", "_law_found", "_law_work"] "law" (defScope st_law) f (.ref c) A outer s H E).nox A2 outer2 s2 H2 E2 (lamAt (defBody st_law) 18).scope f2 c2)) :
  PE (LamX.lamCx (cxOf CX0 P w K mg base ["_law_script", "_law_row", "_law_number", "_law_good", "_law_melts", "_law_late", "_law_wrong", "_law_works", "_law_bits", "_law_found", "_law_work"] "law" (defScope st_law) f (.ref c) A outer s H E).nox A2 outer2 s2 H2 E2 (lamAt (defBody st_law) 18).scope f2 c2) (lamAt (defBody st_law) 18).body (tD ((mkF P w K T).to E2) false (lam_law 18)) := by
  have d_l_pick := d_l_pick T e1 e2; have d_can_right := d_can_right T e1 e2; have d_can_tell := d_can_tell T e1 e2; have d_contents_told := d_contents_told T e1 e2; have d_failing_rings := d_failing_rings T e1 e2; have d_fewest_wrong := d_fewest_wrong T e1 e2; have d_flood_family := d_flood_family T e1 e2; have d_flood_kept := d_flood_kept T e1 e2; have d_flood_lost_within := d_flood_lost_within T e1 e2; have d_flood_schemes := d_flood_schemes T e1 e2; have d_is_flood_scheme := d_is_flood_scheme T e1 e2; have d_late_kept := d_late_kept T e1 e2; have d_late_lost_within := d_late_lost_within T e1 e2; have d_mixed_kinds := d_mixed_kinds T e1 e2; have d_named_kinds := d_named_kinds T e1 e2; have d_scheme_number := d_scheme_number T e1 e2; have d_scheme_told := d_scheme_told T e1 e2; have d_shown := d_shown T e1 e2
  exact (ve_callX d_failing_rings hr (ha := (db_cons (de_var 3) (db_cons de_int (db_cons (de_var 8) db_nil)))) (hn := (cnt_cons (cnt_cons (cnt_cons cnt_nil)))))
theorem lamOk_19 (d_l_pick : ∀ T : TbT, T.tb = Tb.tb → T.lt = Tb.lt → DefOk P w K mg base T "_law_pick" 2 s_l_pick 2) (d_can_right : ∀ T : TbT, T.tb = Tb.tb → T.lt = Tb.lt → DefX P w K mg base T "can_right" 2 s_can_right 7) (d_can_tell : ∀ T : TbT, T.tb = Tb.tb → T.lt = Tb.lt → DefX P w K mg base T "can_tell" 2 s_can_tell 7) (d_contents_told : ∀ T : TbT, T.tb = Tb.tb → T.lt = Tb.lt → DefX P w K mg base T "contents_told" 3 s_contents_told 6) (d_failing_rings : ∀ T : TbT, T.tb = Tb.tb → T.lt = Tb.lt → DefX P w K mg base T "failing_rings" 3 s_failing_rings 6) (d_fewest_wrong : ∀ T : TbT, T.tb = Tb.tb → T.lt = Tb.lt → DefX P w K mg base T "fewest_wrong" 2 s_fewest_wrong 6) (d_flood_family : ∀ T : TbT, T.tb = Tb.tb → T.lt = Tb.lt → DefX P w K mg base T "flood_family" 3 s_flood_family 7) (d_flood_kept : ∀ T : TbT, T.tb = Tb.tb → T.lt = Tb.lt → DefX P w K mg base T "flood_kept" 3 s_flood_kept 7) (d_flood_lost_within : ∀ T : TbT, T.tb = Tb.tb → T.lt = Tb.lt → DefX P w K mg base T "flood_lost_within" 3 s_flood_lost_within 7) (d_flood_schemes : ∀ T : TbT, T.tb = Tb.tb → T.lt = Tb.lt → DefX P w K mg base T "flood_schemes" 4 s_flood_schemes 4) (d_is_flood_scheme : ∀ T : TbT, T.tb = Tb.tb → T.lt = Tb.lt → DefX P w K mg base T "is_flood_scheme" 3 s_is_flood_scheme 7) (d_late_kept : ∀ T : TbT, T.tb = Tb.tb → T.lt = Tb.lt → DefX P w K mg base T "late_kept" 3 s_late_kept 7) (d_late_lost_within : ∀ T : TbT, T.tb = Tb.tb → T.lt = Tb.lt → DefX P w K mg base T "late_lost_within" 3 s_late_lost_within 7) (d_mixed_kinds : ∀ T : TbT, T.tb = Tb.tb → T.lt = Tb.lt → DefX P w K mg base T "mixed_kinds" 3 s_mixed_kinds 4) (d_named_kinds : ∀ T : TbT, T.tb = Tb.tb → T.lt = Tb.lt → DefX P w K mg base T "named_kinds" 3 s_named_kinds 4) (d_scheme_number : ∀ T : TbT, T.tb = Tb.tb → T.lt = Tb.lt → DefX P w K mg base T "scheme_number" 2 s_scheme_number 6) (d_scheme_told : ∀ T : TbT, T.tb = Tb.tb → T.lt = Tb.lt → DefX P w K mg base T "scheme_told" 4 s_scheme_told 7) (d_shown : ∀ T : TbT, T.tb = Tb.tb → T.lt = Tb.lt → DefX P w K mg base T "shown" 2 s_shown 6) (c : Addr) (A : Around) (outer : List PySem.Env) (s : Shared) (H : Hp) (E : XK) (T : TbT) (e1 : T.tb = Tb.tb) (e2 : T.lt = Tb.lt) (A2 : Around) (outer2 : List PySem.Env) (s2 : Shared) (H2 : Hp) (E2 : XK) (f2 c2 : Addr) (hr : Room 7 (A2.deeper (LamX.lamEnv (cxOf CX0 P w K mg base ["_law_script", "_law_row", "_law_number", "_law_good", "_law_melts", "_law_late", "_law_wrong", "_law_works", "_law_bits", "_law_found", "_law_work"] "law" (defScope st_law) f (.ref c) A outer s H E).nox (lamAt (defBody st_law) 19).scope s2.heap.objs.size f2 c2))) (C2 : Ctx ((mkF P w K T).to E2) (LamX.lamCx (cxOf CX0 P w K mg base ["_law_script", "_law_row", "_law_number", "_law_good", "_law_melts", "_law_late", "_law_wrong", "_law_works", "_law_bits", "_law_found", "_law_work"] "law" (defScope st_law) f (.ref c) A outer s H E).nox A2 outer2 s2 H2 E2 (lamAt (defBody st_law) 19).scope f2 c2)) (T2 : XTk ((mkF P w K T).to E2) (LamX.lamCx (cxOf CX0 P w K mg base ["_law_script", "_law_row", "_law_number", "_law_good", "_law_melts", "_law_late", "_law_wrong", "_law_works", "_law_bits", "_law_found", "_law_work"] "law" (defScope st_law) f (.ref c) A outer s H E).nox A2 outer2 s2 H2 E2 (lamAt (defBody st_law) 19).scope f2 c2)) :
  PE (LamX.lamCx (cxOf CX0 P w K mg base ["_law_script", "_law_row", "_law_number", "_law_good", "_law_melts", "_law_late", "_law_wrong", "_law_works", "_law_bits", "_law_found", "_law_work"] "law" (defScope st_law) f (.ref c) A outer s H E).nox A2 outer2 s2 H2 E2 (lamAt (defBody st_law) 19).scope f2 c2) (lamAt (defBody st_law) 19).body (tD ((mkF P w K T).to E2) false (lam_law 19)) := by
  have d_l_pick := d_l_pick T e1 e2; have d_can_right := d_can_right T e1 e2; have d_can_tell := d_can_tell T e1 e2; have d_contents_told := d_contents_told T e1 e2; have d_failing_rings := d_failing_rings T e1 e2; have d_fewest_wrong := d_fewest_wrong T e1 e2; have d_flood_family := d_flood_family T e1 e2; have d_flood_kept := d_flood_kept T e1 e2; have d_flood_lost_within := d_flood_lost_within T e1 e2; have d_flood_schemes := d_flood_schemes T e1 e2; have d_is_flood_scheme := d_is_flood_scheme T e1 e2; have d_late_kept := d_late_kept T e1 e2; have d_late_lost_within := d_late_lost_within T e1 e2; have d_mixed_kinds := d_mixed_kinds T e1 e2; have d_named_kinds := d_named_kinds T e1 e2; have d_scheme_number := d_scheme_number T e1 e2; have d_scheme_told := d_scheme_told T e1 e2; have d_shown := d_shown T e1 e2
  exact (ve_callX d_scheme_number hr (ha := (db_cons (de_tup (db_cons de_int (db_cons (de_tup (db_cons (de_tup (db_cons de_int db_nil) (few_cons few_nil)) (db_cons (de_tup (db_cons de_int db_nil) (few_cons few_nil)) db_nil)) (few_cons (few_cons few_nil))) db_nil)) (few_cons (few_cons few_nil))) (db_cons de_int db_nil))) (hn := (cnt_cons (cnt_cons cnt_nil))))
theorem lo_law (d_l_pick : ∀ T : TbT, T.tb = Tb.tb → T.lt = Tb.lt → DefOk P w K mg base T "_law_pick" 2 s_l_pick 2) (d_can_right : ∀ T : TbT, T.tb = Tb.tb → T.lt = Tb.lt → DefX P w K mg base T "can_right" 2 s_can_right 7) (d_can_tell : ∀ T : TbT, T.tb = Tb.tb → T.lt = Tb.lt → DefX P w K mg base T "can_tell" 2 s_can_tell 7) (d_contents_told : ∀ T : TbT, T.tb = Tb.tb → T.lt = Tb.lt → DefX P w K mg base T "contents_told" 3 s_contents_told 6) (d_failing_rings : ∀ T : TbT, T.tb = Tb.tb → T.lt = Tb.lt → DefX P w K mg base T "failing_rings" 3 s_failing_rings 6) (d_fewest_wrong : ∀ T : TbT, T.tb = Tb.tb → T.lt = Tb.lt → DefX P w K mg base T "fewest_wrong" 2 s_fewest_wrong 6) (d_flood_family : ∀ T : TbT, T.tb = Tb.tb → T.lt = Tb.lt → DefX P w K mg base T "flood_family" 3 s_flood_family 7) (d_flood_kept : ∀ T : TbT, T.tb = Tb.tb → T.lt = Tb.lt → DefX P w K mg base T "flood_kept" 3 s_flood_kept 7) (d_flood_lost_within : ∀ T : TbT, T.tb = Tb.tb → T.lt = Tb.lt → DefX P w K mg base T "flood_lost_within" 3 s_flood_lost_within 7) (d_flood_schemes : ∀ T : TbT, T.tb = Tb.tb → T.lt = Tb.lt → DefX P w K mg base T "flood_schemes" 4 s_flood_schemes 4) (d_is_flood_scheme : ∀ T : TbT, T.tb = Tb.tb → T.lt = Tb.lt → DefX P w K mg base T "is_flood_scheme" 3 s_is_flood_scheme 7) (d_late_kept : ∀ T : TbT, T.tb = Tb.tb → T.lt = Tb.lt → DefX P w K mg base T "late_kept" 3 s_late_kept 7) (d_late_lost_within : ∀ T : TbT, T.tb = Tb.tb → T.lt = Tb.lt → DefX P w K mg base T "late_lost_within" 3 s_late_lost_within 7) (d_mixed_kinds : ∀ T : TbT, T.tb = Tb.tb → T.lt = Tb.lt → DefX P w K mg base T "mixed_kinds" 3 s_mixed_kinds 4) (d_named_kinds : ∀ T : TbT, T.tb = Tb.tb → T.lt = Tb.lt → DefX P w K mg base T "named_kinds" 3 s_named_kinds 4) (d_scheme_number : ∀ T : TbT, T.tb = Tb.tb → T.lt = Tb.lt → DefX P w K mg base T "scheme_number" 2 s_scheme_number 6) (d_scheme_told : ∀ T : TbT, T.tb = Tb.tb → T.lt = Tb.lt → DefX P w K mg base T "scheme_told" 4 s_scheme_told 7) (d_shown : ∀ T : TbT, T.tb = Tb.tb → T.lt = Tb.lt → DefX P w K mg base T "shown" 2 s_shown 6) (c : Addr) (A : Around) (outer : List PySem.Env) (s : Shared) (H : Hp) (E : XK) (T : TbT) (e1 : T.tb = Tb.tb) (e2 : T.lt = Tb.lt) (e5 : T.me = some ⟨(cxOf CX0 P w K mg base ["_law_script", "_law_row", "_law_number", "_law_good", "_law_melts", "_law_late", "_law_wrong", "_law_works", "_law_bits", "_law_found", "_law_work"] "law" (defScope st_law) f (.ref c) A outer s H E).nox.env.cells, (cxOf CX0 P w K mg base ["_law_script", "_law_row", "_law_number", "_law_good", "_law_melts", "_law_late", "_law_wrong", "_law_works", "_law_bits", "_law_found", "_law_work"] "law" (defScope st_law) f (.ref c) A outer s H E).nox.env.qual ++ "<lambda>", lams (defBody st_law)⟩) :
  LamsOk (mkF P w K T) (cxOf CX0 P w K mg base ["_law_script", "_law_row", "_law_number", "_law_good", "_law_melts", "_law_late", "_law_wrong", "_law_works", "_law_bits", "_law_found", "_law_work"] "law" (defScope st_law) f (.ref c) A outer s H E).nox ⟨(cxOf CX0 P w K mg base ["_law_script", "_law_row", "_law_number", "_law_good", "_law_melts", "_law_late", "_law_wrong", "_law_works", "_law_bits", "_law_found", "_law_work"] "law" (defScope st_law) f (.ref c) A outer s H E).nox.env.cells, (cxOf CX0 P w K mg base ["_law_script", "_law_row", "_law_number", "_law_good", "_law_melts", "_law_late", "_law_wrong", "_law_works", "_law_bits", "_law_found", "_law_work"] "law" (defScope st_law) f (.ref c) A outer s H E).nox.env.qual ++ "<lambda>", lams (defBody st_law)⟩ 7 lam_law := ⟨e5, rfl, rfl, fun k L h => match k, h with
    | 0, h => by
      cases at_0.symm.trans h
      exact ⟨LW0, Bd0, fun A2 outer2 s2 H2 E2 f2 c2 hr C2 T2 => lamOk_0 d_l_pick d_can_right d_can_tell d_contents_told d_failing_rings d_fewest_wrong d_flood_family d_flood_kept d_flood_lost_within d_flood_schemes d_is_flood_scheme d_late_kept d_late_lost_within d_mixed_kinds d_named_kinds d_scheme_number d_scheme_told d_shown c A outer s H E T e1 e2 A2 outer2 s2 H2 E2 f2 c2 hr C2 T2⟩
    | 1, h => by
      cases at_1.symm.trans h
      exact ⟨LW1, Bd1, fun A2 outer2 s2 H2 E2 f2 c2 hr C2 T2 => lamOk_1 d_l_pick d_can_right d_can_tell d_contents_told d_failing_rings d_fewest_wrong d_flood_family d_flood_kept d_flood_lost_within d_flood_schemes d_is_flood_scheme d_late_kept d_late_lost_within d_mixed_kinds d_named_kinds d_scheme_number d_scheme_told d_shown c A outer s H E T e1 e2 A2 outer2 s2 H2 E2 f2 c2 hr C2 T2⟩
    | 2, h => by
      cases at_2.symm.trans h
      exact ⟨LW2, Bd2, fun A2 outer2 s2 H2 E2 f2 c2 hr C2 T2 => lamOk_2 d_l_pick d_can_right d_can_tell d_contents_told d_failing_rings d_fewest_wrong d_flood_family d_flood_kept d_flood_lost_within d_flood_schemes d_is_flood_scheme d_late_kept d_late_lost_within d_mixed_kinds d_named_kinds d_scheme_number d_scheme_told d_shown c A outer s H E T e1 e2 A2 outer2 s2 H2 E2 f2 c2 hr C2 T2⟩
    | 3, h => by
      cases at_3.symm.trans h
      exact ⟨LW3, Bd3, fun A2 outer2 s2 H2 E2 f2 c2 hr C2 T2 => lamOk_3 d_l_pick d_can_right d_can_tell d_contents_told d_failing_rings d_fewest_wrong d_flood_family d_flood_kept d_flood_lost_within d_flood_schemes d_is_flood_scheme d_late_kept d_late_lost_within d_mixed_kinds d_named_kinds d_scheme_number d_scheme_told d_shown c A outer s H E T e1 e2 A2 outer2 s2 H2 E2 f2 c2 hr C2 T2⟩
    | 4, h => by
      cases at_4.symm.trans h
      exact ⟨LW4, Bd4, fun A2 outer2 s2 H2 E2 f2 c2 hr C2 T2 => lamOk_4 d_l_pick d_can_right d_can_tell d_contents_told d_failing_rings d_fewest_wrong d_flood_family d_flood_kept d_flood_lost_within d_flood_schemes d_is_flood_scheme d_late_kept d_late_lost_within d_mixed_kinds d_named_kinds d_scheme_number d_scheme_told d_shown c A outer s H E T e1 e2 A2 outer2 s2 H2 E2 f2 c2 hr C2 T2⟩
    | 5, h => by
      cases at_5.symm.trans h
      exact ⟨LW5, Bd5, fun A2 outer2 s2 H2 E2 f2 c2 hr C2 T2 => lamOk_5 d_l_pick d_can_right d_can_tell d_contents_told d_failing_rings d_fewest_wrong d_flood_family d_flood_kept d_flood_lost_within d_flood_schemes d_is_flood_scheme d_late_kept d_late_lost_within d_mixed_kinds d_named_kinds d_scheme_number d_scheme_told d_shown c A outer s H E T e1 e2 A2 outer2 s2 H2 E2 f2 c2 hr C2 T2⟩
    | 6, h => by
      cases at_6.symm.trans h
      exact ⟨LW6, Bd6, fun A2 outer2 s2 H2 E2 f2 c2 hr C2 T2 => lamOk_6 d_l_pick d_can_right d_can_tell d_contents_told d_failing_rings d_fewest_wrong d_flood_family d_flood_kept d_flood_lost_within d_flood_schemes d_is_flood_scheme d_late_kept d_late_lost_within d_mixed_kinds d_named_kinds d_scheme_number d_scheme_told d_shown c A outer s H E T e1 e2 A2 outer2 s2 H2 E2 f2 c2 hr C2 T2⟩
    | 7, h => by
      cases at_7.symm.trans h
      exact ⟨LW7, Bd7, fun A2 outer2 s2 H2 E2 f2 c2 hr C2 T2 => lamOk_7 d_l_pick d_can_right d_can_tell d_contents_told d_failing_rings d_fewest_wrong d_flood_family d_flood_kept d_flood_lost_within d_flood_schemes d_is_flood_scheme d_late_kept d_late_lost_within d_mixed_kinds d_named_kinds d_scheme_number d_scheme_told d_shown c A outer s H E T e1 e2 A2 outer2 s2 H2 E2 f2 c2 hr C2 T2⟩
    | 8, h => by
      cases at_8.symm.trans h
      exact ⟨LW8, Bd8, fun A2 outer2 s2 H2 E2 f2 c2 hr C2 T2 => lamOk_8 d_l_pick d_can_right d_can_tell d_contents_told d_failing_rings d_fewest_wrong d_flood_family d_flood_kept d_flood_lost_within d_flood_schemes d_is_flood_scheme d_late_kept d_late_lost_within d_mixed_kinds d_named_kinds d_scheme_number d_scheme_told d_shown c A outer s H E T e1 e2 A2 outer2 s2 H2 E2 f2 c2 hr C2 T2⟩
    | 9, h => by
      cases at_9.symm.trans h
      exact ⟨LW9, Bd9, fun A2 outer2 s2 H2 E2 f2 c2 hr C2 T2 => lamOk_9 d_l_pick d_can_right d_can_tell d_contents_told d_failing_rings d_fewest_wrong d_flood_family d_flood_kept d_flood_lost_within d_flood_schemes d_is_flood_scheme d_late_kept d_late_lost_within d_mixed_kinds d_named_kinds d_scheme_number d_scheme_told d_shown c A outer s H E T e1 e2 A2 outer2 s2 H2 E2 f2 c2 hr C2 T2⟩
    | 10, h => by
      cases at_10.symm.trans h
      exact ⟨LW10, Bd10, fun A2 outer2 s2 H2 E2 f2 c2 hr C2 T2 => lamOk_10 d_l_pick d_can_right d_can_tell d_contents_told d_failing_rings d_fewest_wrong d_flood_family d_flood_kept d_flood_lost_within d_flood_schemes d_is_flood_scheme d_late_kept d_late_lost_within d_mixed_kinds d_named_kinds d_scheme_number d_scheme_told d_shown c A outer s H E T e1 e2 A2 outer2 s2 H2 E2 f2 c2 hr C2 T2⟩
    | 11, h => by
      cases at_11.symm.trans h
      exact ⟨LW11, Bd11, fun A2 outer2 s2 H2 E2 f2 c2 hr C2 T2 => lamOk_11 d_l_pick d_can_right d_can_tell d_contents_told d_failing_rings d_fewest_wrong d_flood_family d_flood_kept d_flood_lost_within d_flood_schemes d_is_flood_scheme d_late_kept d_late_lost_within d_mixed_kinds d_named_kinds d_scheme_number d_scheme_told d_shown c A outer s H E T e1 e2 A2 outer2 s2 H2 E2 f2 c2 hr C2 T2⟩
    | 12, h => by
      cases at_12.symm.trans h
      exact ⟨LW12, Bd12, fun A2 outer2 s2 H2 E2 f2 c2 hr C2 T2 => lamOk_12 d_l_pick d_can_right d_can_tell d_contents_told d_failing_rings d_fewest_wrong d_flood_family d_flood_kept d_flood_lost_within d_flood_schemes d_is_flood_scheme d_late_kept d_late_lost_within d_mixed_kinds d_named_kinds d_scheme_number d_scheme_told d_shown c A outer s H E T e1 e2 A2 outer2 s2 H2 E2 f2 c2 hr C2 T2⟩
    | 13, h => by
      cases at_13.symm.trans h
      exact ⟨LW13, Bd13, fun A2 outer2 s2 H2 E2 f2 c2 hr C2 T2 => lamOk_13 d_l_pick d_can_right d_can_tell d_contents_told d_failing_rings d_fewest_wrong d_flood_family d_flood_kept d_flood_lost_within d_flood_schemes d_is_flood_scheme d_late_kept d_late_lost_within d_mixed_kinds d_named_kinds d_scheme_number d_scheme_told d_shown c A outer s H E T e1 e2 A2 outer2 s2 H2 E2 f2 c2 hr C2 T2⟩
    | 14, h => by
      cases at_14.symm.trans h
      exact ⟨LW14, Bd14, fun A2 outer2 s2 H2 E2 f2 c2 hr C2 T2 => lamOk_14 d_l_pick d_can_right d_can_tell d_contents_told d_failing_rings d_fewest_wrong d_flood_family d_flood_kept d_flood_lost_within d_flood_schemes d_is_flood_scheme d_late_kept d_late_lost_within d_mixed_kinds d_named_kinds d_scheme_number d_scheme_told d_shown c A outer s H E T e1 e2 A2 outer2 s2 H2 E2 f2 c2 hr C2 T2⟩
    | 15, h => by
      cases at_15.symm.trans h
      exact ⟨LW15, Bd15, fun A2 outer2 s2 H2 E2 f2 c2 hr C2 T2 => lamOk_15 d_l_pick d_can_right d_can_tell d_contents_told d_failing_rings d_fewest_wrong d_flood_family d_flood_kept d_flood_lost_within d_flood_schemes d_is_flood_scheme d_late_kept d_late_lost_within d_mixed_kinds d_named_kinds d_scheme_number d_scheme_told d_shown c A outer s H E T e1 e2 A2 outer2 s2 H2 E2 f2 c2 hr C2 T2⟩
    | 16, h => by
      cases at_16.symm.trans h
      exact ⟨LW16, Bd16, fun A2 outer2 s2 H2 E2 f2 c2 hr C2 T2 => lamOk_16 d_l_pick d_can_right d_can_tell d_contents_told d_failing_rings d_fewest_wrong d_flood_family d_flood_kept d_flood_lost_within d_flood_schemes d_is_flood_scheme d_late_kept d_late_lost_within d_mixed_kinds d_named_kinds d_scheme_number d_scheme_told d_shown c A outer s H E T e1 e2 A2 outer2 s2 H2 E2 f2 c2 hr C2 T2⟩
    | 17, h => by
      cases at_17.symm.trans h
      exact ⟨LW17, Bd17, fun A2 outer2 s2 H2 E2 f2 c2 hr C2 T2 => lamOk_17 d_l_pick d_can_right d_can_tell d_contents_told d_failing_rings d_fewest_wrong d_flood_family d_flood_kept d_flood_lost_within d_flood_schemes d_is_flood_scheme d_late_kept d_late_lost_within d_mixed_kinds d_named_kinds d_scheme_number d_scheme_told d_shown c A outer s H E T e1 e2 A2 outer2 s2 H2 E2 f2 c2 hr C2 T2⟩
    | 18, h => by
      cases at_18.symm.trans h
      exact ⟨LW18, Bd18, fun A2 outer2 s2 H2 E2 f2 c2 hr C2 T2 => lamOk_18 d_l_pick d_can_right d_can_tell d_contents_told d_failing_rings d_fewest_wrong d_flood_family d_flood_kept d_flood_lost_within d_flood_schemes d_is_flood_scheme d_late_kept d_late_lost_within d_mixed_kinds d_named_kinds d_scheme_number d_scheme_told d_shown c A outer s H E T e1 e2 A2 outer2 s2 H2 E2 f2 c2 hr C2 T2⟩
    | 19, h => by
      cases at_19.symm.trans h
      exact ⟨LW19, Bd19, fun A2 outer2 s2 H2 E2 f2 c2 hr C2 T2 => lamOk_19 d_l_pick d_can_right d_can_tell d_contents_told d_failing_rings d_fewest_wrong d_flood_family d_flood_kept d_flood_lost_within d_flood_schemes d_is_flood_scheme d_late_kept d_late_lost_within d_mixed_kinds d_named_kinds d_scheme_number d_scheme_told d_shown c A outer s H E T e1 e2 A2 outer2 s2 H2 E2 f2 c2 hr C2 T2⟩
    | k + 20, h => by
      have := (List.getElem?_eq_some_iff.mp h).1
      have e : (lams (defBody st_law)).length = 20 := len_lams
      exact absurd this (by show ¬ k + 20 < (lams (defBody st_law)).length; omega)⟩
end
end Mg
end
/-! ## K71Pro -/
section
set_option Elab.async false
set_option linter.all false
set_option maxRecDepth 100000
set_option maxHeartbeats 0
namespace Mg
open PySem PySem.Spec PyProof.Rows L2 GxR
section
variable {P : Program} {w : World} {K : PySem.W.Frag} {mg : Str → Option Value} {base : Heap} {Tb : TbT} {f : Addr} {fd : FuncData}
theorem ok_law0 (FD : FnP K "law" st_law f fd) (hm : mg "law" = some (.ref f)) {f_l_error : Addr} {fd_l_error : FuncData} (FD_l_error : FnP K "_law_error" st_l_error f_l_error fd_l_error) (hm_l_error : mg "_law_error" = some (.ref f_l_error)) (d_l_pick : ∀ T : TbT, T.tb = Tb.tb → T.lt = Tb.lt → DefOk P w K mg base T "_law_pick" 2 s_l_pick 2) (d_can_right : ∀ T : TbT, T.tb = Tb.tb → T.lt = Tb.lt → DefX P w K mg base T "can_right" 2 s_can_right 7) (d_can_tell : ∀ T : TbT, T.tb = Tb.tb → T.lt = Tb.lt → DefX P w K mg base T "can_tell" 2 s_can_tell 7) (d_contents_told : ∀ T : TbT, T.tb = Tb.tb → T.lt = Tb.lt → DefX P w K mg base T "contents_told" 3 s_contents_told 6) (d_failing_rings : ∀ T : TbT, T.tb = Tb.tb → T.lt = Tb.lt → DefX P w K mg base T "failing_rings" 3 s_failing_rings 6) (d_fewest_wrong : ∀ T : TbT, T.tb = Tb.tb → T.lt = Tb.lt → DefX P w K mg base T "fewest_wrong" 2 s_fewest_wrong 6) (d_flood_family : ∀ T : TbT, T.tb = Tb.tb → T.lt = Tb.lt → DefX P w K mg base T "flood_family" 3 s_flood_family 7) (d_flood_kept : ∀ T : TbT, T.tb = Tb.tb → T.lt = Tb.lt → DefX P w K mg base T "flood_kept" 3 s_flood_kept 7) (d_flood_lost_within : ∀ T : TbT, T.tb = Tb.tb → T.lt = Tb.lt → DefX P w K mg base T "flood_lost_within" 3 s_flood_lost_within 7) (d_flood_schemes : ∀ T : TbT, T.tb = Tb.tb → T.lt = Tb.lt → DefX P w K mg base T "flood_schemes" 4 s_flood_schemes 4) (d_is_flood_scheme : ∀ T : TbT, T.tb = Tb.tb → T.lt = Tb.lt → DefX P w K mg base T "is_flood_scheme" 3 s_is_flood_scheme 7) (d_late_kept : ∀ T : TbT, T.tb = Tb.tb → T.lt = Tb.lt → DefX P w K mg base T "late_kept" 3 s_late_kept 7) (d_late_lost_within : ∀ T : TbT, T.tb = Tb.tb → T.lt = Tb.lt → DefX P w K mg base T "late_lost_within" 3 s_late_lost_within 7) (d_mixed_kinds : ∀ T : TbT, T.tb = Tb.tb → T.lt = Tb.lt → DefX P w K mg base T "mixed_kinds" 3 s_mixed_kinds 4) (d_named_kinds : ∀ T : TbT, T.tb = Tb.tb → T.lt = Tb.lt → DefX P w K mg base T "named_kinds" 3 s_named_kinds 4) (d_scheme_number : ∀ T : TbT, T.tb = Tb.tb → T.lt = Tb.lt → DefX P w K mg base T "scheme_number" 2 s_scheme_number 6) (d_scheme_told : ∀ T : TbT, T.tb = Tb.tb → T.lt = Tb.lt → DefX P w K mg base T "scheme_told" 4 s_scheme_told 7) (d_shown : ∀ T : TbT, T.tb = Tb.tb → T.lt = Tb.lt → DefX P w K mg base T "shown" 2 s_shown 6) (b_ValueError : mg "ValueError" = none) (b_isinstance : mg "isinstance" = none) (EF : ExF K [0, 1, 2, 3, 4, 5, 6, 7]) {c0 T0 : Addr} (hcd : fd.code = .ref c0) (TBl : LamX.TabB base mg c0 T0) (hT0 : (T0, ("law.<locals>.<lambda>" : Str)) ∈ Tb.lt) (hT1 : ∀ p ∈ Tb.lt, p.1 = T0 → p.2 = ("law.<locals>.<lambda>" : Str)) (hme : Tb.me = none) (her : Tb.er = none) (hkp : Tb.keep = []) (m_BadDays : mg "BadDays" = some (.ref (He.ga K "BadDays"))) (m_BadLibrary : mg "BadLibrary" = some (.ref (He.ga K "BadLibrary"))) (m_BadMost : mg "BadMost" = some (.ref (He.ga K "BadMost"))) (m_BadNumber : mg "BadNumber" = some (.ref (He.ga K "BadNumber"))) (m_BadShown : mg "BadShown" = some (.ref (He.ga K "BadShown"))) (m_BadString : mg "BadString" = some (.ref (He.ga K "BadString"))) (m_BadTablet : mg "BadTablet" = some (.ref (He.ga K "BadTablet"))) (m_LibraryError : mg "LibraryError" = some (.ref (He.ga K "LibraryError"))) (m_NoScheme : mg "NoScheme" = some (.ref (He.ga K "NoScheme"))) (c : Addr) (A : Around) (outer : List PySem.Env) (s : Shared) (H : Hp) (E : XK) (T : TbT) (hc : fd.code = .ref c) (hr : Room 9 (A.deeper (envOfC "law" (defScope st_law) s.heap.objs.size f (.ref c)))) (e1 : T.tb = Tb.tb) (e2 : T.lt = Tb.lt) (e5 : T.cl = Tb.cl) (e4 : T.er = none) (e3 : T.me = some ⟨(cxOf CX0 P w K mg base ["_law_script", "_law_row", "_law_number", "_law_good", "_law_melts", "_law_late", "_law_wrong", "_law_works", "_law_bits", "_law_found", "_law_work"] "law" (defScope st_law) f (.ref c) A outer s H E).nox.env.cells, (cxOf CX0 P w K mg base ["_law_script", "_law_row", "_law_number", "_law_good", "_law_melts", "_law_late", "_law_wrong", "_law_works", "_law_bits", "_law_found", "_law_work"] "law" (defScope st_law) f (.ref c) A outer s H E).nox.env.qual ++ "<lambda>", lams (defBody st_law)⟩) (C : Ctx (mkF P w K T) (cxOf CX0 P w K mg base ["_law_script", "_law_row", "_law_number", "_law_good", "_law_melts", "_law_late", "_law_wrong", "_law_works", "_law_bits", "_law_found", "_law_work"] "law" (defScope st_law) f (.ref c) A outer s H E).nox) :
  PS (cxOf CX0 P w K mg base ["_law_script", "_law_row", "_law_number", "_law_good", "_law_melts", "_law_late", "_law_wrong", "_law_works", "_law_bits", "_law_found", "_law_work"] "law" (defScope st_law) f (.ref c) A outer s H E).nox ((defBody st_law).getD 0 (.Pass ⟨0, 0, 0, 0⟩)) (tS (mkF P w K T) b_law0) := by
  have ec := hc.symm.trans hcd
  obtain rfl : c = c0 := by cases ec; rfl
  have mk : Maker (mkF P w K T) (cxOf CX0 P w K mg base ["_law_script", "_law_row", "_law_number", "_law_good", "_law_melts", "_law_late", "_law_wrong", "_law_works", "_law_bits", "_law_found", "_law_work"] "law" (defScope st_law) f (.ref c) A outer s H E).nox ⟨(cxOf CX0 P w K mg base ["_law_script", "_law_row", "_law_number", "_law_good", "_law_melts", "_law_late", "_law_wrong", "_law_works", "_law_bits", "_law_found", "_law_work"] "law" (defScope st_law) f (.ref c) A outer s H E).nox.env.cells, (cxOf CX0 P w K mg base ["_law_script", "_law_row", "_law_number", "_law_good", "_law_melts", "_law_late", "_law_wrong", "_law_works", "_law_bits", "_law_found", "_law_work"] "law" (defScope st_law) f (.ref c) A outer s H E).nox.env.qual ++ "<lambda>", lams (defBody st_law)⟩ c T0 := ⟨e3, rfl, rfl, TBl, rfl, by show _ ∈ T.lt; rw [e2]; exact hT0, fun p hp e => hT1 p (by rw [← e2]; exact hp) e⟩
  have lo : ∀ T2 : TbT, T2.tb = Tb.tb → T2.lt = Tb.lt → T2.me = some ⟨(cxOf CX0 P w K mg base ["_law_script", "_law_row", "_law_number", "_law_good", "_law_melts", "_law_late", "_law_wrong", "_law_works", "_law_bits", "_law_found", "_law_work"] "law" (defScope st_law) f (.ref c) A outer s H E).nox.env.cells, (cxOf CX0 P w K mg base ["_law_script", "_law_row", "_law_number", "_law_good", "_law_melts", "_law_late", "_law_wrong", "_law_works", "_law_bits", "_law_found", "_law_work"] "law" (defScope st_law) f (.ref c) A outer s H E).nox.env.qual ++ "<lambda>", lams (defBody st_law)⟩ → T2.er = none → LamsOk (mkF P w K T2) (cxOf CX0 P w K mg base ["_law_script", "_law_row", "_law_number", "_law_good", "_law_melts", "_law_late", "_law_wrong", "_law_works", "_law_bits", "_law_found", "_law_work"] "law" (defScope st_law) f (.ref c) A outer s H E).nox ⟨(cxOf CX0 P w K mg base ["_law_script", "_law_row", "_law_number", "_law_good", "_law_melts", "_law_late", "_law_wrong", "_law_works", "_law_bits", "_law_found", "_law_work"] "law" (defScope st_law) f (.ref c) A outer s H E).nox.env.cells, (cxOf CX0 P w K mg base ["_law_script", "_law_row", "_law_number", "_law_good", "_law_melts", "_law_late", "_law_wrong", "_law_works", "_law_bits", "_law_found", "_law_work"] "law" (defScope st_law) f (.ref c) A outer s H E).nox.env.qual ++ "<lambda>", lams (defBody st_law)⟩ 7 lam_law := fun T2 q1 q2 q3 _ => lo_law d_l_pick d_can_right d_can_tell d_contents_told d_failing_rings d_fewest_wrong d_flood_family d_flood_kept d_flood_lost_within d_flood_schemes d_is_flood_scheme d_late_kept d_late_lost_within d_mixed_kinds d_named_kinds d_scheme_number d_scheme_told d_shown c A outer s H E T2 q1 q2 q3
  have d_l_pick := d_l_pick T e1 e2; have d_can_right := d_can_right T e1 e2; have d_can_tell := d_can_tell T e1 e2; have d_contents_told := d_contents_told T e1 e2; have d_failing_rings := d_failing_rings T e1 e2; have d_fewest_wrong := d_fewest_wrong T e1 e2; have d_flood_family := d_flood_family T e1 e2; have d_flood_kept := d_flood_kept T e1 e2; have d_flood_lost_within := d_flood_lost_within T e1 e2; have d_flood_schemes := d_flood_schemes T e1 e2; have d_is_flood_scheme := d_is_flood_scheme T e1 e2; have d_late_kept := d_late_kept T e1 e2; have d_late_lost_within := d_late_lost_within T e1 e2; have d_mixed_kinds := d_mixed_kinds T e1 e2; have d_named_kinds := d_named_kinds T e1 e2; have d_scheme_number := d_scheme_number T e1 e2; have d_scheme_told := d_scheme_told T e1 e2; have d_shown := d_shown T e1 e2
  exact (ds_box (i := 1) (db_cons (de_var 0) (db_cons de_int (db_cons de_int (db_cons de_int db_nil)))) (few_cons (few_cons (few_cons (few_cons few_nil)))) sc_law.nd)
theorem ok_law1 (FD : FnP K "law" st_law f fd) (hm : mg "law" = some (.ref f)) {f_l_error : Addr} {fd_l_error : FuncData} (FD_l_error : FnP K "_law_error" st_l_error f_l_error fd_l_error) (hm_l_error : mg "_law_error" = some (.ref f_l_error)) (d_l_pick : ∀ T : TbT, T.tb = Tb.tb → T.lt = Tb.lt → DefOk P w K mg base T "_law_pick" 2 s_l_pick 2) (d_can_right : ∀ T : TbT, T.tb = Tb.tb → T.lt = Tb.lt → DefX P w K mg base T "can_right" 2 s_can_right 7) (d_can_tell : ∀ T : TbT, T.tb = Tb.tb → T.lt = Tb.lt → DefX P w K mg base T "can_tell" 2 s_can_tell 7) (d_contents_told : ∀ T : TbT, T.tb = Tb.tb → T.lt = Tb.lt → DefX P w K mg base T "contents_told" 3 s_contents_told 6) (d_failing_rings : ∀ T : TbT, T.tb = Tb.tb → T.lt = Tb.lt → DefX P w K mg base T "failing_rings" 3 s_failing_rings 6) (d_fewest_wrong : ∀ T : TbT, T.tb = Tb.tb → T.lt = Tb.lt → DefX P w K mg base T "fewest_wrong" 2 s_fewest_wrong 6) (d_flood_family : ∀ T : TbT, T.tb = Tb.tb → T.lt = Tb.lt → DefX P w K mg base T "flood_family" 3 s_flood_family 7) (d_flood_kept : ∀ T : TbT, T.tb = Tb.tb → T.lt = Tb.lt → DefX P w K mg base T "flood_kept" 3 s_flood_kept 7) (d_flood_lost_within : ∀ T : TbT, T.tb = Tb.tb → T.lt = Tb.lt → DefX P w K mg base T "flood_lost_within" 3 s_flood_lost_within 7) (d_flood_schemes : ∀ T : TbT, T.tb = Tb.tb → T.lt = Tb.lt → DefX P w K mg base T "flood_schemes" 4 s_flood_schemes 4) (d_is_flood_scheme : ∀ T : TbT, T.tb = Tb.tb → T.lt = Tb.lt → DefX P w K mg base T "is_flood_scheme" 3 s_is_flood_scheme 7) (d_late_kept : ∀ T : TbT, T.tb = Tb.tb → T.lt = Tb.lt → DefX P w K mg base T "late_kept" 3 s_late_kept 7) (d_late_lost_within : ∀ T : TbT, T.tb = Tb.tb → T.lt = Tb.lt → DefX P w K mg base T "late_lost_within" 3 s_late_lost_within 7) (d_mixed_kinds : ∀ T : TbT, T.tb = Tb.tb → T.lt = Tb.lt → DefX P w K mg base T "mixed_kinds" 3 s_mixed_kinds 4) (d_named_kinds : ∀ T : TbT, T.tb = Tb.tb → T.lt = Tb.lt → DefX P w K mg base T "named_kinds" 3 s_named_kinds 4) (d_scheme_number : ∀ T : TbT, T.tb = Tb.tb → T.lt = Tb.lt → DefX P w K mg base T "scheme_number" 2 s_scheme_number 6) (d_scheme_told : ∀ T : TbT, T.tb = Tb.tb → T.lt = Tb.lt → DefX P w K mg base T "scheme_told" 4 s_scheme_told 7) (d_shown : ∀ T : TbT, T.tb = Tb.tb → T.lt = Tb.lt → DefX P w K mg base T "shown" 2 s_shown 6) (b_ValueError : mg "ValueError" = none) (b_isinstance : mg "isinstance" = none) (EF : ExF K [0, 1, 2, 3, 4, 5, 6, 7]) {c0 T0 : Addr} (hcd : fd.code = .ref c0) (TBl : LamX.TabB base mg c0 T0) (hT0 : (T0, ("law.<locals>.<lambda>" : Str)) ∈ Tb.lt) (hT1 : ∀ p ∈ Tb.lt, p.1 = T0 → p.2 = ("law.<locals>.<lambda>" : Str)) (hme : Tb.me = none) (her : Tb.er = none) (hkp : Tb.keep = []) (m_BadDays : mg "BadDays" = some (.ref (He.ga K "BadDays"))) (m_BadLibrary : mg "BadLibrary" = some (.ref (He.ga K "BadLibrary"))) (m_BadMost : mg "BadMost" = some (.ref (He.ga K "BadMost"))) (m_BadNumber : mg "BadNumber" = some (.ref (He.ga K "BadNumber"))) (m_BadShown : mg "BadShown" = some (.ref (He.ga K "BadShown"))) (m_BadString : mg "BadString" = some (.ref (He.ga K "BadString"))) (m_BadTablet : mg "BadTablet" = some (.ref (He.ga K "BadTablet"))) (m_LibraryError : mg "LibraryError" = some (.ref (He.ga K "LibraryError"))) (m_NoScheme : mg "NoScheme" = some (.ref (He.ga K "NoScheme"))) (c : Addr) (A : Around) (outer : List PySem.Env) (s : Shared) (H : Hp) (E : XK) (T : TbT) (hc : fd.code = .ref c) (hr : Room 9 (A.deeper (envOfC "law" (defScope st_law) s.heap.objs.size f (.ref c)))) (e1 : T.tb = Tb.tb) (e2 : T.lt = Tb.lt) (e5 : T.cl = Tb.cl) (e4 : T.er = none) (e3 : T.me = some ⟨(cxOf CX0 P w K mg base ["_law_script", "_law_row", "_law_number", "_law_good", "_law_melts", "_law_late", "_law_wrong", "_law_works", "_law_bits", "_law_found", "_law_work"] "law" (defScope st_law) f (.ref c) A outer s H E).nox.env.cells, (cxOf CX0 P w K mg base ["_law_script", "_law_row", "_law_number", "_law_good", "_law_melts", "_law_late", "_law_wrong", "_law_works", "_law_bits", "_law_found", "_law_work"] "law" (defScope st_law) f (.ref c) A outer s H E).nox.env.qual ++ "<lambda>", lams (defBody st_law)⟩) (C : Ctx (mkF P w K T) (cxOf CX0 P w K mg base ["_law_script", "_law_row", "_law_number", "_law_good", "_law_melts", "_law_late", "_law_wrong", "_law_works", "_law_bits", "_law_found", "_law_work"] "law" (defScope st_law) f (.ref c) A outer s H E).nox) :
  PS (cxOf CX0 P w K mg base ["_law_script", "_law_row", "_law_number", "_law_good", "_law_melts", "_law_late", "_law_wrong", "_law_works", "_law_bits", "_law_found", "_law_work"] "law" (defScope st_law) f (.ref c) A outer s H E).nox ((defBody st_law).getD 1 (.Pass ⟨0, 0, 0, 0⟩)) (tS (mkF P w K T) b_law1) := by
  have ec := hc.symm.trans hcd
  obtain rfl : c = c0 := by cases ec; rfl
  have mk : Maker (mkF P w K T) (cxOf CX0 P w K mg base ["_law_script", "_law_row", "_law_number", "_law_good", "_law_melts", "_law_late", "_law_wrong", "_law_works", "_law_bits", "_law_found", "_law_work"] "law" (defScope st_law) f (.ref c) A outer s H E).nox ⟨(cxOf CX0 P w K mg base ["_law_script", "_law_row", "_law_number", "_law_good", "_law_melts", "_law_late", "_law_wrong", "_law_works", "_law_bits", "_law_found", "_law_work"] "law" (defScope st_law) f (.ref c) A outer s H E).nox.env.cells, (cxOf CX0 P w K mg base ["_law_script", "_law_row", "_law_number", "_law_good", "_law_melts", "_law_late", "_law_wrong", "_law_works", "_law_bits", "_law_found", "_law_work"] "law" (defScope st_law) f (.ref c) A outer s H E).nox.env.qual ++ "<lambda>", lams (defBody st_law)⟩ c T0 := ⟨e3, rfl, rfl, TBl, rfl, by show _ ∈ T.lt; rw [e2]; exact hT0, fun p hp e => hT1 p (by rw [← e2]; exact hp) e⟩
  have lo : ∀ T2 : TbT, T2.tb = Tb.tb → T2.lt = Tb.lt → T2.me = some ⟨(cxOf CX0 P w K mg base ["_law_script", "_law_row", "_law_number", "_law_good", "_law_melts", "_law_late", "_law_wrong", "_law_works", "_law_bits", "_law_found", "_law_work"] "law" (defScope st_law) f (.ref c) A outer s H E).nox.env.cells, (cxOf CX0 P w K mg base ["_law_script", "_law_row", "_law_number", "_law_good", "_law_melts", "_law_late", "_law_wrong", "_law_works", "_law_bits", "_law_found", "_law_work"] "law" (defScope st_law) f (.ref c) A outer s H E).nox.env.qual ++ "<lambda>", lams (defBody st_law)⟩ → T2.er = none → LamsOk (mkF P w K T2) (cxOf CX0 P w K mg base ["_law_script", "_law_row", "_law_number", "_law_good", "_law_melts", "_law_late", "_law_wrong", "_law_works", "_law_bits", "_law_found", "_law_work"] "law" (defScope st_law) f (.ref c) A outer s H E).nox ⟨(cxOf CX0 P w K mg base ["_law_script", "_law_row", "_law_number", "_law_good", "_law_melts", "_law_late", "_law_wrong", "_law_works", "_law_bits", "_law_found", "_law_work"] "law" (defScope st_law) f (.ref c) A outer s H E).nox.env.cells, (cxOf CX0 P w K mg base ["_law_script", "_law_row", "_law_number", "_law_good", "_law_melts", "_law_late", "_law_wrong", "_law_works", "_law_bits", "_law_found", "_law_work"] "law" (defScope st_law) f (.ref c) A outer s H E).nox.env.qual ++ "<lambda>", lams (defBody st_law)⟩ 7 lam_law := fun T2 q1 q2 q3 _ => lo_law d_l_pick d_can_right d_can_tell d_contents_told d_failing_rings d_fewest_wrong d_flood_family d_flood_kept d_flood_lost_within d_flood_schemes d_is_flood_scheme d_late_kept d_late_lost_within d_mixed_kinds d_named_kinds d_scheme_number d_scheme_told d_shown c A outer s H E T2 q1 q2 q3
  have d_l_pick := d_l_pick T e1 e2; have d_can_right := d_can_right T e1 e2; have d_can_tell := d_can_tell T e1 e2; have d_contents_told := d_contents_told T e1 e2; have d_failing_rings := d_failing_rings T e1 e2; have d_fewest_wrong := d_fewest_wrong T e1 e2; have d_flood_family := d_flood_family T e1 e2; have d_flood_kept := d_flood_kept T e1 e2; have d_flood_lost_within := d_flood_lost_within T e1 e2; have d_flood_schemes := d_flood_schemes T e1 e2; have d_is_flood_scheme := d_is_flood_scheme T e1 e2; have d_late_kept := d_late_kept T e1 e2; have d_late_lost_within := d_late_lost_within T e1 e2; have d_mixed_kinds := d_mixed_kinds T e1 e2; have d_named_kinds := d_named_kinds T e1 e2; have d_scheme_number := d_scheme_number T e1 e2; have d_scheme_told := d_scheme_told T e1 e2; have d_shown := d_shown T e1 e2
  exact (ds_asg (de_tup (db_cons (ve_call d_l_pick hr (ha := (db_cons (de_var 1) (db_cons (de_lst (db_cons de_non (db_cons (ve_neg (L2.PE.weak de_int)) (db_cons de_int (db_cons de_bl (db_cons (de_str rfl) db_nil))))) (few_cons (few_cons (few_cons (few_cons (few_cons few_nil)))))) db_nil))) (hn := (cnt_cons (cnt_cons cnt_nil)))) (db_cons (de_tup (db_cons de_int (db_cons (de_tup (db_cons (de_tup (db_cons de_int db_nil) (few_cons few_nil)) (db_cons (de_tup (db_cons de_int db_nil) (few_cons few_nil)) (db_cons (de_tup (db_cons de_int (db_cons de_int db_nil)) (few_cons (few_cons few_nil))) db_nil))) (few_cons (few_cons (few_cons few_nil)))) db_nil)) (few_cons (few_cons few_nil))) db_nil)) (few_cons (few_cons few_nil))) (dg_tup (dgs_cons (dg_nm 2 sc_law.nd) (dgs_cons (dg_nm 3 sc_law.nd) dgs_nil))))
theorem ok_law2 (FD : FnP K "law" st_law f fd) (hm : mg "law" = some (.ref f)) {f_l_error : Addr} {fd_l_error : FuncData} (FD_l_error : FnP K "_law_error" st_l_error f_l_error fd_l_error) (hm_l_error : mg "_law_error" = some (.ref f_l_error)) (d_l_pick : ∀ T : TbT, T.tb = Tb.tb → T.lt = Tb.lt → DefOk P w K mg base T "_law_pick" 2 s_l_pick 2) (d_can_right : ∀ T : TbT, T.tb = Tb.tb → T.lt = Tb.lt → DefX P w K mg base T "can_right" 2 s_can_right 7) (d_can_tell : ∀ T : TbT, T.tb = Tb.tb → T.lt = Tb.lt → DefX P w K mg base T "can_tell" 2 s_can_tell 7) (d_contents_told : ∀ T : TbT, T.tb = Tb.tb → T.lt = Tb.lt → DefX P w K mg base T "contents_told" 3 s_contents_told 6) (d_failing_rings : ∀ T : TbT, T.tb = Tb.tb → T.lt = Tb.lt → DefX P w K mg base T "failing_rings" 3 s_failing_rings 6) (d_fewest_wrong : ∀ T : TbT, T.tb = Tb.tb → T.lt = Tb.lt → DefX P w K mg base T "fewest_wrong" 2 s_fewest_wrong 6) (d_flood_family : ∀ T : TbT, T.tb = Tb.tb → T.lt = Tb.lt → DefX P w K mg base T "flood_family" 3 s_flood_family 7) (d_flood_kept : ∀ T : TbT, T.tb = Tb.tb → T.lt = Tb.lt → DefX P w K mg base T "flood_kept" 3 s_flood_kept 7) (d_flood_lost_within : ∀ T : TbT, T.tb = Tb.tb → T.lt = Tb.lt → DefX P w K mg base T "flood_lost_within" 3 s_flood_lost_within 7) (d_flood_schemes : ∀ T : TbT, T.tb = Tb.tb → T.lt = Tb.lt → DefX P w K mg base T "flood_schemes" 4 s_flood_schemes 4) (d_is_flood_scheme : ∀ T : TbT, T.tb = Tb.tb → T.lt = Tb.lt → DefX P w K mg base T "is_flood_scheme" 3 s_is_flood_scheme 7) (d_late_kept : ∀ T : TbT, T.tb = Tb.tb → T.lt = Tb.lt → DefX P w K mg base T "late_kept" 3 s_late_kept 7) (d_late_lost_within : ∀ T : TbT, T.tb = Tb.tb → T.lt = Tb.lt → DefX P w K mg base T "late_lost_within" 3 s_late_lost_within 7) (d_mixed_kinds : ∀ T : TbT, T.tb = Tb.tb → T.lt = Tb.lt → DefX P w K mg base T "mixed_kinds" 3 s_mixed_kinds 4) (d_named_kinds : ∀ T : TbT, T.tb = Tb.tb → T.lt = Tb.lt → DefX P w K mg base T "named_kinds" 3 s_named_kinds 4) (d_scheme_number : ∀ T : TbT, T.tb = Tb.tb → T.lt = Tb.lt → DefX P w K mg base T "scheme_number" 2 s_scheme_number 6) (d_scheme_told : ∀ T : TbT, T.tb = Tb.tb → T.lt = Tb.lt → DefX P w K mg base T "scheme_told" 4 s_scheme_told 7) (d_shown : ∀ T : TbT, T.tb = Tb.tb → T.lt = Tb.lt → DefX P w K mg base T "shown" 2 s_shown 6) (b_ValueError : mg "ValueError" = none) (b_isinstance : mg "isinstance" = none) (EF : ExF K [0, 1, 2, 3, 4, 5, 6, 7]) {c0 T0 : Addr} (hcd : fd.code = .ref c0) (TBl : LamX.TabB base mg c0 T0) (hT0 : (T0, ("law.<locals>.<lambda>" : Str)) ∈ Tb.lt) (hT1 : ∀ p ∈ Tb.lt, p.1 = T0 → p.2 = ("law.<locals>.<lambda>" : Str)) (hme : Tb.me = none) (her : Tb.er = none) (hkp : Tb.keep = []) (m_BadDays : mg "BadDays" = some (.ref (He.ga K "BadDays"))) (m_BadLibrary : mg "BadLibrary" = some (.ref (He.ga K "BadLibrary"))) (m_BadMost : mg "BadMost" = some (.ref (He.ga K "BadMost"))) (m_BadNumber : mg "BadNumber" = some (.ref (He.ga K "BadNumber"))) (m_BadShown : mg "BadShown" = some (.ref (He.ga K "BadShown"))) (m_BadString : mg "BadString" = some (.ref (He.ga K "BadString"))) (m_BadTablet : mg "BadTablet" = some (.ref (He.ga K "BadTablet"))) (m_LibraryError : mg "LibraryError" = some (.ref (He.ga K "LibraryError"))) (m_NoScheme : mg "NoScheme" = some (.ref (He.ga K "NoScheme"))) (c : Addr) (A : Around) (outer : List PySem.Env) (s : Shared) (H : Hp) (E : XK) (T : TbT) (hc : fd.code = .ref c) (hr : Room 9 (A.deeper (envOfC "law" (defScope st_law) s.heap.objs.size f (.ref c)))) (e1 : T.tb = Tb.tb) (e2 : T.lt = Tb.lt) (e5 : T.cl = Tb.cl) (e4 : T.er = none) (e3 : T.me = some ⟨(cxOf CX0 P w K mg base ["_law_script", "_law_row", "_law_number", "_law_good", "_law_melts", "_law_late", "_law_wrong", "_law_works", "_law_bits", "_law_found", "_law_work"] "law" (defScope st_law) f (.ref c) A outer s H E).nox.env.cells, (cxOf CX0 P w K mg base ["_law_script", "_law_row", "_law_number", "_law_good", "_law_melts", "_law_late", "_law_wrong", "_law_works", "_law_bits", "_law_found", "_law_work"] "law" (defScope st_law) f (.ref c) A outer s H E).nox.env.qual ++ "<lambda>", lams (defBody st_law)⟩) (C : Ctx (mkF P w K T) (cxOf CX0 P w K mg base ["_law_script", "_law_row", "_law_number", "_law_good", "_law_melts", "_law_late", "_law_wrong", "_law_works", "_law_bits", "_law_found", "_law_work"] "law" (defScope st_law) f (.ref c) A outer s H E).nox) :
  PS (cxOf CX0 P w K mg base ["_law_script", "_law_row", "_law_number", "_law_good", "_law_melts", "_law_late", "_law_wrong", "_law_works", "_law_bits", "_law_found", "_law_work"] "law" (defScope st_law) f (.ref c) A outer s H E).nox ((defBody st_law).getD 2 (.Pass ⟨0, 0, 0, 0⟩)) (tS (mkF P w K T) b_law2) := by
  have ec := hc.symm.trans hcd
  obtain rfl : c = c0 := by cases ec; rfl
  have mk : Maker (mkF P w K T) (cxOf CX0 P w K mg base ["_law_script", "_law_row", "_law_number", "_law_good", "_law_melts", "_law_late", "_law_wrong", "_law_works", "_law_bits", "_law_found", "_law_work"] "law" (defScope st_law) f (.ref c) A outer s H E).nox ⟨(cxOf CX0 P w K mg base ["_law_script", "_law_row", "_law_number", "_law_good", "_law_melts", "_law_late", "_law_wrong", "_law_works", "_law_bits", "_law_found", "_law_work"] "law" (defScope st_law) f (.ref c) A outer s H E).nox.env.cells, (cxOf CX0 P w K mg base ["_law_script", "_law_row", "_law_number", "_law_good", "_law_melts", "_law_late", "_law_wrong", "_law_works", "_law_bits", "_law_found", "_law_work"] "law" (defScope st_law) f (.ref c) A outer s H E).nox.env.qual ++ "<lambda>", lams (defBody st_law)⟩ c T0 := ⟨e3, rfl, rfl, TBl, rfl, by show _ ∈ T.lt; rw [e2]; exact hT0, fun p hp e => hT1 p (by rw [← e2]; exact hp) e⟩
  have lo : ∀ T2 : TbT, T2.tb = Tb.tb → T2.lt = Tb.lt → T2.me = some ⟨(cxOf CX0 P w K mg base ["_law_script", "_law_row", "_law_number", "_law_good", "_law_melts", "_law_late", "_law_wrong", "_law_works", "_law_bits", "_law_found", "_law_work"] "law" (defScope st_law) f (.ref c) A outer s H E).nox.env.cells, (cxOf CX0 P w K mg base ["_law_script", "_law_row", "_law_number", "_law_good", "_law_melts", "_law_late", "_law_wrong", "_law_works", "_law_bits", "_law_found", "_law_work"] "law" (defScope st_law) f (.ref c) A outer s H E).nox.env.qual ++ "<lambda>", lams (defBody st_law)⟩ → T2.er = none → LamsOk (mkF P w K T2) (cxOf CX0 P w K mg base ["_law_script", "_law_row", "_law_number", "_law_good", "_law_melts", "_law_late", "_law_wrong", "_law_works", "_law_bits", "_law_found", "_law_work"] "law" (defScope st_law) f (.ref c) A outer s H E).nox ⟨(cxOf CX0 P w K mg base ["_law_script", "_law_row", "_law_number", "_law_good", "_law_melts", "_law_late", "_law_wrong", "_law_works", "_law_bits", "_law_found", "_law_work"] "law" (defScope st_law) f (.ref c) A outer s H E).nox.env.cells, (cxOf CX0 P w K mg base ["_law_script", "_law_row", "_law_number", "_law_good", "_law_melts", "_law_late", "_law_wrong", "_law_works", "_law_bits", "_law_found", "_law_work"] "law" (defScope st_law) f (.ref c) A outer s H E).nox.env.qual ++ "<lambda>", lams (defBody st_law)⟩ 7 lam_law := fun T2 q1 q2 q3 _ => lo_law d_l_pick d_can_right d_can_tell d_contents_told d_failing_rings d_fewest_wrong d_flood_family d_flood_kept d_flood_lost_within d_flood_schemes d_is_flood_scheme d_late_kept d_late_lost_within d_mixed_kinds d_named_kinds d_scheme_number d_scheme_told d_shown c A outer s H E T2 q1 q2 q3
  have d_l_pick := d_l_pick T e1 e2; have d_can_right := d_can_right T e1 e2; have d_can_tell := d_can_tell T e1 e2; have d_contents_told := d_contents_told T e1 e2; have d_failing_rings := d_failing_rings T e1 e2; have d_fewest_wrong := d_fewest_wrong T e1 e2; have d_flood_family := d_flood_family T e1 e2; have d_flood_kept := d_flood_kept T e1 e2; have d_flood_lost_within := d_flood_lost_within T e1 e2; have d_flood_schemes := d_flood_schemes T e1 e2; have d_is_flood_scheme := d_is_flood_scheme T e1 e2; have d_late_kept := d_late_kept T e1 e2; have d_late_lost_within := d_late_lost_within T e1 e2; have d_mixed_kinds := d_mixed_kinds T e1 e2; have d_named_kinds := d_named_kinds T e1 e2; have d_scheme_number := d_scheme_number T e1 e2; have d_scheme_told := d_scheme_told T e1 e2; have d_shown := d_shown T e1 e2
  exact (ds_asg (de_tup (db_cons (ve_call d_l_pick hr (ha := (db_cons (de_var 1) (db_cons (de_lst (db_cons de_non (db_cons de_int (db_cons de_int (db_cons de_bl db_nil)))) (few_cons (few_cons (few_cons (few_cons few_nil))))) db_nil))) (hn := (cnt_cons (cnt_cons cnt_nil)))) (db_cons (ve_call d_l_pick hr (ha := (db_cons (de_var 1) (db_cons (de_lst (db_cons de_non (db_cons (ve_neg (L2.PE.weak de_int)) (db_cons de_int (db_cons de_bl db_nil)))) (few_cons (few_cons (few_cons (few_cons few_nil))))) db_nil))) (hn := (cnt_cons (cnt_cons cnt_nil)))) (db_cons (ve_call d_l_pick hr (ha := (db_cons (de_var 1) (db_cons (de_lst (db_cons de_non (db_cons (ve_neg (L2.PE.weak de_int)) (db_cons de_int (db_cons de_bl db_nil)))) (few_cons (few_cons (few_cons (few_cons few_nil))))) db_nil))) (hn := (cnt_cons (cnt_cons cnt_nil)))) db_nil))) (few_cons (few_cons (few_cons few_nil)))) (dg_tup (dgs_cons (dg_nm 4 sc_law.nd) (dgs_cons (dg_nm 5 sc_law.nd) (dgs_cons (dg_nm 6 sc_law.nd) dgs_nil)))))
theorem ok_law3 (FD : FnP K "law" st_law f fd) (hm : mg "law" = some (.ref f)) {f_l_error : Addr} {fd_l_error : FuncData} (FD_l_error : FnP K "_law_error" st_l_error f_l_error fd_l_error) (hm_l_error : mg "_law_error" = some (.ref f_l_error)) (d_l_pick : ∀ T : TbT, T.tb = Tb.tb → T.lt = Tb.lt → DefOk P w K mg base T "_law_pick" 2 s_l_pick 2) (d_can_right : ∀ T : TbT, T.tb = Tb.tb → T.lt = Tb.lt → DefX P w K mg base T "can_right" 2 s_can_right 7) (d_can_tell : ∀ T : TbT, T.tb = Tb.tb → T.lt = Tb.lt → DefX P w K mg base T "can_tell" 2 s_can_tell 7) (d_contents_told : ∀ T : TbT, T.tb = Tb.tb → T.lt = Tb.lt → DefX P w K mg base T "contents_told" 3 s_contents_told 6) (d_failing_rings : ∀ T : TbT, T.tb = Tb.tb → T.lt = Tb.lt → DefX P w K mg base T "failing_rings" 3 s_failing_rings 6) (d_fewest_wrong : ∀ T : TbT, T.tb = Tb.tb → T.lt = Tb.lt → DefX P w K mg base T "fewest_wrong" 2 s_fewest_wrong 6) (d_flood_family : ∀ T : TbT, T.tb = Tb.tb → T.lt = Tb.lt → DefX P w K mg base T "flood_family" 3 s_flood_family 7) (d_flood_kept : ∀ T : TbT, T.tb = Tb.tb → T.lt = Tb.lt → DefX P w K mg base T "flood_kept" 3 s_flood_kept 7) (d_flood_lost_within : ∀ T : TbT, T.tb = Tb.tb → T.lt = Tb.lt → DefX P w K mg base T "flood_lost_within" 3 s_flood_lost_within 7) (d_flood_schemes : ∀ T : TbT, T.tb = Tb.tb → T.lt = Tb.lt → DefX P w K mg base T "flood_schemes" 4 s_flood_schemes 4) (d_is_flood_scheme : ∀ T : TbT, T.tb = Tb.tb → T.lt = Tb.lt → DefX P w K mg base T "is_flood_scheme" 3 s_is_flood_scheme 7) (d_late_kept : ∀ T : TbT, T.tb = Tb.tb → T.lt = Tb.lt → DefX P w K mg base T "late_kept" 3 s_late_kept 7) (d_late_lost_within : ∀ T : TbT, T.tb = Tb.tb → T.lt = Tb.lt → DefX P w K mg base T "late_lost_within" 3 s_late_lost_within 7) (d_mixed_kinds : ∀ T : TbT, T.tb = Tb.tb → T.lt = Tb.lt → DefX P w K mg base T "mixed_kinds" 3 s_mixed_kinds 4) (d_named_kinds : ∀ T : TbT, T.tb = Tb.tb → T.lt = Tb.lt → DefX P w K mg base T "named_kinds" 3 s_named_kinds 4) (d_scheme_number : ∀ T : TbT, T.tb = Tb.tb → T.lt = Tb.lt → DefX P w K mg base T "scheme_number" 2 s_scheme_number 6) (d_scheme_told : ∀ T : TbT, T.tb = Tb.tb → T.lt = Tb.lt → DefX P w K mg base T "scheme_told" 4 s_scheme_told 7) (d_shown : ∀ T : TbT, T.tb = Tb.tb → T.lt = Tb.lt → DefX P w K mg base T "shown" 2 s_shown 6) (b_ValueError : mg "ValueError" = none) (b_isinstance : mg "isinstance" = none) (EF : ExF K [0, 1, 2, 3, 4, 5, 6, 7]) {c0 T0 : Addr} (hcd : fd.code = .ref c0) (TBl : LamX.TabB base mg c0 T0) (hT0 : (T0, ("law.<locals>.<lambda>" : Str)) ∈ Tb.lt) (hT1 : ∀ p ∈ Tb.lt, p.1 = T0 → p.2 = ("law.<locals>.<lambda>" : Str)) (hme : Tb.me = none) (her : Tb.er = none) (hkp : Tb.keep = []) (m_BadDays : mg "BadDays" = some (.ref (He.ga K "BadDays"))) (m_BadLibrary : mg "BadLibrary" = some (.ref (He.ga K "BadLibrary"))) (m_BadMost : mg "BadMost" = some (.ref (He.ga K "BadMost"))) (m_BadNumber : mg "BadNumber" = some (.ref (He.ga K "BadNumber"))) (m_BadShown : mg "BadShown" = some (.ref (He.ga K "BadShown"))) (m_BadString : mg "BadString" = some (.ref (He.ga K "BadString"))) (m_BadTablet : mg "BadTablet" = some (.ref (He.ga K "BadTablet"))) (m_LibraryError : mg "LibraryError" = some (.ref (He.ga K "LibraryError"))) (m_NoScheme : mg "NoScheme" = some (.ref (He.ga K "NoScheme"))) (c : Addr) (A : Around) (outer : List PySem.Env) (s : Shared) (H : Hp) (E : XK) (T : TbT) (hc : fd.code = .ref c) (hr : Room 9 (A.deeper (envOfC "law" (defScope st_law) s.heap.objs.size f (.ref c)))) (e1 : T.tb = Tb.tb) (e2 : T.lt = Tb.lt) (e5 : T.cl = Tb.cl) (e4 : T.er = none) (e3 : T.me = some ⟨(cxOf CX0 P w K mg base ["_law_script", "_law_row", "_law_number", "_law_good", "_law_melts", "_law_late", "_law_wrong", "_law_works", "_law_bits", "_law_found", "_law_work"] "law" (defScope st_law) f (.ref c) A outer s H E).nox.env.cells, (cxOf CX0 P w K mg base ["_law_script", "_law_row", "_law_number", "_law_good", "_law_melts", "_law_late", "_law_wrong", "_law_works", "_law_bits", "_law_found", "_law_work"] "law" (defScope st_law) f (.ref c) A outer s H E).nox.env.qual ++ "<lambda>", lams (defBody st_law)⟩) (C : Ctx (mkF P w K T) (cxOf CX0 P w K mg base ["_law_script", "_law_row", "_law_number", "_law_good", "_law_melts", "_law_late", "_law_wrong", "_law_works", "_law_bits", "_law_found", "_law_work"] "law" (defScope st_law) f (.ref c) A outer s H E).nox) :
  PS (cxOf CX0 P w K mg base ["_law_script", "_law_row", "_law_number", "_law_good", "_law_melts", "_law_late", "_law_wrong", "_law_works", "_law_bits", "_law_found", "_law_work"] "law" (defScope st_law) f (.ref c) A outer s H E).nox ((defBody st_law).getD 3 (.Pass ⟨0, 0, 0, 0⟩)) (tS (mkF P w K T) b_law3) := by
  have ec := hc.symm.trans hcd
  obtain rfl : c = c0 := by cases ec; rfl
  have mk : Maker (mkF P w K T) (cxOf CX0 P w K mg base ["_law_script", "_law_row", "_law_number", "_law_good", "_law_melts", "_law_late", "_law_wrong", "_law_works", "_law_bits", "_law_found", "_law_work"] "law" (defScope st_law) f (.ref c) A outer s H E).nox ⟨(cxOf CX0 P w K mg base ["_law_script", "_law_row", "_law_number", "_law_good", "_law_melts", "_law_late", "_law_wrong", "_law_works", "_law_bits", "_law_found", "_law_work"] "law" (defScope st_law) f (.ref c) A outer s H E).nox.env.cells, (cxOf CX0 P w K mg base ["_law_script", "_law_row", "_law_number", "_law_good", "_law_melts", "_law_late", "_law_wrong", "_law_works", "_law_bits", "_law_found", "_law_work"] "law" (defScope st_law) f (.ref c) A outer s H E).nox.env.qual ++ "<lambda>", lams (defBody st_law)⟩ c T0 := ⟨e3, rfl, rfl, TBl, rfl, by show _ ∈ T.lt; rw [e2]; exact hT0, fun p hp e => hT1 p (by rw [← e2]; exact hp) e⟩
  have lo : ∀ T2 : TbT, T2.tb = Tb.tb → T2.lt = Tb.lt → T2.me = some ⟨(cxOf CX0 P w K mg base ["_law_script", "_law_row", "_law_number", "_law_good", "_law_melts", "_law_late", "_law_wrong", "_law_works", "_law_bits", "_law_found", "_law_work"] "law" (defScope st_law) f (.ref c) A outer s H E).nox.env.cells, (cxOf CX0 P w K mg base ["_law_script", "_law_row", "_law_number", "_law_good", "_law_melts", "_law_late", "_law_wrong", "_law_works", "_law_bits", "_law_found", "_law_work"] "law" (defScope st_law) f (.ref c) A outer s H E).nox.env.qual ++ "<lambda>", lams (defBody st_law)⟩ → T2.er = none → LamsOk (mkF P w K T2) (cxOf CX0 P w K mg base ["_law_script", "_law_row", "_law_number", "_law_good", "_law_melts", "_law_late", "_law_wrong", "_law_works", "_law_bits", "_law_found", "_law_work"] "law" (defScope st_law) f (.ref c) A outer s H E).nox ⟨(cxOf CX0 P w K mg base ["_law_script", "_law_row", "_law_number", "_law_good", "_law_melts", "_law_late", "_law_wrong", "_law_works", "_law_bits", "_law_found", "_law_work"] "law" (defScope st_law) f (.ref c) A outer s H E).nox.env.cells, (cxOf CX0 P w K mg base ["_law_script", "_law_row", "_law_number", "_law_good", "_law_melts", "_law_late", "_law_wrong", "_law_works", "_law_bits", "_law_found", "_law_work"] "law" (defScope st_law) f (.ref c) A outer s H E).nox.env.qual ++ "<lambda>", lams (defBody st_law)⟩ 7 lam_law := fun T2 q1 q2 q3 _ => lo_law d_l_pick d_can_right d_can_tell d_contents_told d_failing_rings d_fewest_wrong d_flood_family d_flood_kept d_flood_lost_within d_flood_schemes d_is_flood_scheme d_late_kept d_late_lost_within d_mixed_kinds d_named_kinds d_scheme_number d_scheme_told d_shown c A outer s H E T2 q1 q2 q3
  have d_l_pick := d_l_pick T e1 e2; have d_can_right := d_can_right T e1 e2; have d_can_tell := d_can_tell T e1 e2; have d_contents_told := d_contents_told T e1 e2; have d_failing_rings := d_failing_rings T e1 e2; have d_fewest_wrong := d_fewest_wrong T e1 e2; have d_flood_family := d_flood_family T e1 e2; have d_flood_kept := d_flood_kept T e1 e2; have d_flood_lost_within := d_flood_lost_within T e1 e2; have d_flood_schemes := d_flood_schemes T e1 e2; have d_is_flood_scheme := d_is_flood_scheme T e1 e2; have d_late_kept := d_late_kept T e1 e2; have d_late_lost_within := d_late_lost_within T e1 e2; have d_mixed_kinds := d_mixed_kinds T e1 e2; have d_named_kinds := d_named_kinds T e1 e2; have d_scheme_number := d_scheme_number T e1 e2; have d_scheme_told := d_scheme_told T e1 e2; have d_shown := d_shown T e1 e2
  exact (ds_asg (de_lst (db_cons (de_lam0 mk 0 (by kernel_rfl) rfl rfl fun O y hy he => LW0.has O y hy he) (db_cons (de_lam1 mk 1 (by kernel_rfl) rfl rfl pe_int fun O y hy he => LW1.has O y hy he) db_nil)) (few_cons (few_cons few_nil))) (dg_nm 7 sc_law.nd))
theorem ok_law4 (FD : FnP K "law" st_law f fd) (hm : mg "law" = some (.ref f)) {f_l_error : Addr} {fd_l_error : FuncData} (FD_l_error : FnP K "_law_error" st_l_error f_l_error fd_l_error) (hm_l_error : mg "_law_error" = some (.ref f_l_error)) (d_l_pick : ∀ T : TbT, T.tb = Tb.tb → T.lt = Tb.lt → DefOk P w K mg base T "_law_pick" 2 s_l_pick 2) (d_can_right : ∀ T : TbT, T.tb = Tb.tb → T.lt = Tb.lt → DefX P w K mg base T "can_right" 2 s_can_right 7) (d_can_tell : ∀ T : TbT, T.tb = Tb.tb → T.lt = Tb.lt → DefX P w K mg base T "can_tell" 2 s_can_tell 7) (d_contents_told : ∀ T : TbT, T.tb = Tb.tb → T.lt = Tb.lt → DefX P w K mg base T "contents_told" 3 s_contents_told 6) (d_failing_rings : ∀ T : TbT, T.tb = Tb.tb → T.lt = Tb.lt → DefX P w K mg base T "failing_rings" 3 s_failing_rings 6) (d_fewest_wrong : ∀ T : TbT, T.tb = Tb.tb → T.lt = Tb.lt → DefX P w K mg base T "fewest_wrong" 2 s_fewest_wrong 6) (d_flood_family : ∀ T : TbT, T.tb = Tb.tb → T.lt = Tb.lt → DefX P w K mg base T "flood_family" 3 s_flood_family 7) (d_flood_kept : ∀ T : TbT, T.tb = Tb.tb → T.lt = Tb.lt → DefX P w K mg base T "flood_kept" 3 s_flood_kept 7) (d_flood_lost_within : ∀ T : TbT, T.tb = Tb.tb → T.lt = Tb.lt → DefX P w K mg base T "flood_lost_within" 3 s_flood_lost_within 7) (d_flood_schemes : ∀ T : TbT, T.tb = Tb.tb → T.lt = Tb.lt → DefX P w K mg base T "flood_schemes" 4 s_flood_schemes 4) (d_is_flood_scheme : ∀ T : TbT, T.tb = Tb.tb → T.lt = Tb.lt → DefX P w K mg base T "is_flood_scheme" 3 s_is_flood_scheme 7) (d_late_kept : ∀ T : TbT, T.tb = Tb.tb → T.lt = Tb.lt → DefX P w K mg base T "late_kept" 3 s_late_kept 7) (d_late_lost_within : ∀ T : TbT, T.tb = Tb.tb → T.lt = Tb.lt → DefX P w K mg base T "late_lost_within" 3 s_late_lost_within 7) (d_mixed_kinds : ∀ T : TbT, T.tb = Tb.tb → T.lt = Tb.lt → DefX P w K mg base T "mixed_kinds" 3 s_mixed_kinds 4) (d_named_kinds : ∀ T : TbT, T.tb = Tb.tb → T.lt = Tb.lt → DefX P w K mg base T "named_kinds" 3 s_named_kinds 4) (d_scheme_number : ∀ T : TbT, T.tb = Tb.tb → T.lt = Tb.lt → DefX P w K mg base T "scheme_number" 2 s_scheme_number 6) (d_scheme_told : ∀ T : TbT, T.tb = Tb.tb → T.lt = Tb.lt → DefX P w K mg base T "scheme_told" 4 s_scheme_told 7) (d_shown : ∀ T : TbT, T.tb = Tb.tb → T.lt = Tb.lt → DefX P w K mg base T "shown" 2 s_shown 6) (b_ValueError : mg "ValueError" = none) (b_isinstance : mg "isinstance" = none) (EF : ExF K [0, 1, 2, 3, 4, 5, 6, 7]) {c0 T0 : Addr} (hcd : fd.code = .ref c0) (TBl : LamX.TabB base mg c0 T0) (hT0 : (T0, ("law.<locals>.<lambda>" : Str)) ∈ Tb.lt) (hT1 : ∀ p ∈ Tb.lt, p.1 = T0 → p.2 = ("law.<locals>.<lambda>" : Str)) (hme : Tb.me = none) (her : Tb.er = none) (hkp : Tb.keep = []) (m_BadDays : mg "BadDays" = some (.ref (He.ga K "BadDays"))) (m_BadLibrary : mg "BadLibrary" = some (.ref (He.ga K "BadLibrary"))) (m_BadMost : mg "BadMost" = some (.ref (He.ga K "BadMost"))) (m_BadNumber : mg "BadNumber" = some (.ref (He.ga K "BadNumber"))) (m_BadShown : mg "BadShown" = some (.ref (He.ga K "BadShown"))) (m_BadString : mg "BadString" = some (.ref (He.ga K "BadString"))) (m_BadTablet : mg "BadTablet" = some (.ref (He.ga K "BadTablet"))) (m_LibraryError : mg "LibraryError" = some (.ref (He.ga K "LibraryError"))) (m_NoScheme : mg "NoScheme" = some (.ref (He.ga K "NoScheme"))) (c : Addr) (A : Around) (outer : List PySem.Env) (s : Shared) (H : Hp) (E : XK) (T : TbT) (hc : fd.code = .ref c) (hr : Room 9 (A.deeper (envOfC "law" (defScope st_law) s.heap.objs.size f (.ref c)))) (e1 : T.tb = Tb.tb) (e2 : T.lt = Tb.lt) (e5 : T.cl = Tb.cl) (e4 : T.er = none) (e3 : T.me = some ⟨(cxOf CX0 P w K mg base ["_law_script", "_law_row", "_law_number", "_law_good", "_law_melts", "_law_late", "_law_wrong", "_law_works", "_law_bits", "_law_found", "_law_work"] "law" (defScope st_law) f (.ref c) A outer s H E).nox.env.cells, (cxOf CX0 P w K mg base ["_law_script", "_law_row", "_law_number", "_law_good", "_law_melts", "_law_late", "_law_wrong", "_law_works", "_law_bits", "_law_found", "_law_work"] "law" (defScope st_law) f (.ref c) A outer s H E).nox.env.qual ++ "<lambda>", lams (defBody st_law)⟩) (C : Ctx (mkF P w K T) (cxOf CX0 P w K mg base ["_law_script", "_law_row", "_law_number", "_law_good", "_law_melts", "_law_late", "_law_wrong", "_law_works", "_law_bits", "_law_found", "_law_work"] "law" (defScope st_law) f (.ref c) A outer s H E).nox) :
  PS (cxOf CX0 P w K mg base ["_law_script", "_law_row", "_law_number", "_law_good", "_law_melts", "_law_late", "_law_wrong", "_law_works", "_law_bits", "_law_found", "_law_work"] "law" (defScope st_law) f (.ref c) A outer s H E).nox ((defBody st_law).getD 4 (.Pass ⟨0, 0, 0, 0⟩)) (tS (mkF P w K T) b_law4) := by
  have ec := hc.symm.trans hcd
  obtain rfl : c = c0 := by cases ec; rfl
  have mk : Maker (mkF P w K T) (cxOf CX0 P w K mg base ["_law_script", "_law_row", "_law_number", "_law_good", "_law_melts", "_law_late", "_law_wrong", "_law_works", "_law_bits", "_law_found", "_law_work"] "law" (defScope st_law) f (.ref c) A outer s H E).nox ⟨(cxOf CX0 P w K mg base ["_law_script", "_law_row", "_law_number", "_law_good", "_law_melts", "_law_late", "_law_wrong", "_law_works", "_law_bits", "_law_found", "_law_work"] "law" (defScope st_law) f (.ref c) A outer s H E).nox.env.cells, (cxOf CX0 P w K mg base ["_law_script", "_law_row", "_law_number", "_law_good", "_law_melts", "_law_late", "_law_wrong", "_law_works", "_law_bits", "_law_found", "_law_work"] "law" (defScope st_law) f (.ref c) A outer s H E).nox.env.qual ++ "<lambda>", lams (defBody st_law)⟩ c T0 := ⟨e3, rfl, rfl, TBl, rfl, by show _ ∈ T.lt; rw [e2]; exact hT0, fun p hp e => hT1 p (by rw [← e2]; exact hp) e⟩
  have lo : ∀ T2 : TbT, T2.tb = Tb.tb → T2.lt = Tb.lt → T2.me = some ⟨(cxOf CX0 P w K mg base ["_law_script", "_law_row", "_law_number", "_law_good", "_law_melts", "_law_late", "_law_wrong", "_law_works", "_law_bits", "_law_found", "_law_work"] "law" (defScope st_law) f (.ref c) A outer s H E).nox.env.cells, (cxOf CX0 P w K mg base ["_law_script", "_law_row", "_law_number", "_law_good", "_law_melts", "_law_late", "_law_wrong", "_law_works", "_law_bits", "_law_found", "_law_work"] "law" (defScope st_law) f (.ref c) A outer s H E).nox.env.qual ++ "<lambda>", lams (defBody st_law)⟩ → T2.er = none → LamsOk (mkF P w K T2) (cxOf CX0 P w K mg base ["_law_script", "_law_row", "_law_number", "_law_good", "_law_melts", "_law_late", "_law_wrong", "_law_works", "_law_bits", "_law_found", "_law_work"] "law" (defScope st_law) f (.ref c) A outer s H E).nox ⟨(cxOf CX0 P w K mg base ["_law_script", "_law_row", "_law_number", "_law_good", "_law_melts", "_law_late", "_law_wrong", "_law_works", "_law_bits", "_law_found", "_law_work"] "law" (defScope st_law) f (.ref c) A outer s H E).nox.env.cells, (cxOf CX0 P w K mg base ["_law_script", "_law_row", "_law_number", "_law_good", "_law_melts", "_law_late", "_law_wrong", "_law_works", "_law_bits", "_law_found", "_law_work"] "law" (defScope st_law) f (.ref c) A outer s H E).nox.env.qual ++ "<lambda>", lams (defBody st_law)⟩ 7 lam_law := fun T2 q1 q2 q3 _ => lo_law d_l_pick d_can_right d_can_tell d_contents_told d_failing_rings d_fewest_wrong d_flood_family d_flood_kept d_flood_lost_within d_flood_schemes d_is_flood_scheme d_late_kept d_late_lost_within d_mixed_kinds d_named_kinds d_scheme_number d_scheme_told d_shown c A outer s H E T2 q1 q2 q3
  have d_l_pick := d_l_pick T e1 e2; have d_can_right := d_can_right T e1 e2; have d_can_tell := d_can_tell T e1 e2; have d_contents_told := d_contents_told T e1 e2; have d_failing_rings := d_failing_rings T e1 e2; have d_fewest_wrong := d_fewest_wrong T e1 e2; have d_flood_family := d_flood_family T e1 e2; have d_flood_kept := d_flood_kept T e1 e2; have d_flood_lost_within := d_flood_lost_within T e1 e2; have d_flood_schemes := d_flood_schemes T e1 e2; have d_is_flood_scheme := d_is_flood_scheme T e1 e2; have d_late_kept := d_late_kept T e1 e2; have d_late_lost_within := d_late_lost_within T e1 e2; have d_mixed_kinds := d_mixed_kinds T e1 e2; have d_named_kinds := d_named_kinds T e1 e2; have d_scheme_number := d_scheme_number T e1 e2; have d_scheme_told := d_scheme_told T e1 e2; have d_shown := d_shown T e1 e2
  exact (ds_asg (ve_add (L2.PE.weak (de_var 7)) (L2.PE.weak (de_lst (db_cons (de_lam1 mk 2 (by kernel_rfl) rfl rfl pe_int fun O y hy he => LW2.has O y hy he) (db_cons (de_lam1 mk 3 (by kernel_rfl) rfl rfl pe_int fun O y hy he => LW3.has O y hy he) db_nil)) (few_cons (few_cons few_nil))))) (dg_nm 7 sc_law.nd))
theorem ok_law5 (FD : FnP K "law" st_law f fd) (hm : mg "law" = some (.ref f)) {f_l_error : Addr} {fd_l_error : FuncData} (FD_l_error : FnP K "_law_error" st_l_error f_l_error fd_l_error) (hm_l_error : mg "_law_error" = some (.ref f_l_error)) (d_l_pick : ∀ T : TbT, T.tb = Tb.tb → T.lt = Tb.lt → DefOk P w K mg base T "_law_pick" 2 s_l_pick 2) (d_can_right : ∀ T : TbT, T.tb = Tb.tb → T.lt = Tb.lt → DefX P w K mg base T "can_right" 2 s_can_right 7) (d_can_tell : ∀ T : TbT, T.tb = Tb.tb → T.lt = Tb.lt → DefX P w K mg base T "can_tell" 2 s_can_tell 7) (d_contents_told : ∀ T : TbT, T.tb = Tb.tb → T.lt = Tb.lt → DefX P w K mg base T "contents_told" 3 s_contents_told 6) (d_failing_rings : ∀ T : TbT, T.tb = Tb.tb → T.lt = Tb.lt → DefX P w K mg base T "failing_rings" 3 s_failing_rings 6) (d_fewest_wrong : ∀ T : TbT, T.tb = Tb.tb → T.lt = Tb.lt → DefX P w K mg base T "fewest_wrong" 2 s_fewest_wrong 6) (d_flood_family : ∀ T : TbT, T.tb = Tb.tb → T.lt = Tb.lt → DefX P w K mg base T "flood_family" 3 s_flood_family 7) (d_flood_kept : ∀ T : TbT, T.tb = Tb.tb → T.lt = Tb.lt → DefX P w K mg base T "flood_kept" 3 s_flood_kept 7) (d_flood_lost_within : ∀ T : TbT, T.tb = Tb.tb → T.lt = Tb.lt → DefX P w K mg base T "flood_lost_within" 3 s_flood_lost_within 7) (d_flood_schemes : ∀ T : TbT, T.tb = Tb.tb → T.lt = Tb.lt → DefX P w K mg base T "flood_schemes" 4 s_flood_schemes 4) (d_is_flood_scheme : ∀ T : TbT, T.tb = Tb.tb → T.lt = Tb.lt → DefX P w K mg base T "is_flood_scheme" 3 s_is_flood_scheme 7) (d_late_kept : ∀ T : TbT, T.tb = Tb.tb → T.lt = Tb.lt → DefX P w K mg base T "late_kept" 3 s_late_kept 7) (d_late_lost_within : ∀ T : TbT, T.tb = Tb.tb → T.lt = Tb.lt → DefX P w K mg base T "late_lost_within" 3 s_late_lost_within 7) (d_mixed_kinds : ∀ T : TbT, T.tb = Tb.tb → T.lt = Tb.lt → DefX P w K mg base T "mixed_kinds" 3 s_mixed_kinds 4) (d_named_kinds : ∀ T : TbT, T.tb = Tb.tb → T.lt = Tb.lt → DefX P w K mg base T "named_kinds" 3 s_named_kinds 4) (d_scheme_number : ∀ T : TbT, T.tb = Tb.tb → T.lt = Tb.lt → DefX P w K mg base T "scheme_number" 2 s_scheme_number 6) (d_scheme_told : ∀ T : TbT, T.tb = Tb.tb → T.lt = Tb.lt → DefX P w K mg base T "scheme_told" 4 s_scheme_told 7) (d_shown : ∀ T : TbT, T.tb = Tb.tb → T.lt = Tb.lt → DefX P w K mg base T "shown" 2 s_shown 6) (b_ValueError : mg "ValueError" = none) (b_isinstance : mg "isinstance" = none) (EF : ExF K [0, 1, 2, 3, 4, 5, 6, 7]) {c0 T0 : Addr} (hcd : fd.code = .ref c0) (TBl : LamX.TabB base mg c0 T0) (hT0 : (T0, ("law.<locals>.<lambda>" : Str)) ∈ Tb.lt) (hT1 : ∀ p ∈ Tb.lt, p.1 = T0 → p.2 = ("law.<locals>.<lambda>" : Str)) (hme : Tb.me = none) (her : Tb.er = none) (hkp : Tb.keep = []) (m_BadDays : mg "BadDays" = some (.ref (He.ga K "BadDays"))) (m_BadLibrary : mg "BadLibrary" = some (.ref (He.ga K "BadLibrary"))) (m_BadMost : mg "BadMost" = some (.ref (He.ga K "BadMost"))) (m_BadNumber : mg "BadNumber" = some (.ref (He.ga K "BadNumber"))) (m_BadShown : mg "BadShown" = some (.ref (He.ga K "BadShown"))) (m_BadString : mg "BadString" = some (.ref (He.ga K "BadString"))) (m_BadTablet : mg "BadTablet" = some (.ref (He.ga K "BadTablet"))) (m_LibraryError : mg "LibraryError" = some (.ref (He.ga K "LibraryError"))) (m_NoScheme : mg "NoScheme" = some (.ref (He.ga K "NoScheme"))) (c : Addr) (A : Around) (outer : List PySem.Env) (s : Shared) (H : Hp) (E : XK) (T : TbT) (hc : fd.code = .ref c) (hr : Room 9 (A.deeper (envOfC "law" (defScope st_law) s.heap.objs.size f (.ref c)))) (e1 : T.tb = Tb.tb) (e2 : T.lt = Tb.lt) (e5 : T.cl = Tb.cl) (e4 : T.er = none) (e3 : T.me = some ⟨(cxOf CX0 P w K mg base ["_law_script", "_law_row", "_law_number", "_law_good", "_law_melts", "_law_late", "_law_wrong", "_law_works", "_law_bits", "_law_found", "_law_work"] "law" (defScope st_law) f (.ref c) A outer s H E).nox.env.cells, (cxOf CX0 P w K mg base ["_law_script", "_law_row", "_law_number", "_law_good", "_law_melts", "_law_late", "_law_wrong", "_law_works", "_law_bits", "_law_found", "_law_work"] "law" (defScope st_law) f (.ref c) A outer s H E).nox.env.qual ++ "<lambda>", lams (defBody st_law)⟩) (C : Ctx (mkF P w K T) (cxOf CX0 P w K mg base ["_law_script", "_law_row", "_law_number", "_law_good", "_law_melts", "_law_late", "_law_wrong", "_law_works", "_law_bits", "_law_found", "_law_work"] "law" (defScope st_law) f (.ref c) A outer s H E).nox) :
  PS (cxOf CX0 P w K mg base ["_law_script", "_law_row", "_law_number", "_law_good", "_law_melts", "_law_late", "_law_wrong", "_law_works", "_law_bits", "_law_found", "_law_work"] "law" (defScope st_law) f (.ref c) A outer s H E).nox ((defBody st_law).getD 5 (.Pass ⟨0, 0, 0, 0⟩)) (tS (mkF P w K T) b_law5) := by
  have ec := hc.symm.trans hcd
  obtain rfl : c = c0 := by cases ec; rfl
  have mk : Maker (mkF P w K T) (cxOf CX0 P w K mg base ["_law_script", "_law_row", "_law_number", "_law_good", "_law_melts", "_law_late", "_law_wrong", "_law_works", "_law_bits", "_law_found", "_law_work"] "law" (defScope st_law) f (.ref c) A outer s H E).nox ⟨(cxOf CX0 P w K mg base ["_law_script", "_law_row", "_law_number", "_law_good", "_law_melts", "_law_late", "_law_wrong", "_law_works", "_law_bits", "_law_found", "_law_work"] "law" (defScope st_law) f (.ref c) A outer s H E).nox.env.cells, (cxOf CX0 P w K mg base ["_law_script", "_law_row", "_law_number", "_law_good", "_law_melts", "_law_late", "_law_wrong", "_law_works", "_law_bits", "_law_found", "_law_work"] "law" (defScope st_law) f (.ref c) A outer s H E).nox.env.qual ++ "<lambda>", lams (defBody st_law)⟩ c T0 := ⟨e3, rfl, rfl, TBl, rfl, by show _ ∈ T.lt; rw [e2]; exact hT0, fun p hp e => hT1 p (by rw [← e2]; exact hp) e⟩
  have lo : ∀ T2 : TbT, T2.tb = Tb.tb → T2.lt = Tb.lt → T2.me = some ⟨(cxOf CX0 P w K mg base ["_law_script", "_law_row", "_law_number", "_law_good", "_law_melts", "_law_late", "_law_wrong", "_law_works", "_law_bits", "_law_found", "_law_work"] "law" (defScope st_law) f (.ref c) A outer s H E).nox.env.cells, (cxOf CX0 P w K mg base ["_law_script", "_law_row", "_law_number", "_law_good", "_law_melts", "_law_late", "_law_wrong", "_law_works", "_law_bits", "_law_found", "_law_work"] "law" (defScope st_law) f (.ref c) A outer s H E).nox.env.qual ++ "<lambda>", lams (defBody st_law)⟩ → T2.er = none → LamsOk (mkF P w K T2) (cxOf CX0 P w K mg base ["_law_script", "_law_row", "_law_number", "_law_good", "_law_melts", "_law_late", "_law_wrong", "_law_works", "_law_bits", "_law_found", "_law_work"] "law" (defScope st_law) f (.ref c) A outer s H E).nox ⟨(cxOf CX0 P w K mg base ["_law_script", "_law_row", "_law_number", "_law_good", "_law_melts", "_law_late", "_law_wrong", "_law_works", "_law_bits", "_law_found", "_law_work"] "law" (defScope st_law) f (.ref c) A outer s H E).nox.env.cells, (cxOf CX0 P w K mg base ["_law_script", "_law_row", "_law_number", "_law_good", "_law_melts", "_law_late", "_law_wrong", "_law_works", "_law_bits", "_law_found", "_law_work"] "law" (defScope st_law) f (.ref c) A outer s H E).nox.env.qual ++ "<lambda>", lams (defBody st_law)⟩ 7 lam_law := fun T2 q1 q2 q3 _ => lo_law d_l_pick d_can_right d_can_tell d_contents_told d_failing_rings d_fewest_wrong d_flood_family d_flood_kept d_flood_lost_within d_flood_schemes d_is_flood_scheme d_late_kept d_late_lost_within d_mixed_kinds d_named_kinds d_scheme_number d_scheme_told d_shown c A outer s H E T2 q1 q2 q3
  have d_l_pick := d_l_pick T e1 e2; have d_can_right := d_can_right T e1 e2; have d_can_tell := d_can_tell T e1 e2; have d_contents_told := d_contents_told T e1 e2; have d_failing_rings := d_failing_rings T e1 e2; have d_fewest_wrong := d_fewest_wrong T e1 e2; have d_flood_family := d_flood_family T e1 e2; have d_flood_kept := d_flood_kept T e1 e2; have d_flood_lost_within := d_flood_lost_within T e1 e2; have d_flood_schemes := d_flood_schemes T e1 e2; have d_is_flood_scheme := d_is_flood_scheme T e1 e2; have d_late_kept := d_late_kept T e1 e2; have d_late_lost_within := d_late_lost_within T e1 e2; have d_mixed_kinds := d_mixed_kinds T e1 e2; have d_named_kinds := d_named_kinds T e1 e2; have d_scheme_number := d_scheme_number T e1 e2; have d_scheme_told := d_scheme_told T e1 e2; have d_shown := d_shown T e1 e2
  exact (ds_asg (ve_add (L2.PE.weak (de_var 7)) (L2.PE.weak (de_lst (db_cons (de_lam0 mk 4 (by kernel_rfl) rfl rfl fun O y hy he => LW4.has O y hy he) (db_cons (de_lam1 mk 5 (by kernel_rfl) rfl rfl pe_int fun O y hy he => LW5.has O y hy he) db_nil)) (few_cons (few_cons few_nil))))) (dg_nm 7 sc_law.nd))
theorem ok_law6 (FD : FnP K "law" st_law f fd) (hm : mg "law" = some (.ref f)) {f_l_error : Addr} {fd_l_error : FuncData} (FD_l_error : FnP K "_law_error" st_l_error f_l_error fd_l_error) (hm_l_error : mg "_law_error" = some (.ref f_l_error)) (d_l_pick : ∀ T : TbT, T.tb = Tb.tb → T.lt = Tb.lt → DefOk P w K mg base T "_law_pick" 2 s_l_pick 2) (d_can_right : ∀ T : TbT, T.tb = Tb.tb → T.lt = Tb.lt → DefX P w K mg base T "can_right" 2 s_can_right 7) (d_can_tell : ∀ T : TbT, T.tb = Tb.tb → T.lt = Tb.lt → DefX P w K mg base T "can_tell" 2 s_can_tell 7) (d_contents_told : ∀ T : TbT, T.tb = Tb.tb → T.lt = Tb.lt → DefX P w K mg base T "contents_told" 3 s_contents_told 6) (d_failing_rings : ∀ T : TbT, T.tb = Tb.tb → T.lt = Tb.lt → DefX P w K mg base T "failing_rings" 3 s_failing_rings 6) (d_fewest_wrong : ∀ T : TbT, T.tb = Tb.tb → T.lt = Tb.lt → DefX P w K mg base T "fewest_wrong" 2 s_fewest_wrong 6) (d_flood_family : ∀ T : TbT, T.tb = Tb.tb → T.lt = Tb.lt → DefX P w K mg base T "flood_family" 3 s_flood_family 7) (d_flood_kept : ∀ T : TbT, T.tb = Tb.tb → T.lt = Tb.lt → DefX P w K mg base T "flood_kept" 3 s_flood_kept 7) (d_flood_lost_within : ∀ T : TbT, T.tb = Tb.tb → T.lt = Tb.lt → DefX P w K mg base T "flood_lost_within" 3 s_flood_lost_within 7) (d_flood_schemes : ∀ T : TbT, T.tb = Tb.tb → T.lt = Tb.lt → DefX P w K mg base T "flood_schemes" 4 s_flood_schemes 4) (d_is_flood_scheme : ∀ T : TbT, T.tb = Tb.tb → T.lt = Tb.lt → DefX P w K mg base T "is_flood_scheme" 3 s_is_flood_scheme 7) (d_late_kept : ∀ T : TbT, T.tb = Tb.tb → T.lt = Tb.lt → DefX P w K mg base T "late_kept" 3 s_late_kept 7) (d_late_lost_within : ∀ T : TbT, T.tb = Tb.tb → T.lt = Tb.lt → DefX P w K mg base T "late_lost_within" 3 s_late_lost_within 7) (d_mixed_kinds : ∀ T : TbT, T.tb = Tb.tb → T.lt = Tb.lt → DefX P w K mg base T "mixed_kinds" 3 s_mixed_kinds 4) (d_named_kinds : ∀ T : TbT, T.tb = Tb.tb → T.lt = Tb.lt → DefX P w K mg base T "named_kinds" 3 s_named_kinds 4) (d_scheme_number : ∀ T : TbT, T.tb = Tb.tb → T.lt = Tb.lt → DefX P w K mg base T "scheme_number" 2 s_scheme_number 6) (d_scheme_told : ∀ T : TbT, T.tb = Tb.tb → T.lt = Tb.lt → DefX P w K mg base T "scheme_told" 4 s_scheme_told 7) (d_shown : ∀ T : TbT, T.tb = Tb.tb → T.lt = Tb.lt → DefX P w K mg base T "shown" 2 s_shown 6) (b_ValueError : mg "ValueError" = none) (b_isinstance : mg "isinstance" = none) (EF : ExF K [0, 1, 2, 3, 4, 5, 6, 7]) {c0 T0 : Addr} (hcd : fd.code = .ref c0) (TBl : LamX.TabB base mg c0 T0) (hT0 : (T0, ("law.<locals>.<lambda>" : Str)) ∈ Tb.lt) (hT1 : ∀ p ∈ Tb.lt, p.1 = T0 → p.2 = ("law.<locals>.<lambda>" : Str)) (hme : Tb.me = none) (her : Tb.er = none) (hkp : Tb.keep = []) (m_BadDays : mg "BadDays" = some (.ref (He.ga K "BadDays"))) (m_BadLibrary : mg "BadLibrary" = some (.ref (He.ga K "BadLibrary"))) (m_BadMost : mg "BadMost" = some (.ref (He.ga K "BadMost"))) (m_BadNumber : mg "BadNumber" = some (.ref (He.ga K "BadNumber"))) (m_BadShown : mg "BadShown" = some (.ref (He.ga K "BadShown"))) (m_BadString : mg "BadString" = some (.ref (He.ga K "BadString"))) (m_BadTablet : mg "BadTablet" = some (.ref (He.ga K "BadTablet"))) (m_LibraryError : mg "LibraryError" = some (.ref (He.ga K "LibraryError"))) (m_NoScheme : mg "NoScheme" = some (.ref (He.ga K "NoScheme"))) (c : Addr) (A : Around) (outer : List PySem.Env) (s : Shared) (H : Hp) (E : XK) (T : TbT) (hc : fd.code = .ref c) (hr : Room 9 (A.deeper (envOfC "law" (defScope st_law) s.heap.objs.size f (.ref c)))) (e1 : T.tb = Tb.tb) (e2 : T.lt = Tb.lt) (e5 : T.cl = Tb.cl) (e4 : T.er = none) (e3 : T.me = some ⟨(cxOf CX0 P w K mg base ["_law_script", "_law_row", "_law_number", "_law_good", "_law_melts", "_law_late", "_law_wrong", "_law_works", "_law_bits", "_law_found", "_law_work"] "law" (defScope st_law) f (.ref c) A outer s H E).nox.env.cells, (cxOf CX0 P w K mg base ["_law_script", "_law_row", "_law_number", "_law_good", "_law_melts", "_law_late", "_law_wrong", "_law_works", "_law_bits", "_law_found", "_law_work"] "law" (defScope st_law) f (.ref c) A outer s H E).nox.env.qual ++ "<lambda>", lams (defBody st_law)⟩) (C : Ctx (mkF P w K T) (cxOf CX0 P w K mg base ["_law_script", "_law_row", "_law_number", "_law_good", "_law_melts", "_law_late", "_law_wrong", "_law_works", "_law_bits", "_law_found", "_law_work"] "law" (defScope st_law) f (.ref c) A outer s H E).nox) :
  PS (cxOf CX0 P w K mg base ["_law_script", "_law_row", "_law_number", "_law_good", "_law_melts", "_law_late", "_law_wrong", "_law_works", "_law_bits", "_law_found", "_law_work"] "law" (defScope st_law) f (.ref c) A outer s H E).nox ((defBody st_law).getD 6 (.Pass ⟨0, 0, 0, 0⟩)) (tS (mkF P w K T) b_law6) := by
  have ec := hc.symm.trans hcd
  obtain rfl : c = c0 := by cases ec; rfl
  have mk : Maker (mkF P w K T) (cxOf CX0 P w K mg base ["_law_script", "_law_row", "_law_number", "_law_good", "_law_melts", "_law_late", "_law_wrong", "_law_works", "_law_bits", "_law_found", "_law_work"] "law" (defScope st_law) f (.ref c) A outer s H E).nox ⟨(cxOf CX0 P w K mg base ["_law_script", "_law_row", "_law_number", "_law_good", "_law_melts", "_law_late", "_law_wrong", "_law_works", "_law_bits", "_law_found", "_law_work"] "law" (defScope st_law) f (.ref c) A outer s H E).nox.env.cells, (cxOf CX0 P w K mg base ["_law_script", "_law_row", "_law_number", "_law_good", "_law_melts", "_law_late", "_law_wrong", "_law_works", "_law_bits", "_law_found", "_law_work"] "law" (defScope st_law) f (.ref c) A outer s H E).nox.env.qual ++ "<lambda>", lams (defBody st_law)⟩ c T0 := ⟨e3, rfl, rfl, TBl, rfl, by show _ ∈ T.lt; rw [e2]; exact hT0, fun p hp e => hT1 p (by rw [← e2]; exact hp) e⟩
  have lo : ∀ T2 : TbT, T2.tb = Tb.tb → T2.lt = Tb.lt → T2.me = some ⟨(cxOf CX0 P w K mg base ["_law_script", "_law_row", "_law_number", "_law_good", "_law_melts", "_law_late", "_law_wrong", "_law_works", "_law_bits", "_law_found", "_law_work"] "law" (defScope st_law) f (.ref c) A outer s H E).nox.env.cells, (cxOf CX0 P w K mg base ["_law_script", "_law_row", "_law_number", "_law_good", "_law_melts", "_law_late", "_law_wrong", "_law_works", "_law_bits", "_law_found", "_law_work"] "law" (defScope st_law) f (.ref c) A outer s H E).nox.env.qual ++ "<lambda>", lams (defBody st_law)⟩ → T2.er = none → LamsOk (mkF P w K T2) (cxOf CX0 P w K mg base ["_law_script", "_law_row", "_law_number", "_law_good", "_law_melts", "_law_late", "_law_wrong", "_law_works", "_law_bits", "_law_found", "_law_work"] "law" (defScope st_law) f (.ref c) A outer s H E).nox ⟨(cxOf CX0 P w K mg base ["_law_script", "_law_row", "_law_number", "_law_good", "_law_melts", "_law_late", "_law_wrong", "_law_works", "_law_bits", "_law_found", "_law_work"] "law" (defScope st_law) f (.ref c) A outer s H E).nox.env.cells, (cxOf CX0 P w K mg base ["_law_script", "_law_row", "_law_number", "_law_good", "_law_melts", "_law_late", "_law_wrong", "_law_works", "_law_bits", "_law_found", "_law_work"] "law" (defScope st_law) f (.ref c) A outer s H E).nox.env.qual ++ "<lambda>", lams (defBody st_law)⟩ 7 lam_law := fun T2 q1 q2 q3 _ => lo_law d_l_pick d_can_right d_can_tell d_contents_told d_failing_rings d_fewest_wrong d_flood_family d_flood_kept d_flood_lost_within d_flood_schemes d_is_flood_scheme d_late_kept d_late_lost_within d_mixed_kinds d_named_kinds d_scheme_number d_scheme_told d_shown c A outer s H E T2 q1 q2 q3
  have d_l_pick := d_l_pick T e1 e2; have d_can_right := d_can_right T e1 e2; have d_can_tell := d_can_tell T e1 e2; have d_contents_told := d_contents_told T e1 e2; have d_failing_rings := d_failing_rings T e1 e2; have d_fewest_wrong := d_fewest_wrong T e1 e2; have d_flood_family := d_flood_family T e1 e2; have d_flood_kept := d_flood_kept T e1 e2; have d_flood_lost_within := d_flood_lost_within T e1 e2; have d_flood_schemes := d_flood_schemes T e1 e2; have d_is_flood_scheme := d_is_flood_scheme T e1 e2; have d_late_kept := d_late_kept T e1 e2; have d_late_lost_within := d_late_lost_within T e1 e2; have d_mixed_kinds := d_mixed_kinds T e1 e2; have d_named_kinds := d_named_kinds T e1 e2; have d_scheme_number := d_scheme_number T e1 e2; have d_scheme_told := d_scheme_told T e1 e2; have d_shown := d_shown T e1 e2
  exact (ds_asg (ve_add (L2.PE.weak (de_var 7)) (L2.PE.weak (de_lst (db_cons (de_lam1 mk 6 (by kernel_rfl) rfl rfl pe_int fun O y hy he => LW6.has O y hy he) (db_cons (de_lam1 mk 7 (by kernel_rfl) rfl rfl pe_int fun O y hy he => LW7.has O y hy he) db_nil)) (few_cons (few_cons few_nil))))) (dg_nm 7 sc_law.nd))
theorem ok_law7 (FD : FnP K "law" st_law f fd) (hm : mg "law" = some (.ref f)) {f_l_error : Addr} {fd_l_error : FuncData} (FD_l_error : FnP K "_law_error" st_l_error f_l_error fd_l_error) (hm_l_error : mg "_law_error" = some (.ref f_l_error)) (d_l_pick : ∀ T : TbT, T.tb = Tb.tb → T.lt = Tb.lt → DefOk P w K mg base T "_law_pick" 2 s_l_pick 2) (d_can_right : ∀ T : TbT, T.tb = Tb.tb → T.lt = Tb.lt → DefX P w K mg base T "can_right" 2 s_can_right 7) (d_can_tell : ∀ T : TbT, T.tb = Tb.tb → T.lt = Tb.lt → DefX P w K mg base T "can_tell" 2 s_can_tell 7) (d_contents_told : ∀ T : TbT, T.tb = Tb.tb → T.lt = Tb.lt → DefX P w K mg base T "contents_told" 3 s_contents_told 6) (d_failing_rings : ∀ T : TbT, T.tb = Tb.tb → T.lt = Tb.lt → DefX P w K mg base T "failing_rings" 3 s_failing_rings 6) (d_fewest_wrong : ∀ T : TbT, T.tb = Tb.tb → T.lt = Tb.lt → DefX P w K mg base T "fewest_wrong" 2 s_fewest_wrong 6) (d_flood_family : ∀ T : TbT, T.tb = Tb.tb → T.lt = Tb.lt → DefX P w K mg base T "flood_family" 3 s_flood_family 7) (d_flood_kept : ∀ T : TbT, T.tb = Tb.tb → T.lt = Tb.lt → DefX P w K mg base T "flood_kept" 3 s_flood_kept 7) (d_flood_lost_within : ∀ T : TbT, T.tb = Tb.tb → T.lt = Tb.lt → DefX P w K mg base T "flood_lost_within" 3 s_flood_lost_within 7) (d_flood_schemes : ∀ T : TbT, T.tb = Tb.tb → T.lt = Tb.lt → DefX P w K mg base T "flood_schemes" 4 s_flood_schemes 4) (d_is_flood_scheme : ∀ T : TbT, T.tb = Tb.tb → T.lt = Tb.lt → DefX P w K mg base T "is_flood_scheme" 3 s_is_flood_scheme 7) (d_late_kept : ∀ T : TbT, T.tb = Tb.tb → T.lt = Tb.lt → DefX P w K mg base T "late_kept" 3 s_late_kept 7) (d_late_lost_within : ∀ T : TbT, T.tb = Tb.tb → T.lt = Tb.lt → DefX P w K mg base T "late_lost_within" 3 s_late_lost_within 7) (d_mixed_kinds : ∀ T : TbT, T.tb = Tb.tb → T.lt = Tb.lt → DefX P w K mg base T "mixed_kinds" 3 s_mixed_kinds 4) (d_named_kinds : ∀ T : TbT, T.tb = Tb.tb → T.lt = Tb.lt → DefX P w K mg base T "named_kinds" 3 s_named_kinds 4) (d_scheme_number : ∀ T : TbT, T.tb = Tb.tb → T.lt = Tb.lt → DefX P w K mg base T "scheme_number" 2 s_scheme_number 6) (d_scheme_told : ∀ T : TbT, T.tb = Tb.tb → T.lt = Tb.lt → DefX P w K mg base T "scheme_told" 4 s_scheme_told 7) (d_shown : ∀ T : TbT, T.tb = Tb.tb → T.lt = Tb.lt → DefX P w K mg base T "shown" 2 s_shown 6) (b_ValueError : mg "ValueError" = none) (b_isinstance : mg "isinstance" = none) (EF : ExF K [0, 1, 2, 3, 4, 5, 6, 7]) {c0 T0 : Addr} (hcd : fd.code = .ref c0) (TBl : LamX.TabB base mg c0 T0) (hT0 : (T0, ("law.<locals>.<lambda>" : Str)) ∈ Tb.lt) (hT1 : ∀ p ∈ Tb.lt, p.1 = T0 → p.2 = ("law.<locals>.<lambda>" : Str)) (hme : Tb.me = none) (her : Tb.er = none) (hkp : Tb.keep = []) (m_BadDays : mg "BadDays" = some (.ref (He.ga K "BadDays"))) (m_BadLibrary : mg "BadLibrary" = some (.ref (He.ga K "BadLibrary"))) (m_BadMost : mg "BadMost" = some (.ref (He.ga K "BadMost"))) (m_BadNumber : mg "BadNumber" = some (.ref (He.ga K "BadNumber"))) (m_BadShown : mg "BadShown" = some (.ref (He.ga K "BadShown"))) (m_BadString : mg "BadString" = some (.ref (He.ga K "BadString"))) (m_BadTablet : mg "BadTablet" = some (.ref (He.ga K "BadTablet"))) (m_LibraryError : mg "LibraryError" = some (.ref (He.ga K "LibraryError"))) (m_NoScheme : mg "NoScheme" = some (.ref (He.ga K "NoScheme"))) (c : Addr) (A : Around) (outer : List PySem.Env) (s : Shared) (H : Hp) (E : XK) (T : TbT) (hc : fd.code = .ref c) (hr : Room 9 (A.deeper (envOfC "law" (defScope st_law) s.heap.objs.size f (.ref c)))) (e1 : T.tb = Tb.tb) (e2 : T.lt = Tb.lt) (e5 : T.cl = Tb.cl) (e4 : T.er = none) (e3 : T.me = some ⟨(cxOf CX0 P w K mg base ["_law_script", "_law_row", "_law_number", "_law_good", "_law_melts", "_law_late", "_law_wrong", "_law_works", "_law_bits", "_law_found", "_law_work"] "law" (defScope st_law) f (.ref c) A outer s H E).nox.env.cells, (cxOf CX0 P w K mg base ["_law_script", "_law_row", "_law_number", "_law_good", "_law_melts", "_law_late", "_law_wrong", "_law_works", "_law_bits", "_law_found", "_law_work"] "law" (defScope st_law) f (.ref c) A outer s H E).nox.env.qual ++ "<lambda>", lams (defBody st_law)⟩) (C : Ctx (mkF P w K T) (cxOf CX0 P w K mg base ["_law_script", "_law_row", "_law_number", "_law_good", "_law_melts", "_law_late", "_law_wrong", "_law_works", "_law_bits", "_law_found", "_law_work"] "law" (defScope st_law) f (.ref c) A outer s H E).nox) :
  PS (cxOf CX0 P w K mg base ["_law_script", "_law_row", "_law_number", "_law_good", "_law_melts", "_law_late", "_law_wrong", "_law_works", "_law_bits", "_law_found", "_law_work"] "law" (defScope st_law) f (.ref c) A outer s H E).nox ((defBody st_law).getD 7 (.Pass ⟨0, 0, 0, 0⟩)) (tS (mkF P w K T) b_law7) := by
  have ec := hc.symm.trans hcd
  obtain rfl : c = c0 := by cases ec; rfl
  have mk : Maker (mkF P w K T) (cxOf CX0 P w K mg base ["_law_script", "_law_row", "_law_number", "_law_good", "_law_melts", "_law_late", "_law_wrong", "_law_works", "_law_bits", "_law_found", "_law_work"] "law" (defScope st_law) f (.ref c) A outer s H E).nox ⟨(cxOf CX0 P w K mg base ["_law_script", "_law_row", "_law_number", "_law_good", "_law_melts", "_law_late", "_law_wrong", "_law_works", "_law_bits", "_law_found", "_law_work"] "law" (defScope st_law) f (.ref c) A outer s H E).nox.env.cells, (cxOf CX0 P w K mg base ["_law_script", "_law_row", "_law_number", "_law_good", "_law_melts", "_law_late", "_law_wrong", "_law_works", "_law_bits", "_law_found", "_law_work"] "law" (defScope st_law) f (.ref c) A outer s H E).nox.env.qual ++ "<lambda>", lams (defBody st_law)⟩ c T0 := ⟨e3, rfl, rfl, TBl, rfl, by show _ ∈ T.lt; rw [e2]; exact hT0, fun p hp e => hT1 p (by rw [← e2]; exact hp) e⟩
  have lo : ∀ T2 : TbT, T2.tb = Tb.tb → T2.lt = Tb.lt → T2.me = some ⟨(cxOf CX0 P w K mg base ["_law_script", "_law_row", "_law_number", "_law_good", "_law_melts", "_law_late", "_law_wrong", "_law_works", "_law_bits", "_law_found", "_law_work"] "law" (defScope st_law) f (.ref c) A outer s H E).nox.env.cells, (cxOf CX0 P w K mg base ["_law_script", "_law_row", "_law_number", "_law_good", "_law_melts", "_law_late", "_law_wrong", "_law_works", "_law_bits", "_law_found", "_law_work"] "law" (defScope st_law) f (.ref c) A outer s H E).nox.env.qual ++ "<lambda>", lams (defBody st_law)⟩ → T2.er = none → LamsOk (mkF P w K T2) (cxOf CX0 P w K mg base ["_law_script", "_law_row", "_law_number", "_law_good", "_law_melts", "_law_late", "_law_wrong", "_law_works", "_law_bits", "_law_found", "_law_work"] "law" (defScope st_law) f (.ref c) A outer s H E).nox ⟨(cxOf CX0 P w K mg base ["_law_script", "_law_row", "_law_number", "_law_good", "_law_melts", "_law_late", "_law_wrong", "_law_works", "_law_bits", "_law_found", "_law_work"] "law" (defScope st_law) f (.ref c) A outer s H E).nox.env.cells, (cxOf CX0 P w K mg base ["_law_script", "_law_row", "_law_number", "_law_good", "_law_melts", "_law_late", "_law_wrong", "_law_works", "_law_bits", "_law_found", "_law_work"] "law" (defScope st_law) f (.ref c) A outer s H E).nox.env.qual ++ "<lambda>", lams (defBody st_law)⟩ 7 lam_law := fun T2 q1 q2 q3 _ => lo_law d_l_pick d_can_right d_can_tell d_contents_told d_failing_rings d_fewest_wrong d_flood_family d_flood_kept d_flood_lost_within d_flood_schemes d_is_flood_scheme d_late_kept d_late_lost_within d_mixed_kinds d_named_kinds d_scheme_number d_scheme_told d_shown c A outer s H E T2 q1 q2 q3
  have d_l_pick := d_l_pick T e1 e2; have d_can_right := d_can_right T e1 e2; have d_can_tell := d_can_tell T e1 e2; have d_contents_told := d_contents_told T e1 e2; have d_failing_rings := d_failing_rings T e1 e2; have d_fewest_wrong := d_fewest_wrong T e1 e2; have d_flood_family := d_flood_family T e1 e2; have d_flood_kept := d_flood_kept T e1 e2; have d_flood_lost_within := d_flood_lost_within T e1 e2; have d_flood_schemes := d_flood_schemes T e1 e2; have d_is_flood_scheme := d_is_flood_scheme T e1 e2; have d_late_kept := d_late_kept T e1 e2; have d_late_lost_within := d_late_lost_within T e1 e2; have d_mixed_kinds := d_mixed_kinds T e1 e2; have d_named_kinds := d_named_kinds T e1 e2; have d_scheme_number := d_scheme_number T e1 e2; have d_scheme_told := d_scheme_told T e1 e2; have d_shown := d_shown T e1 e2
  exact (ds_asg (ve_add (L2.PE.weak (de_var 7)) (L2.PE.weak (de_lst (db_cons (de_lam0 mk 8 (by kernel_rfl) rfl rfl fun O y hy he => LW8.has O y hy he) (db_cons (de_lam1 mk 9 (by kernel_rfl) rfl rfl pe_int fun O y hy he => LW9.has O y hy he) db_nil)) (few_cons (few_cons few_nil))))) (dg_nm 7 sc_law.nd))
theorem ok_law8 (FD : FnP K "law" st_law f fd) (hm : mg "law" = some (.ref f)) {f_l_error : Addr} {fd_l_error : FuncData} (FD_l_error : FnP K "_law_error" st_l_error f_l_error fd_l_error) (hm_l_error : mg "_law_error" = some (.ref f_l_error)) (d_l_pick : ∀ T : TbT, T.tb = Tb.tb → T.lt = Tb.lt → DefOk P w K mg base T "_law_pick" 2 s_l_pick 2) (d_can_right : ∀ T : TbT, T.tb = Tb.tb → T.lt = Tb.lt → DefX P w K mg base T "can_right" 2 s_can_right 7) (d_can_tell : ∀ T : TbT, T.tb = Tb.tb → T.lt = Tb.lt → DefX P w K mg base T "can_tell" 2 s_can_tell 7) (d_contents_told : ∀ T : TbT, T.tb = Tb.tb → T.lt = Tb.lt → DefX P w K mg base T "contents_told" 3 s_contents_told 6) (d_failing_rings : ∀ T : TbT, T.tb = Tb.tb → T.lt = Tb.lt → DefX P w K mg base T "failing_rings" 3 s_failing_rings 6) (d_fewest_wrong : ∀ T : TbT, T.tb = Tb.tb → T.lt = Tb.lt → DefX P w K mg base T "fewest_wrong" 2 s_fewest_wrong 6) (d_flood_family : ∀ T : TbT, T.tb = Tb.tb → T.lt = Tb.lt → DefX P w K mg base T "flood_family" 3 s_flood_family 7) (d_flood_kept : ∀ T : TbT, T.tb = Tb.tb → T.lt = Tb.lt → DefX P w K mg base T "flood_kept" 3 s_flood_kept 7) (d_flood_lost_within : ∀ T : TbT, T.tb = Tb.tb → T.lt = Tb.lt → DefX P w K mg base T "flood_lost_within" 3 s_flood_lost_within 7) (d_flood_schemes : ∀ T : TbT, T.tb = Tb.tb → T.lt = Tb.lt → DefX P w K mg base T "flood_schemes" 4 s_flood_schemes 4) (d_is_flood_scheme : ∀ T : TbT, T.tb = Tb.tb → T.lt = Tb.lt → DefX P w K mg base T "is_flood_scheme" 3 s_is_flood_scheme 7) (d_late_kept : ∀ T : TbT, T.tb = Tb.tb → T.lt = Tb.lt → DefX P w K mg base T "late_kept" 3 s_late_kept 7) (d_late_lost_within : ∀ T : TbT, T.tb = Tb.tb → T.lt = Tb.lt → DefX P w K mg base T "late_lost_within" 3 s_late_lost_within 7) (d_mixed_kinds : ∀ T : TbT, T.tb = Tb.tb → T.lt = Tb.lt → DefX P w K mg base T "mixed_kinds" 3 s_mixed_kinds 4) (d_named_kinds : ∀ T : TbT, T.tb = Tb.tb → T.lt = Tb.lt → DefX P w K mg base T "named_kinds" 3 s_named_kinds 4) (d_scheme_number : ∀ T : TbT, T.tb = Tb.tb → T.lt = Tb.lt → DefX P w K mg base T "scheme_number" 2 s_scheme_number 6) (d_scheme_told : ∀ T : TbT, T.tb = Tb.tb → T.lt = Tb.lt → DefX P w K mg base T "scheme_told" 4 s_scheme_told 7) (d_shown : ∀ T : TbT, T.tb = Tb.tb → T.lt = Tb.lt → DefX P w K mg base T "shown" 2 s_shown 6) (b_ValueError : mg "ValueError" = none) (b_isinstance : mg "isinstance" = none) (EF : ExF K [0, 1, 2, 3, 4, 5, 6, 7]) {c0 T0 : Addr} (hcd : fd.code = .ref c0) (TBl : LamX.TabB base mg c0 T0) (hT0 : (T0, ("law.<locals>.<lambda>" : Str)) ∈ Tb.lt) (hT1 : ∀ p ∈ Tb.lt, p.1 = T0 → p.2 = ("law.<locals>.<lambda>" : Str)) (hme : Tb.me = none) (her : Tb.er = none) (hkp : Tb.keep = []) (m_BadDays : mg "BadDays" = some (.ref (He.ga K "BadDays"))) (m_BadLibrary : mg "BadLibrary" = some (.ref (He.ga K "BadLibrary"))) (m_BadMost : mg "BadMost" = some (.ref (He.ga K "BadMost"))) (m_BadNumber : mg "BadNumber" = some (.ref (He.ga K "BadNumber"))) (m_BadShown : mg "BadShown" = some (.ref (He.ga K "BadShown"))) (m_BadString : mg "BadString" = some (.ref (He.ga K "BadString"))) (m_BadTablet : mg "BadTablet" = some (.ref (He.ga K "BadTablet"))) (m_LibraryError : mg "LibraryError" = some (.ref (He.ga K "LibraryError"))) (m_NoScheme : mg "NoScheme" = some (.ref (He.ga K "NoScheme"))) (c : Addr) (A : Around) (outer : List PySem.Env) (s : Shared) (H : Hp) (E : XK) (T : TbT) (hc : fd.code = .ref c) (hr : Room 9 (A.deeper (envOfC "law" (defScope st_law) s.heap.objs.size f (.ref c)))) (e1 : T.tb = Tb.tb) (e2 : T.lt = Tb.lt) (e5 : T.cl = Tb.cl) (e4 : T.er = none) (e3 : T.me = some ⟨(cxOf CX0 P w K mg base ["_law_script", "_law_row", "_law_number", "_law_good", "_law_melts", "_law_late", "_law_wrong", "_law_works", "_law_bits", "_law_found", "_law_work"] "law" (defScope st_law) f (.ref c) A outer s H E).nox.env.cells, (cxOf CX0 P w K mg base ["_law_script", "_law_row", "_law_number", "_law_good", "_law_melts", "_law_late", "_law_wrong", "_law_works", "_law_bits", "_law_found", "_law_work"] "law" (defScope st_law) f (.ref c) A outer s H E).nox.env.qual ++ "<lambda>", lams (defBody st_law)⟩) (C : Ctx (mkF P w K T) (cxOf CX0 P w K mg base ["_law_script", "_law_row", "_law_number", "_law_good", "_law_melts", "_law_late", "_law_wrong", "_law_works", "_law_bits", "_law_found", "_law_work"] "law" (defScope st_law) f (.ref c) A outer s H E).nox) :
  PS (cxOf CX0 P w K mg base ["_law_script", "_law_row", "_law_number", "_law_good", "_law_melts", "_law_late", "_law_wrong", "_law_works", "_law_bits", "_law_found", "_law_work"] "law" (defScope st_law) f (.ref c) A outer s H E).nox ((defBody st_law).getD 8 (.Pass ⟨0, 0, 0, 0⟩)) (tS (mkF P w K T) b_law8) := by
  have ec := hc.symm.trans hcd
  obtain rfl : c = c0 := by cases ec; rfl
  have mk : Maker (mkF P w K T) (cxOf CX0 P w K mg base ["_law_script", "_law_row", "_law_number", "_law_good", "_law_melts", "_law_late", "_law_wrong", "_law_works", "_law_bits", "_law_found", "_law_work"] "law" (defScope st_law) f (.ref c) A outer s H E).nox ⟨(cxOf CX0 P w K mg base ["_law_script", "_law_row", "_law_number", "_law_good", "_law_melts", "_law_late", "_law_wrong", "_law_works", "_law_bits", "_law_found", "_law_work"] "law" (defScope st_law) f (.ref c) A outer s H E).nox.env.cells, (cxOf CX0 P w K mg base ["_law_script", "_law_row", "_law_number", "_law_good", "_law_melts", "_law_late", "_law_wrong", "_law_works", "_law_bits", "_law_found", "_law_work"] "law" (defScope st_law) f (.ref c) A outer s H E).nox.env.qual ++ "<lambda>", lams (defBody st_law)⟩ c T0 := ⟨e3, rfl, rfl, TBl, rfl, by show _ ∈ T.lt; rw [e2]; exact hT0, fun p hp e => hT1 p (by rw [← e2]; exact hp) e⟩
  have lo : ∀ T2 : TbT, T2.tb = Tb.tb → T2.lt = Tb.lt → T2.me = some ⟨(cxOf CX0 P w K mg base ["_law_script", "_law_row", "_law_number", "_law_good", "_law_melts", "_law_late", "_law_wrong", "_law_works", "_law_bits", "_law_found", "_law_work"] "law" (defScope st_law) f (.ref c) A outer s H E).nox.env.cells, (cxOf CX0 P w K mg base ["_law_script", "_law_row", "_law_number", "_law_good", "_law_melts", "_law_late", "_law_wrong", "_law_works", "_law_bits", "_law_found", "_law_work"] "law" (defScope st_law) f (.ref c) A outer s H E).nox.env.qual ++ "<lambda>", lams (defBody st_law)⟩ → T2.er = none → LamsOk (mkF P w K T2) (cxOf CX0 P w K mg base ["_law_script", "_law_row", "_law_number", "_law_good", "_law_melts", "_law_late", "_law_wrong", "_law_works", "_law_bits", "_law_found", "_law_work"] "law" (defScope st_law) f (.ref c) A outer s H E).nox ⟨(cxOf CX0 P w K mg base ["_law_script", "_law_row", "_law_number", "_law_good", "_law_melts", "_law_late", "_law_wrong", "_law_works", "_law_bits", "_law_found", "_law_work"] "law" (defScope st_law) f (.ref c) A outer s H E).nox.env.cells, (cxOf CX0 P w K mg base ["_law_script", "_law_row", "_law_number", "_law_good", "_law_melts", "_law_late", "_law_wrong", "_law_works", "_law_bits", "_law_found", "_law_work"] "law" (defScope st_law) f (.ref c) A outer s H E).nox.env.qual ++ "<lambda>", lams (defBody st_law)⟩ 7 lam_law := fun T2 q1 q2 q3 _ => lo_law d_l_pick d_can_right d_can_tell d_contents_told d_failing_rings d_fewest_wrong d_flood_family d_flood_kept d_flood_lost_within d_flood_schemes d_is_flood_scheme d_late_kept d_late_lost_within d_mixed_kinds d_named_kinds d_scheme_number d_scheme_told d_shown c A outer s H E T2 q1 q2 q3
  have d_l_pick := d_l_pick T e1 e2; have d_can_right := d_can_right T e1 e2; have d_can_tell := d_can_tell T e1 e2; have d_contents_told := d_contents_told T e1 e2; have d_failing_rings := d_failing_rings T e1 e2; have d_fewest_wrong := d_fewest_wrong T e1 e2; have d_flood_family := d_flood_family T e1 e2; have d_flood_kept := d_flood_kept T e1 e2; have d_flood_lost_within := d_flood_lost_within T e1 e2; have d_flood_schemes := d_flood_schemes T e1 e2; have d_is_flood_scheme := d_is_flood_scheme T e1 e2; have d_late_kept := d_late_kept T e1 e2; have d_late_lost_within := d_late_lost_within T e1 e2; have d_mixed_kinds := d_mixed_kinds T e1 e2; have d_named_kinds := d_named_kinds T e1 e2; have d_scheme_number := d_scheme_number T e1 e2; have d_scheme_told := d_scheme_told T e1 e2; have d_shown := d_shown T e1 e2
  exact (ds_asg (ve_add (L2.PE.weak (de_var 7)) (L2.PE.weak (de_lst (db_cons (de_lam1 mk 10 (by kernel_rfl) rfl rfl pe_int fun O y hy he => LW10.has O y hy he) db_nil) (few_cons few_nil)))) (dg_nm 7 sc_law.nd))
theorem ok_law9 (FD : FnP K "law" st_law f fd) (hm : mg "law" = some (.ref f)) {f_l_error : Addr} {fd_l_error : FuncData} (FD_l_error : FnP K "_law_error" st_l_error f_l_error fd_l_error) (hm_l_error : mg "_law_error" = some (.ref f_l_error)) (d_l_pick : ∀ T : TbT, T.tb = Tb.tb → T.lt = Tb.lt → DefOk P w K mg base T "_law_pick" 2 s_l_pick 2) (d_can_right : ∀ T : TbT, T.tb = Tb.tb → T.lt = Tb.lt → DefX P w K mg base T "can_right" 2 s_can_right 7) (d_can_tell : ∀ T : TbT, T.tb = Tb.tb → T.lt = Tb.lt → DefX P w K mg base T "can_tell" 2 s_can_tell 7) (d_contents_told : ∀ T : TbT, T.tb = Tb.tb → T.lt = Tb.lt → DefX P w K mg base T "contents_told" 3 s_contents_told 6) (d_failing_rings : ∀ T : TbT, T.tb = Tb.tb → T.lt = Tb.lt → DefX P w K mg base T "failing_rings" 3 s_failing_rings 6) (d_fewest_wrong : ∀ T : TbT, T.tb = Tb.tb → T.lt = Tb.lt → DefX P w K mg base T "fewest_wrong" 2 s_fewest_wrong 6) (d_flood_family : ∀ T : TbT, T.tb = Tb.tb → T.lt = Tb.lt → DefX P w K mg base T "flood_family" 3 s_flood_family 7) (d_flood_kept : ∀ T : TbT, T.tb = Tb.tb → T.lt = Tb.lt → DefX P w K mg base T "flood_kept" 3 s_flood_kept 7) (d_flood_lost_within : ∀ T : TbT, T.tb = Tb.tb → T.lt = Tb.lt → DefX P w K mg base T "flood_lost_within" 3 s_flood_lost_within 7) (d_flood_schemes : ∀ T : TbT, T.tb = Tb.tb → T.lt = Tb.lt → DefX P w K mg base T "flood_schemes" 4 s_flood_schemes 4) (d_is_flood_scheme : ∀ T : TbT, T.tb = Tb.tb → T.lt = Tb.lt → DefX P w K mg base T "is_flood_scheme" 3 s_is_flood_scheme 7) (d_late_kept : ∀ T : TbT, T.tb = Tb.tb → T.lt = Tb.lt → DefX P w K mg base T "late_kept" 3 s_late_kept 7) (d_late_lost_within : ∀ T : TbT, T.tb = Tb.tb → T.lt = Tb.lt → DefX P w K mg base T "late_lost_within" 3 s_late_lost_within 7) (d_mixed_kinds : ∀ T : TbT, T.tb = Tb.tb → T.lt = Tb.lt → DefX P w K mg base T "mixed_kinds" 3 s_mixed_kinds 4) (d_named_kinds : ∀ T : TbT, T.tb = Tb.tb → T.lt = Tb.lt → DefX P w K mg base T "named_kinds" 3 s_named_kinds 4) (d_scheme_number : ∀ T : TbT, T.tb = Tb.tb → T.lt = Tb.lt → DefX P w K mg base T "scheme_number" 2 s_scheme_number 6) (d_scheme_told : ∀ T : TbT, T.tb = Tb.tb → T.lt = Tb.lt → DefX P w K mg base T "scheme_told" 4 s_scheme_told 7) (d_shown : ∀ T : TbT, T.tb = Tb.tb → T.lt = Tb.lt → DefX P w K mg base T "shown" 2 s_shown 6) (b_ValueError : mg "ValueError" = none) (b_isinstance : mg "isinstance" = none) (EF : ExF K [0, 1, 2, 3, 4, 5, 6, 7]) {c0 T0 : Addr} (hcd : fd.code = .ref c0) (TBl : LamX.TabB base mg c0 T0) (hT0 : (T0, ("law.<locals>.<lambda>" : Str)) ∈ Tb.lt) (hT1 : ∀ p ∈ Tb.lt, p.1 = T0 → p.2 = ("law.<locals>.<lambda>" : Str)) (hme : Tb.me = none) (her : Tb.er = none) (hkp : Tb.keep = []) (m_BadDays : mg "BadDays" = some (.ref (He.ga K "BadDays"))) (m_BadLibrary : mg "BadLibrary" = some (.ref (He.ga K "BadLibrary"))) (m_BadMost : mg "BadMost" = some (.ref (He.ga K "BadMost"))) (m_BadNumber : mg "BadNumber" = some (.ref (He.ga K "BadNumber"))) (m_BadShown : mg "BadShown" = some (.ref (He.ga K "BadShown"))) (m_BadString : mg "BadString" = some (.ref (He.ga K "BadString"))) (m_BadTablet : mg "BadTablet" = some (.ref (He.ga K "BadTablet"))) (m_LibraryError : mg "LibraryError" = some (.ref (He.ga K "LibraryError"))) (m_NoScheme : mg "NoScheme" = some (.ref (He.ga K "NoScheme"))) (c : Addr) (A : Around) (outer : List PySem.Env) (s : Shared) (H : Hp) (E : XK) (T : TbT) (hc : fd.code = .ref c) (hr : Room 9 (A.deeper (envOfC "law" (defScope st_law) s.heap.objs.size f (.ref c)))) (e1 : T.tb = Tb.tb) (e2 : T.lt = Tb.lt) (e5 : T.cl = Tb.cl) (e4 : T.er = none) (e3 : T.me = some ⟨(cxOf CX0 P w K mg base ["_law_script", "_law_row", "_law_number", "_law_good", "_law_melts", "_law_late", "_law_wrong", "_law_works", "_law_bits", "_law_found", "_law_work"] "law" (defScope st_law) f (.ref c) A outer s H E).nox.env.cells, (cxOf CX0 P w K mg base ["_law_script", "_law_row", "_law_number", "_law_good", "_law_melts", "_law_late", "_law_wrong", "_law_works", "_law_bits", "_law_found", "_law_work"] "law" (defScope st_law) f (.ref c) A outer s H E).nox.env.qual ++ "<lambda>", lams (defBody st_law)⟩) (C : Ctx (mkF P w K T) (cxOf CX0 P w K mg base ["_law_script", "_law_row", "_law_number", "_law_good", "_law_melts", "_law_late", "_law_wrong", "_law_works", "_law_bits", "_law_found", "_law_work"] "law" (defScope st_law) f (.ref c) A outer s H E).nox) :
  PS (cxOf CX0 P w K mg base ["_law_script", "_law_row", "_law_number", "_law_good", "_law_melts", "_law_late", "_law_wrong", "_law_works", "_law_bits", "_law_found", "_law_work"] "law" (defScope st_law) f (.ref c) A outer s H E).nox ((defBody st_law).getD 9 (.Pass ⟨0, 0, 0, 0⟩)) (tS (mkF P w K T) b_law9) := by
  have ec := hc.symm.trans hcd
  obtain rfl : c = c0 := by cases ec; rfl
  have mk : Maker (mkF P w K T) (cxOf CX0 P w K mg base ["_law_script", "_law_row", "_law_number", "_law_good", "_law_melts", "_law_late", "_law_wrong", "_law_works", "_law_bits", "_law_found", "_law_work"] "law" (defScope st_law) f (.ref c) A outer s H E).nox ⟨(cxOf CX0 P w K mg base ["_law_script", "_law_row", "_law_number", "_law_good", "_law_melts", "_law_late", "_law_wrong", "_law_works", "_law_bits", "_law_found", "_law_work"] "law" (defScope st_law) f (.ref c) A outer s H E).nox.env.cells, (cxOf CX0 P w K mg base ["_law_script", "_law_row", "_law_number", "_law_good", "_law_melts", "_law_late", "_law_wrong", "_law_works", "_law_bits", "_law_found", "_law_work"] "law" (defScope st_law) f (.ref c) A outer s H E).nox.env.qual ++ "<lambda>", lams (defBody st_law)⟩ c T0 := ⟨e3, rfl, rfl, TBl, rfl, by show _ ∈ T.lt; rw [e2]; exact hT0, fun p hp e => hT1 p (by rw [← e2]; exact hp) e⟩
  have lo : ∀ T2 : TbT, T2.tb = Tb.tb → T2.lt = Tb.lt → T2.me = some ⟨(cxOf CX0 P w K mg base ["_law_script", "_law_row", "_law_number", "_law_good", "_law_melts", "_law_late", "_law_wrong", "_law_works", "_law_bits", "_law_found", "_law_work"] "law" (defScope st_law) f (.ref c) A outer s H E).nox.env.cells, (cxOf CX0 P w K mg base ["_law_script", "_law_row", "_law_number", "_law_good", "_law_melts", "_law_late", "_law_wrong", "_law_works", "_law_bits", "_law_found", "_law_work"] "law" (defScope st_law) f (.ref c) A outer s H E).nox.env.qual ++ "<lambda>", lams (defBody st_law)⟩ → T2.er = none → LamsOk (mkF P w K T2) (cxOf CX0 P w K mg base ["_law_script", "_law_row", "_law_number", "_law_good", "_law_melts", "_law_late", "_law_wrong", "_law_works", "_law_bits", "_law_found", "_law_work"] "law" (defScope st_law) f (.ref c) A outer s H E).nox ⟨(cxOf CX0 P w K mg base ["_law_script", "_law_row", "_law_number", "_law_good", "_law_melts", "_law_late", "_law_wrong", "_law_works", "_law_bits", "_law_found", "_law_work"] "law" (defScope st_law) f (.ref c) A outer s H E).nox.env.cells, (cxOf CX0 P w K mg base ["_law_script", "_law_row", "_law_number", "_law_good", "_law_melts", "_law_late", "_law_wrong", "_law_works", "_law_bits", "_law_found", "_law_work"] "law" (defScope st_law) f (.ref c) A outer s H E).nox.env.qual ++ "<lambda>", lams (defBody st_law)⟩ 7 lam_law := fun T2 q1 q2 q3 _ => lo_law d_l_pick d_can_right d_can_tell d_contents_told d_failing_rings d_fewest_wrong d_flood_family d_flood_kept d_flood_lost_within d_flood_schemes d_is_flood_scheme d_late_kept d_late_lost_within d_mixed_kinds d_named_kinds d_scheme_number d_scheme_told d_shown c A outer s H E T2 q1 q2 q3
  have d_l_pick := d_l_pick T e1 e2; have d_can_right := d_can_right T e1 e2; have d_can_tell := d_can_tell T e1 e2; have d_contents_told := d_contents_told T e1 e2; have d_failing_rings := d_failing_rings T e1 e2; have d_fewest_wrong := d_fewest_wrong T e1 e2; have d_flood_family := d_flood_family T e1 e2; have d_flood_kept := d_flood_kept T e1 e2; have d_flood_lost_within := d_flood_lost_within T e1 e2; have d_flood_schemes := d_flood_schemes T e1 e2; have d_is_flood_scheme := d_is_flood_scheme T e1 e2; have d_late_kept := d_late_kept T e1 e2; have d_late_lost_within := d_late_lost_within T e1 e2; have d_mixed_kinds := d_mixed_kinds T e1 e2; have d_named_kinds := d_named_kinds T e1 e2; have d_scheme_number := d_scheme_number T e1 e2; have d_scheme_told := d_scheme_told T e1 e2; have d_shown := d_shown T e1 e2
  exact (ds_asg (ve_add (L2.PE.weak (de_var 7)) (L2.PE.weak (de_lst (db_cons (de_lam0 mk 11 (by kernel_rfl) rfl rfl fun O y hy he => LW11.has O y hy he) (db_cons (de_lam1 mk 12 (by kernel_rfl) rfl rfl pe_int fun O y hy he => LW12.has O y hy he) db_nil)) (few_cons (few_cons few_nil))))) (dg_nm 7 sc_law.nd))
theorem ok_law10 (FD : FnP K "law" st_law f fd) (hm : mg "law" = some (.ref f)) {f_l_error : Addr} {fd_l_error : FuncData} (FD_l_error : FnP K "_law_error" st_l_error f_l_error fd_l_error) (hm_l_error : mg "_law_error" = some (.ref f_l_error)) (d_l_pick : ∀ T : TbT, T.tb = Tb.tb → T.lt = Tb.lt → DefOk P w K mg base T "_law_pick" 2 s_l_pick 2) (d_can_right : ∀ T : TbT, T.tb = Tb.tb → T.lt = Tb.lt → DefX P w K mg base T "can_right" 2 s_can_right 7) (d_can_tell : ∀ T : TbT, T.tb = Tb.tb → T.lt = Tb.lt → DefX P w K mg base T "can_tell" 2 s_can_tell 7) (d_contents_told : ∀ T : TbT, T.tb = Tb.tb → T.lt = Tb.lt → DefX P w K mg base T "contents_told" 3 s_contents_told 6) (d_failing_rings : ∀ T : TbT, T.tb = Tb.tb → T.lt = Tb.lt → DefX P w K mg base T "failing_rings" 3 s_failing_rings 6) (d_fewest_wrong : ∀ T : TbT, T.tb = Tb.tb → T.lt = Tb.lt → DefX P w K mg base T "fewest_wrong" 2 s_fewest_wrong 6) (d_flood_family : ∀ T : TbT, T.tb = Tb.tb → T.lt = Tb.lt → DefX P w K mg base T "flood_family" 3 s_flood_family 7) (d_flood_kept : ∀ T : TbT, T.tb = Tb.tb → T.lt = Tb.lt → DefX P w K mg base T "flood_kept" 3 s_flood_kept 7) (d_flood_lost_within : ∀ T : TbT, T.tb = Tb.tb → T.lt = Tb.lt → DefX P w K mg base T "flood_lost_within" 3 s_flood_lost_within 7) (d_flood_schemes : ∀ T : TbT, T.tb = Tb.tb → T.lt = Tb.lt → DefX P w K mg base T "flood_schemes" 4 s_flood_schemes 4) (d_is_flood_scheme : ∀ T : TbT, T.tb = Tb.tb → T.lt = Tb.lt → DefX P w K mg base T "is_flood_scheme" 3 s_is_flood_scheme 7) (d_late_kept : ∀ T : TbT, T.tb = Tb.tb → T.lt = Tb.lt → DefX P w K mg base T "late_kept" 3 s_late_kept 7) (d_late_lost_within : ∀ T : TbT, T.tb = Tb.tb → T.lt = Tb.lt → DefX P w K mg base T "late_lost_within" 3 s_late_lost_within 7) (d_mixed_kinds : ∀ T : TbT, T.tb = Tb.tb → T.lt = Tb.lt → DefX P w K mg base T "mixed_kinds" 3 s_mixed_kinds 4) (d_named_kinds : ∀ T : TbT, T.tb = Tb.tb → T.lt = Tb.lt → DefX P w K mg base T "named_kinds" 3 s_named_kinds 4) (d_scheme_number : ∀ T : TbT, T.tb = Tb.tb → T.lt = Tb.lt → DefX P w K mg base T "scheme_number" 2 s_scheme_number 6) (d_scheme_told : ∀ T : TbT, T.tb = Tb.tb → T.lt = Tb.lt → DefX P w K mg base T "scheme_told" 4 s_scheme_told 7) (d_shown : ∀ T : TbT, T.tb = Tb.tb → T.lt = Tb.lt → DefX P w K mg base T "shown" 2 s_shown 6) (b_ValueError : mg "ValueError" = none) (b_isinstance : mg "isinstance" = none) (EF : ExF K [0, 1, 2, 3, 4, 5, 6, 7]) {c0 T0 : Addr} (hcd : fd.code = .ref c0) (TBl : LamX.TabB base mg c0 T0) (hT0 : (T0, ("law.<locals>.<lambda>" : Str)) ∈ Tb.lt) (hT1 : ∀ p ∈ Tb.lt, p.1 = T0 → p.2 = ("law.<locals>.<lambda>" : Str)) (hme : Tb.me = none) (her : Tb.er = none) (hkp : Tb.keep = []) (m_BadDays : mg "BadDays" = some (.ref (He.ga K "BadDays"))) (m_BadLibrary : mg "BadLibrary" = some (.ref (He.ga K "BadLibrary"))) (m_BadMost : mg "BadMost" = some (.ref (He.ga K "BadMost"))) (m_BadNumber : mg "BadNumber" = some (.ref (He.ga K "BadNumber"))) (m_BadShown : mg "BadShown" = some (.ref (He.ga K "BadShown"))) (m_BadString : mg "BadString" = some (.ref (He.ga K "BadString"))) (m_BadTablet : mg "BadTablet" = some (.ref (He.ga K "BadTablet"))) (m_LibraryError : mg "LibraryError" = some (.ref (He.ga K "LibraryError"))) (m_NoScheme : mg "NoScheme" = some (.ref (He.ga K "NoScheme"))) (c : Addr) (A : Around) (outer : List PySem.Env) (s : Shared) (H : Hp) (E : XK) (T : TbT) (hc : fd.code = .ref c) (hr : Room 9 (A.deeper (envOfC "law" (defScope st_law) s.heap.objs.size f (.ref c)))) (e1 : T.tb = Tb.tb) (e2 : T.lt = Tb.lt) (e5 : T.cl = Tb.cl) (e4 : T.er = none) (e3 : T.me = some ⟨(cxOf CX0 P w K mg base ["_law_script", "_law_row", "_law_number", "_law_good", "_law_melts", "_law_late", "_law_wrong", "_law_works", "_law_bits", "_law_found", "_law_work"] "law" (defScope st_law) f (.ref c) A outer s H E).nox.env.cells, (cxOf CX0 P w K mg base ["_law_script", "_law_row", "_law_number", "_law_good", "_law_melts", "_law_late", "_law_wrong", "_law_works", "_law_bits", "_law_found", "_law_work"] "law" (defScope st_law) f (.ref c) A outer s H E).nox.env.qual ++ "<lambda>", lams (defBody st_law)⟩) (C : Ctx (mkF P w K T) (cxOf CX0 P w K mg base ["_law_script", "_law_row", "_law_number", "_law_good", "_law_melts", "_law_late", "_law_wrong", "_law_works", "_law_bits", "_law_found", "_law_work"] "law" (defScope st_law) f (.ref c) A outer s H E).nox) :
  PS (cxOf CX0 P w K mg base ["_law_script", "_law_row", "_law_number", "_law_good", "_law_melts", "_law_late", "_law_wrong", "_law_works", "_law_bits", "_law_found", "_law_work"] "law" (defScope st_law) f (.ref c) A outer s H E).nox ((defBody st_law).getD 10 (.Pass ⟨0, 0, 0, 0⟩)) (tS (mkF P w K T) b_law10) := by
  have ec := hc.symm.trans hcd
  obtain rfl : c = c0 := by cases ec; rfl
  have mk : Maker (mkF P w K T) (cxOf CX0 P w K mg base ["_law_script", "_law_row", "_law_number", "_law_good", "_law_melts", "_law_late", "_law_wrong", "_law_works", "_law_bits", "_law_found", "_law_work"] "law" (defScope st_law) f (.ref c) A outer s H E).nox ⟨(cxOf CX0 P w K mg base ["_law_script", "_law_row", "_law_number", "_law_good", "_law_melts", "_law_late", "_law_wrong", "_law_works", "_law_bits", "_law_found", "_law_work"] "law" (defScope st_law) f (.ref c) A outer s H E).nox.env.cells, (cxOf CX0 P w K mg base ["_law_script", "_law_row", "_law_number", "_law_good", "_law_melts", "_law_late", "_law_wrong", "_law_works", "_law_bits", "_law_found", "_law_work"] "law" (defScope st_law) f (.ref c) A outer s H E).nox.env.qual ++ "<lambda>", lams (defBody st_law)⟩ c T0 := ⟨e3, rfl, rfl, TBl, rfl, by show _ ∈ T.lt; rw [e2]; exact hT0, fun p hp e => hT1 p (by rw [← e2]; exact hp) e⟩
  have lo : ∀ T2 : TbT, T2.tb = Tb.tb → T2.lt = Tb.lt → T2.me = some ⟨(cxOf CX0 P w K mg base ["_law_script", "_law_row", "_law_number", "_law_good", "_law_melts", "_law_late", "_law_wrong", "_law_works", "_law_bits", "_law_found", "_law_work"] "law" (defScope st_law) f (.ref c) A outer s H E).nox.env.cells, (cxOf CX0 P w K mg base ["_law_script", "_law_row", "_law_number", "_law_good", "_law_melts", "_law_late", "_law_wrong", "_law_works", "_law_bits", "_law_found", "_law_work"] "law" (defScope st_law) f (.ref c) A outer s H E).nox.env.qual ++ "<lambda>", lams (defBody st_law)⟩ → T2.er = none → LamsOk (mkF P w K T2) (cxOf CX0 P w K mg base ["_law_script", "_law_row", "_law_number", "_law_good", "_law_melts", "_law_late", "_law_wrong", "_law_works", "_law_bits", "_law_found", "_law_work"] "law" (defScope st_law) f (.ref c) A outer s H E).nox ⟨(cxOf CX0 P w K mg base ["_law_script", "_law_row", "_law_number", "_law_good", "_law_melts", "_law_late", "_law_wrong", "_law_works", "_law_bits", "_law_found", "_law_work"] "law" (defScope st_law) f (.ref c) A outer s H E).nox.env.cells, (cxOf CX0 P w K mg base ["_law_script", "_law_row", "_law_number", "_law_good", "_law_melts", "_law_late", "_law_wrong", "_law_works", "_law_bits", "_law_found", "_law_work"] "law" (defScope st_law) f (.ref c) A outer s H E).nox.env.qual ++ "<lambda>", lams (defBody st_law)⟩ 7 lam_law := fun T2 q1 q2 q3 _ => lo_law d_l_pick d_can_right d_can_tell d_contents_told d_failing_rings d_fewest_wrong d_flood_family d_flood_kept d_flood_lost_within d_flood_schemes d_is_flood_scheme d_late_kept d_late_lost_within d_mixed_kinds d_named_kinds d_scheme_number d_scheme_told d_shown c A outer s H E T2 q1 q2 q3
  have d_l_pick := d_l_pick T e1 e2; have d_can_right := d_can_right T e1 e2; have d_can_tell := d_can_tell T e1 e2; have d_contents_told := d_contents_told T e1 e2; have d_failing_rings := d_failing_rings T e1 e2; have d_fewest_wrong := d_fewest_wrong T e1 e2; have d_flood_family := d_flood_family T e1 e2; have d_flood_kept := d_flood_kept T e1 e2; have d_flood_lost_within := d_flood_lost_within T e1 e2; have d_flood_schemes := d_flood_schemes T e1 e2; have d_is_flood_scheme := d_is_flood_scheme T e1 e2; have d_late_kept := d_late_kept T e1 e2; have d_late_lost_within := d_late_lost_within T e1 e2; have d_mixed_kinds := d_mixed_kinds T e1 e2; have d_named_kinds := d_named_kinds T e1 e2; have d_scheme_number := d_scheme_number T e1 e2; have d_scheme_told := d_scheme_told T e1 e2; have d_shown := d_shown T e1 e2
  exact (ds_asg (ve_add (L2.PE.weak (de_var 7)) (L2.PE.weak (de_lst (db_cons (de_lam1 mk 13 (by kernel_rfl) rfl rfl pe_int fun O y hy he => LW13.has O y hy he) db_nil) (few_cons few_nil)))) (dg_nm 7 sc_law.nd))
theorem ok_law11 (FD : FnP K "law" st_law f fd) (hm : mg "law" = some (.ref f)) {f_l_error : Addr} {fd_l_error : FuncData} (FD_l_error : FnP K "_law_error" st_l_error f_l_error fd_l_error) (hm_l_error : mg "_law_error" = some (.ref f_l_error)) (d_l_pick : ∀ T : TbT, T.tb = Tb.tb → T.lt = Tb.lt → DefOk P w K mg base T "_law_pick" 2 s_l_pick 2) (d_can_right : ∀ T : TbT, T.tb = Tb.tb → T.lt = Tb.lt → DefX P w K mg base T "can_right" 2 s_can_right 7) (d_can_tell : ∀ T : TbT, T.tb = Tb.tb → T.lt = Tb.lt → DefX P w K mg base T "can_tell" 2 s_can_tell 7) (d_contents_told : ∀ T : TbT, T.tb = Tb.tb → T.lt = Tb.lt → DefX P w K mg base T "contents_told" 3 s_contents_told 6) (d_failing_rings : ∀ T : TbT, T.tb = Tb.tb → T.lt = Tb.lt → DefX P w K mg base T "failing_rings" 3 s_failing_rings 6) (d_fewest_wrong : ∀ T : TbT, T.tb = Tb.tb → T.lt = Tb.lt → DefX P w K mg base T "fewest_wrong" 2 s_fewest_wrong 6) (d_flood_family : ∀ T : TbT, T.tb = Tb.tb → T.lt = Tb.lt → DefX P w K mg base T "flood_family" 3 s_flood_family 7) (d_flood_kept : ∀ T : TbT, T.tb = Tb.tb → T.lt = Tb.lt → DefX P w K mg base T "flood_kept" 3 s_flood_kept 7) (d_flood_lost_within : ∀ T : TbT, T.tb = Tb.tb → T.lt = Tb.lt → DefX P w K mg base T "flood_lost_within" 3 s_flood_lost_within 7) (d_flood_schemes : ∀ T : TbT, T.tb = Tb.tb → T.lt = Tb.lt → DefX P w K mg base T "flood_schemes" 4 s_flood_schemes 4) (d_is_flood_scheme : ∀ T : TbT, T.tb = Tb.tb → T.lt = Tb.lt → DefX P w K mg base T "is_flood_scheme" 3 s_is_flood_scheme 7) (d_late_kept : ∀ T : TbT, T.tb = Tb.tb → T.lt = Tb.lt → DefX P w K mg base T "late_kept" 3 s_late_kept 7) (d_late_lost_within : ∀ T : TbT, T.tb = Tb.tb → T.lt = Tb.lt → DefX P w K mg base T "late_lost_within" 3 s_late_lost_within 7) (d_mixed_kinds : ∀ T : TbT, T.tb = Tb.tb → T.lt = Tb.lt → DefX P w K mg base T "mixed_kinds" 3 s_mixed_kinds 4) (d_named_kinds : ∀ T : TbT, T.tb = Tb.tb → T.lt = Tb.lt → DefX P w K mg base T "named_kinds" 3 s_named_kinds 4) (d_scheme_number : ∀ T : TbT, T.tb = Tb.tb → T.lt = Tb.lt → DefX P w K mg base T "scheme_number" 2 s_scheme_number 6) (d_scheme_told : ∀ T : TbT, T.tb = Tb.tb → T.lt = Tb.lt → DefX P w K mg base T "scheme_told" 4 s_scheme_told 7) (d_shown : ∀ T : TbT, T.tb = Tb.tb → T.lt = Tb.lt → DefX P w K mg base T "shown" 2 s_shown 6) (b_ValueError : mg "ValueError" = none) (b_isinstance : mg "isinstance" = none) (EF : ExF K [0, 1, 2, 3, 4, 5, 6, 7]) {c0 T0 : Addr} (hcd : fd.code = .ref c0) (TBl : LamX.TabB base mg c0 T0) (hT0 : (T0, ("law.<locals>.<lambda>" : Str)) ∈ Tb.lt) (hT1 : ∀ p ∈ Tb.lt, p.1 = T0 → p.2 = ("law.<locals>.<lambda>" : Str)) (hme : Tb.me = none) (her : Tb.er = none) (hkp : Tb.keep = []) (m_BadDays : mg "BadDays" = some (.ref (He.ga K "BadDays"))) (m_BadLibrary : mg "BadLibrary" = some (.ref (He.ga K "BadLibrary"))) (m_BadMost : mg "BadMost" = some (.ref (He.ga K "BadMost"))) (m_BadNumber : mg "BadNumber" = some (.ref (He.ga K "BadNumber"))) (m_BadShown : mg "BadShown" = some (.ref (He.ga K "BadShown"))) (m_BadString : mg "BadString" = some (.ref (He.ga K "BadString"))) (m_BadTablet : mg "BadTablet" = some (.ref (He.ga K "BadTablet"))) (m_LibraryError : mg "LibraryError" = some (.ref (He.ga K "LibraryError"))) (m_NoScheme : mg "NoScheme" = some (.ref (He.ga K "NoScheme"))) (c : Addr) (A : Around) (outer : List PySem.Env) (s : Shared) (H : Hp) (E : XK) (T : TbT) (hc : fd.code = .ref c) (hr : Room 9 (A.deeper (envOfC "law" (defScope st_law) s.heap.objs.size f (.ref c)))) (e1 : T.tb = Tb.tb) (e2 : T.lt = Tb.lt) (e5 : T.cl = Tb.cl) (e4 : T.er = none) (e3 : T.me = some ⟨(cxOf CX0 P w K mg base ["_law_script", "_law_row", "_law_number", "_law_good", "_law_melts", "_law_late", "_law_wrong", "_law_works", "_law_bits", "_law_found", "_law_work"] "law" (defScope st_law) f (.ref c) A outer s H E).nox.env.cells, (cxOf CX0 P w K mg base ["_law_script", "_law_row", "_law_number", "_law_good", "_law_melts", "_law_late", "_law_wrong", "_law_works", "_law_bits", "_law_found", "_law_work"] "law" (defScope st_law) f (.ref c) A outer s H E).nox.env.qual ++ "<lambda>", lams (defBody st_law)⟩) (C : Ctx (mkF P w K T) (cxOf CX0 P w K mg base ["_law_script", "_law_row", "_law_number", "_law_good", "_law_melts", "_law_late", "_law_wrong", "_law_works", "_law_bits", "_law_found", "_law_work"] "law" (defScope st_law) f (.ref c) A outer s H E).nox) :
  PS (cxOf CX0 P w K mg base ["_law_script", "_law_row", "_law_number", "_law_good", "_law_melts", "_law_late", "_law_wrong", "_law_works", "_law_bits", "_law_found", "_law_work"] "law" (defScope st_law) f (.ref c) A outer s H E).nox ((defBody st_law).getD 11 (.Pass ⟨0, 0, 0, 0⟩)) (tS (mkF P w K T) b_law11) := by
  have ec := hc.symm.trans hcd
  obtain rfl : c = c0 := by cases ec; rfl
  have mk : Maker (mkF P w K T) (cxOf CX0 P w K mg base ["_law_script", "_law_row", "_law_number", "_law_good", "_law_melts", "_law_late", "_law_wrong", "_law_works", "_law_bits", "_law_found", "_law_work"] "law" (defScope st_law) f (.ref c) A outer s H E).nox ⟨(cxOf CX0 P w K mg base ["_law_script", "_law_row", "_law_number", "_law_good", "_law_melts", "_law_late", "_law_wrong", "_law_works", "_law_bits", "_law_found", "_law_work"] "law" (defScope st_law) f (.ref c) A outer s H E).nox.env.cells, (cxOf CX0 P w K mg base ["_law_script", "_law_row", "_law_number", "_law_good", "_law_melts", "_law_late", "_law_wrong", "_law_works", "_law_bits", "_law_found", "_law_work"] "law" (defScope st_law) f (.ref c) A outer s H E).nox.env.qual ++ "<lambda>", lams (defBody st_law)⟩ c T0 := ⟨e3, rfl, rfl, TBl, rfl, by show _ ∈ T.lt; rw [e2]; exact hT0, fun p hp e => hT1 p (by rw [← e2]; exact hp) e⟩
  have lo : ∀ T2 : TbT, T2.tb = Tb.tb → T2.lt = Tb.lt → T2.me = some ⟨(cxOf CX0 P w K mg base ["_law_script", "_law_row", "_law_number", "_law_good", "_law_melts", "_law_late", "_law_wrong", "_law_works", "_law_bits", "_law_found", "_law_work"] "law" (defScope st_law) f (.ref c) A outer s H E).nox.env.cells, (cxOf CX0 P w K mg base ["_law_script", "_law_row", "_law_number", "_law_good", "_law_melts", "_law_late", "_law_wrong", "_law_works", "_law_bits", "_law_found", "_law_work"] "law" (defScope st_law) f (.ref c) A outer s H E).nox.env.qual ++ "<lambda>", lams (defBody st_law)⟩ → T2.er = none → LamsOk (mkF P w K T2) (cxOf CX0 P w K mg base ["_law_script", "_law_row", "_law_number", "_law_good", "_law_melts", "_law_late", "_law_wrong", "_law_works", "_law_bits", "_law_found", "_law_work"] "law" (defScope st_law) f (.ref c) A outer s H E).nox ⟨(cxOf CX0 P w K mg base ["_law_script", "_law_row", "_law_number", "_law_good", "_law_melts", "_law_late", "_law_wrong", "_law_works", "_law_bits", "_law_found", "_law_work"] "law" (defScope st_law) f (.ref c) A outer s H E).nox.env.cells, (cxOf CX0 P w K mg base ["_law_script", "_law_row", "_law_number", "_law_good", "_law_melts", "_law_late", "_law_wrong", "_law_works", "_law_bits", "_law_found", "_law_work"] "law" (defScope st_law) f (.ref c) A outer s H E).nox.env.qual ++ "<lambda>", lams (defBody st_law)⟩ 7 lam_law := fun T2 q1 q2 q3 _ => lo_law d_l_pick d_can_right d_can_tell d_contents_told d_failing_rings d_fewest_wrong d_flood_family d_flood_kept d_flood_lost_within d_flood_schemes d_is_flood_scheme d_late_kept d_late_lost_within d_mixed_kinds d_named_kinds d_scheme_number d_scheme_told d_shown c A outer s H E T2 q1 q2 q3
  have d_l_pick := d_l_pick T e1 e2; have d_can_right := d_can_right T e1 e2; have d_can_tell := d_can_tell T e1 e2; have d_contents_told := d_contents_told T e1 e2; have d_failing_rings := d_failing_rings T e1 e2; have d_fewest_wrong := d_fewest_wrong T e1 e2; have d_flood_family := d_flood_family T e1 e2; have d_flood_kept := d_flood_kept T e1 e2; have d_flood_lost_within := d_flood_lost_within T e1 e2; have d_flood_schemes := d_flood_schemes T e1 e2; have d_is_flood_scheme := d_is_flood_scheme T e1 e2; have d_late_kept := d_late_kept T e1 e2; have d_late_lost_within := d_late_lost_within T e1 e2; have d_mixed_kinds := d_mixed_kinds T e1 e2; have d_named_kinds := d_named_kinds T e1 e2; have d_scheme_number := d_scheme_number T e1 e2; have d_scheme_told := d_scheme_told T e1 e2; have d_shown := d_shown T e1 e2
  exact (ds_asg (ve_add (L2.PE.weak (de_var 7)) (L2.PE.weak (de_lst (db_cons (de_lam1 mk 14 (by kernel_rfl) rfl rfl pe_int fun O y hy he => LW14.has O y hy he) db_nil) (few_cons few_nil)))) (dg_nm 7 sc_law.nd))
theorem ok_law12 (FD : FnP K "law" st_law f fd) (hm : mg "law" = some (.ref f)) {f_l_error : Addr} {fd_l_error : FuncData} (FD_l_error : FnP K "_law_error" st_l_error f_l_error fd_l_error) (hm_l_error : mg "_law_error" = some (.ref f_l_error)) (d_l_pick : ∀ T : TbT, T.tb = Tb.tb → T.lt = Tb.lt → DefOk P w K mg base T "_law_pick" 2 s_l_pick 2) (d_can_right : ∀ T : TbT, T.tb = Tb.tb → T.lt = Tb.lt → DefX P w K mg base T "can_right" 2 s_can_right 7) (d_can_tell : ∀ T : TbT, T.tb = Tb.tb → T.lt = Tb.lt → DefX P w K mg base T "can_tell" 2 s_can_tell 7) (d_contents_told : ∀ T : TbT, T.tb = Tb.tb → T.lt = Tb.lt → DefX P w K mg base T "contents_told" 3 s_contents_told 6) (d_failing_rings : ∀ T : TbT, T.tb = Tb.tb → T.lt = Tb.lt → DefX P w K mg base T "failing_rings" 3 s_failing_rings 6) (d_fewest_wrong : ∀ T : TbT, T.tb = Tb.tb → T.lt = Tb.lt → DefX P w K mg base T "fewest_wrong" 2 s_fewest_wrong 6) (d_flood_family : ∀ T : TbT, T.tb = Tb.tb → T.lt = Tb.lt → DefX P w K mg base T "flood_family" 3 s_flood_family 7) (d_flood_kept : ∀ T : TbT, T.tb = Tb.tb → T.lt = Tb.lt → DefX P w K mg base T "flood_kept" 3 s_flood_kept 7) (d_flood_lost_within : ∀ T : TbT, T.tb = Tb.tb → T.lt = Tb.lt → DefX P w K mg base T "flood_lost_within" 3 s_flood_lost_within 7) (d_flood_schemes : ∀ T : TbT, T.tb = Tb.tb → T.lt = Tb.lt → DefX P w K mg base T "flood_schemes" 4 s_flood_schemes 4) (d_is_flood_scheme : ∀ T : TbT, T.tb = Tb.tb → T.lt = Tb.lt → DefX P w K mg base T "is_flood_scheme" 3 s_is_flood_scheme 7) (d_late_kept : ∀ T : TbT, T.tb = Tb.tb → T.lt = Tb.lt → DefX P w K mg base T "late_kept" 3 s_late_kept 7) (d_late_lost_within : ∀ T : TbT, T.tb = Tb.tb → T.lt = Tb.lt → DefX P w K mg base T "late_lost_within" 3 s_late_lost_within 7) (d_mixed_kinds : ∀ T : TbT, T.tb = Tb.tb → T.lt = Tb.lt → DefX P w K mg base T "mixed_kinds" 3 s_mixed_kinds 4) (d_named_kinds : ∀ T : TbT, T.tb = Tb.tb → T.lt = Tb.lt → DefX P w K mg base T "named_kinds" 3 s_named_kinds 4) (d_scheme_number : ∀ T : TbT, T.tb = Tb.tb → T.lt = Tb.lt → DefX P w K mg base T "scheme_number" 2 s_scheme_number 6) (d_scheme_told : ∀ T : TbT, T.tb = Tb.tb → T.lt = Tb.lt → DefX P w K mg base T "scheme_told" 4 s_scheme_told 7) (d_shown : ∀ T : TbT, T.tb = Tb.tb → T.lt = Tb.lt → DefX P w K mg base T "shown" 2 s_shown 6) (b_ValueError : mg "ValueError" = none) (b_isinstance : mg "isinstance" = none) (EF : ExF K [0, 1, 2, 3, 4, 5, 6, 7]) {c0 T0 : Addr} (hcd : fd.code = .ref c0) (TBl : LamX.TabB base mg c0 T0) (hT0 : (T0, ("law.<locals>.<lambda>" : Str)) ∈ Tb.lt) (hT1 : ∀ p ∈ Tb.lt, p.1 = T0 → p.2 = ("law.<locals>.<lambda>" : Str)) (hme : Tb.me = none) (her : Tb.er = none) (hkp : Tb.keep = []) (m_BadDays : mg "BadDays" = some (.ref (He.ga K "BadDays"))) (m_BadLibrary : mg "BadLibrary" = some (.ref (He.ga K "BadLibrary"))) (m_BadMost : mg "BadMost" = some (.ref (He.ga K "BadMost"))) (m_BadNumber : mg "BadNumber" = some (.ref (He.ga K "BadNumber"))) (m_BadShown : mg "BadShown" = some (.ref (He.ga K "BadShown"))) (m_BadString : mg "BadString" = some (.ref (He.ga K "BadString"))) (m_BadTablet : mg "BadTablet" = some (.ref (He.ga K "BadTablet"))) (m_LibraryError : mg "LibraryError" = some (.ref (He.ga K "LibraryError"))) (m_NoScheme : mg "NoScheme" = some (.ref (He.ga K "NoScheme"))) (c : Addr) (A : Around) (outer : List PySem.Env) (s : Shared) (H : Hp) (E : XK) (T : TbT) (hc : fd.code = .ref c) (hr : Room 9 (A.deeper (envOfC "law" (defScope st_law) s.heap.objs.size f (.ref c)))) (e1 : T.tb = Tb.tb) (e2 : T.lt = Tb.lt) (e5 : T.cl = Tb.cl) (e4 : T.er = none) (e3 : T.me = some ⟨(cxOf CX0 P w K mg base ["_law_script", "_law_row", "_law_number", "_law_good", "_law_melts", "_law_late", "_law_wrong", "_law_works", "_law_bits", "_law_found", "_law_work"] "law" (defScope st_law) f (.ref c) A outer s H E).nox.env.cells, (cxOf CX0 P w K mg base ["_law_script", "_law_row", "_law_number", "_law_good", "_law_melts", "_law_late", "_law_wrong", "_law_works", "_law_bits", "_law_found", "_law_work"] "law" (defScope st_law) f (.ref c) A outer s H E).nox.env.qual ++ "<lambda>", lams (defBody st_law)⟩) (C : Ctx (mkF P w K T) (cxOf CX0 P w K mg base ["_law_script", "_law_row", "_law_number", "_law_good", "_law_melts", "_law_late", "_law_wrong", "_law_works", "_law_bits", "_law_found", "_law_work"] "law" (defScope st_law) f (.ref c) A outer s H E).nox) :
  PS (cxOf CX0 P w K mg base ["_law_script", "_law_row", "_law_number", "_law_good", "_law_melts", "_law_late", "_law_wrong", "_law_works", "_law_bits", "_law_found", "_law_work"] "law" (defScope st_law) f (.ref c) A outer s H E).nox ((defBody st_law).getD 12 (.Pass ⟨0, 0, 0, 0⟩)) (tS (mkF P w K T) b_law12) := by
  have ec := hc.symm.trans hcd
  obtain rfl : c = c0 := by cases ec; rfl
  have mk : Maker (mkF P w K T) (cxOf CX0 P w K mg base ["_law_script", "_law_row", "_law_number", "_law_good", "_law_melts", "_law_late", "_law_wrong", "_law_works", "_law_bits", "_law_found", "_law_work"] "law" (defScope st_law) f (.ref c) A outer s H E).nox ⟨(cxOf CX0 P w K mg base ["_law_script", "_law_row", "_law_number", "_law_good", "_law_melts", "_law_late", "_law_wrong", "_law_works", "_law_bits", "_law_found", "_law_work"] "law" (defScope st_law) f (.ref c) A outer s H E).nox.env.cells, (cxOf CX0 P w K mg base ["_law_script", "_law_row", "_law_number", "_law_good", "_law_melts", "_law_late", "_law_wrong", "_law_works", "_law_bits", "_law_found", "_law_work"] "law" (defScope st_law) f (.ref c) A outer s H E).nox.env.qual ++ "<lambda>", lams (defBody st_law)⟩ c T0 := ⟨e3, rfl, rfl, TBl, rfl, by show _ ∈ T.lt; rw [e2]; exact hT0, fun p hp e => hT1 p (by rw [← e2]; exact hp) e⟩
  have lo : ∀ T2 : TbT, T2.tb = Tb.tb → T2.lt = Tb.lt → T2.me = some ⟨(cxOf CX0 P w K mg base ["_law_script", "_law_row", "_law_number", "_law_good", "_law_melts", "_law_late", "_law_wrong", "_law_works", "_law_bits", "_law_found", "_law_work"] "law" (defScope st_law) f (.ref c) A outer s H E).nox.env.cells, (cxOf CX0 P w K mg base ["_law_script", "_law_row", "_law_number", "_law_good", "_law_melts", "_law_late", "_law_wrong", "_law_works", "_law_bits", "_law_found", "_law_work"] "law" (defScope st_law) f (.ref c) A outer s H E).nox.env.qual ++ "<lambda>", lams (defBody st_law)⟩ → T2.er = none → LamsOk (mkF P w K T2) (cxOf CX0 P w K mg base ["_law_script", "_law_row", "_law_number", "_law_good", "_law_melts", "_law_late", "_law_wrong", "_law_works", "_law_bits", "_law_found", "_law_work"] "law" (defScope st_law) f (.ref c) A outer s H E).nox ⟨(cxOf CX0 P w K mg base ["_law_script", "_law_row", "_law_number", "_law_good", "_law_melts", "_law_late", "_law_wrong", "_law_works", "_law_bits", "_law_found", "_law_work"] "law" (defScope st_law) f (.ref c) A outer s H E).nox.env.cells, (cxOf CX0 P w K mg base ["_law_script", "_law_row", "_law_number", "_law_good", "_law_melts", "_law_late", "_law_wrong", "_law_works", "_law_bits", "_law_found", "_law_work"] "law" (defScope st_law) f (.ref c) A outer s H E).nox.env.qual ++ "<lambda>", lams (defBody st_law)⟩ 7 lam_law := fun T2 q1 q2 q3 _ => lo_law d_l_pick d_can_right d_can_tell d_contents_told d_failing_rings d_fewest_wrong d_flood_family d_flood_kept d_flood_lost_within d_flood_schemes d_is_flood_scheme d_late_kept d_late_lost_within d_mixed_kinds d_named_kinds d_scheme_number d_scheme_told d_shown c A outer s H E T2 q1 q2 q3
  have d_l_pick := d_l_pick T e1 e2; have d_can_right := d_can_right T e1 e2; have d_can_tell := d_can_tell T e1 e2; have d_contents_told := d_contents_told T e1 e2; have d_failing_rings := d_failing_rings T e1 e2; have d_fewest_wrong := d_fewest_wrong T e1 e2; have d_flood_family := d_flood_family T e1 e2; have d_flood_kept := d_flood_kept T e1 e2; have d_flood_lost_within := d_flood_lost_within T e1 e2; have d_flood_schemes := d_flood_schemes T e1 e2; have d_is_flood_scheme := d_is_flood_scheme T e1 e2; have d_late_kept := d_late_kept T e1 e2; have d_late_lost_within := d_late_lost_within T e1 e2; have d_mixed_kinds := d_mixed_kinds T e1 e2; have d_named_kinds := d_named_kinds T e1 e2; have d_scheme_number := d_scheme_number T e1 e2; have d_scheme_told := d_scheme_told T e1 e2; have d_shown := d_shown T e1 e2
  exact (ds_if (vt_cmp ok_ne (L2.PE.weak (de_lcK (own := [("_law_work", 10)]) sc_law.nd (di_bor (L2.PE.weak (de_var 7))) (blkOk_by (by kernel_rfl)) (fun _ _ _ _ _ => (dg_nm 10 sc_law.nd)) (fun s3 H3 C3 cl3 fp3 σ3 at3 => pts_one (vt_cmpK ok_ne (de_callK (X := (cxOf CX0 P w K mg base ["_law_script", "_law_row", "_law_number", "_law_good", "_law_melts", "_law_late", "_law_wrong", "_law_works", "_law_bits", "_law_found", "_law_work"] "law" (defScope st_law) f (.ref c) A outer s H E).nox) (M := ⟨(cxOf CX0 P w K mg base ["_law_script", "_law_row", "_law_number", "_law_good", "_law_melts", "_law_late", "_law_wrong", "_law_works", "_law_bits", "_law_found", "_law_work"] "law" (defScope st_law) f (.ref c) A outer s H E).nox.env.cells, (cxOf CX0 P w K mg base ["_law_script", "_law_row", "_law_number", "_law_good", "_law_melts", "_law_late", "_law_wrong", "_law_works", "_law_bits", "_law_found", "_law_work"] "law" (defScope st_law) f (.ref c) A outer s H E).nox.env.qual ++ "<lambda>", lams (defBody st_law)⟩) (lams := lam_law) (cap := [1, 2, 3, 4, 5, 6, 8]) (b := b_l_error) (n := 4) (N := ["_law_work", "_law_found", "_law_known", "error"]) (k := 8) (kn_blk at3 (blkOwn_by (by kernel_rfl))) ⟨rfl, rfl, rfl, rfl, rfl⟩ e4 FD_l_error sc_l_error (fun T2 σ0 r0 c2 A2 outer2 s2 H2 hc2 q1 q2 q3 q4 q5 hk hr2 C2 kc2 => w_l_error FD_l_error EF m_BadDays m_BadLibrary m_BadMost m_BadNumber m_BadShown m_BadString m_BadTablet m_LibraryError m_NoScheme b_ValueError b_isinstance T2 q4 (lo T2 (q1.trans e1) (q2.trans e2) (q3.trans e3) q4) σ0 r0 hk c2 A2 outer2 s2 H2 hc2 hr2 C2 kc2) (hr.mono (by omega)) (by rfl) hm_l_error FD_l_error.kp (FD_l_error.bindsN fun _ _ _ _ _ _ us hl => match us, hl with | [_], _ => rfl) (db_cons (de_var 10) db_nil) (cnt_cons cnt_nil)) (L2.PE.weak de_int))) (fun _ _ _ _ _ => (de_var 10)))) (L2.PE.weak (de_lst db_nil few_nil)))
  (dss_one (ds_ret de_bl))
  dss_nil)
theorem ok_law13 (FD : FnP K "law" st_law f fd) (hm : mg "law" = some (.ref f)) {f_l_error : Addr} {fd_l_error : FuncData} (FD_l_error : FnP K "_law_error" st_l_error f_l_error fd_l_error) (hm_l_error : mg "_law_error" = some (.ref f_l_error)) (d_l_pick : ∀ T : TbT, T.tb = Tb.tb → T.lt = Tb.lt → DefOk P w K mg base T "_law_pick" 2 s_l_pick 2) (d_can_right : ∀ T : TbT, T.tb = Tb.tb → T.lt = Tb.lt → DefX P w K mg base T "can_right" 2 s_can_right 7) (d_can_tell : ∀ T : TbT, T.tb = Tb.tb → T.lt = Tb.lt → DefX P w K mg base T "can_tell" 2 s_can_tell 7) (d_contents_told : ∀ T : TbT, T.tb = Tb.tb → T.lt = Tb.lt → DefX P w K mg base T "contents_told" 3 s_contents_told 6) (d_failing_rings : ∀ T : TbT, T.tb = Tb.tb → T.lt = Tb.lt → DefX P w K mg base T "failing_rings" 3 s_failing_rings 6) (d_fewest_wrong : ∀ T : TbT, T.tb = Tb.tb → T.lt = Tb.lt → DefX P w K mg base T "fewest_wrong" 2 s_fewest_wrong 6) (d_flood_family : ∀ T : TbT, T.tb = Tb.tb → T.lt = Tb.lt → DefX P w K mg base T "flood_family" 3 s_flood_family 7) (d_flood_kept : ∀ T : TbT, T.tb = Tb.tb → T.lt = Tb.lt → DefX P w K mg base T "flood_kept" 3 s_flood_kept 7) (d_flood_lost_within : ∀ T : TbT, T.tb = Tb.tb → T.lt = Tb.lt → DefX P w K mg base T "flood_lost_within" 3 s_flood_lost_within 7) (d_flood_schemes : ∀ T : TbT, T.tb = Tb.tb → T.lt = Tb.lt → DefX P w K mg base T "flood_schemes" 4 s_flood_schemes 4) (d_is_flood_scheme : ∀ T : TbT, T.tb = Tb.tb → T.lt = Tb.lt → DefX P w K mg base T "is_flood_scheme" 3 s_is_flood_scheme 7) (d_late_kept : ∀ T : TbT, T.tb = Tb.tb → T.lt = Tb.lt → DefX P w K mg base T "late_kept" 3 s_late_kept 7) (d_late_lost_within : ∀ T : TbT, T.tb = Tb.tb → T.lt = Tb.lt → DefX P w K mg base T "late_lost_within" 3 s_late_lost_within 7) (d_mixed_kinds : ∀ T : TbT, T.tb = Tb.tb → T.lt = Tb.lt → DefX P w K mg base T "mixed_kinds" 3 s_mixed_kinds 4) (d_named_kinds : ∀ T : TbT, T.tb = Tb.tb → T.lt = Tb.lt → DefX P w K mg base T "named_kinds" 3 s_named_kinds 4) (d_scheme_number : ∀ T : TbT, T.tb = Tb.tb → T.lt = Tb.lt → DefX P w K mg base T "scheme_number" 2 s_scheme_number 6) (d_scheme_told : ∀ T : TbT, T.tb = Tb.tb → T.lt = Tb.lt → DefX P w K mg base T "scheme_told" 4 s_scheme_told 7) (d_shown : ∀ T : TbT, T.tb = Tb.tb → T.lt = Tb.lt → DefX P w K mg base T "shown" 2 s_shown 6) (b_ValueError : mg "ValueError" = none) (b_isinstance : mg "isinstance" = none) (EF : ExF K [0, 1, 2, 3, 4, 5, 6, 7]) {c0 T0 : Addr} (hcd : fd.code = .ref c0) (TBl : LamX.TabB base mg c0 T0) (hT0 : (T0, ("law.<locals>.<lambda>" : Str)) ∈ Tb.lt) (hT1 : ∀ p ∈ Tb.lt, p.1 = T0 → p.2 = ("law.<locals>.<lambda>" : Str)) (hme : Tb.me = none) (her : Tb.er = none) (hkp : Tb.keep = []) (m_BadDays : mg "BadDays" = some (.ref (He.ga K "BadDays"))) (m_BadLibrary : mg "BadLibrary" = some (.ref (He.ga K "BadLibrary"))) (m_BadMost : mg "BadMost" = some (.ref (He.ga K "BadMost"))) (m_BadNumber : mg "BadNumber" = some (.ref (He.ga K "BadNumber"))) (m_BadShown : mg "BadShown" = some (.ref (He.ga K "BadShown"))) (m_BadString : mg "BadString" = some (.ref (He.ga K "BadString"))) (m_BadTablet : mg "BadTablet" = some (.ref (He.ga K "BadTablet"))) (m_LibraryError : mg "LibraryError" = some (.ref (He.ga K "LibraryError"))) (m_NoScheme : mg "NoScheme" = some (.ref (He.ga K "NoScheme"))) (c : Addr) (A : Around) (outer : List PySem.Env) (s : Shared) (H : Hp) (E : XK) (T : TbT) (hc : fd.code = .ref c) (hr : Room 9 (A.deeper (envOfC "law" (defScope st_law) s.heap.objs.size f (.ref c)))) (e1 : T.tb = Tb.tb) (e2 : T.lt = Tb.lt) (e5 : T.cl = Tb.cl) (e4 : T.er = none) (e3 : T.me = some ⟨(cxOf CX0 P w K mg base ["_law_script", "_law_row", "_law_number", "_law_good", "_law_melts", "_law_late", "_law_wrong", "_law_works", "_law_bits", "_law_found", "_law_work"] "law" (defScope st_law) f (.ref c) A outer s H E).nox.env.cells, (cxOf CX0 P w K mg base ["_law_script", "_law_row", "_law_number", "_law_good", "_law_melts", "_law_late", "_law_wrong", "_law_works", "_law_bits", "_law_found", "_law_work"] "law" (defScope st_law) f (.ref c) A outer s H E).nox.env.qual ++ "<lambda>", lams (defBody st_law)⟩) (C : Ctx (mkF P w K T) (cxOf CX0 P w K mg base ["_law_script", "_law_row", "_law_number", "_law_good", "_law_melts", "_law_late", "_law_wrong", "_law_works", "_law_bits", "_law_found", "_law_work"] "law" (defScope st_law) f (.ref c) A outer s H E).nox) :
  PS (cxOf CX0 P w K mg base ["_law_script", "_law_row", "_law_number", "_law_good", "_law_melts", "_law_late", "_law_wrong", "_law_works", "_law_bits", "_law_found", "_law_work"] "law" (defScope st_law) f (.ref c) A outer s H E).nox ((defBody st_law).getD 13 (.Pass ⟨0, 0, 0, 0⟩)) (tS (mkF P w K T) b_law13) := by
  have ec := hc.symm.trans hcd
  obtain rfl : c = c0 := by cases ec; rfl
  have mk : Maker (mkF P w K T) (cxOf CX0 P w K mg base ["_law_script", "_law_row", "_law_number", "_law_good", "_law_melts", "_law_late", "_law_wrong", "_law_works", "_law_bits", "_law_found", "_law_work"] "law" (defScope st_law) f (.ref c) A outer s H E).nox ⟨(cxOf CX0 P w K mg base ["_law_script", "_law_row", "_law_number", "_law_good", "_law_melts", "_law_late", "_law_wrong", "_law_works", "_law_bits", "_law_found", "_law_work"] "law" (defScope st_law) f (.ref c) A outer s H E).nox.env.cells, (cxOf CX0 P w K mg base ["_law_script", "_law_row", "_law_number", "_law_good", "_law_melts", "_law_late", "_law_wrong", "_law_works", "_law_bits", "_law_found", "_law_work"] "law" (defScope st_law) f (.ref c) A outer s H E).nox.env.qual ++ "<lambda>", lams (defBody st_law)⟩ c T0 := ⟨e3, rfl, rfl, TBl, rfl, by show _ ∈ T.lt; rw [e2]; exact hT0, fun p hp e => hT1 p (by rw [← e2]; exact hp) e⟩
  have lo : ∀ T2 : TbT, T2.tb = Tb.tb → T2.lt = Tb.lt → T2.me = some ⟨(cxOf CX0 P w K mg base ["_law_script", "_law_row", "_law_number", "_law_good", "_law_melts", "_law_late", "_law_wrong", "_law_works", "_law_bits", "_law_found", "_law_work"] "law" (defScope st_law) f (.ref c) A outer s H E).nox.env.cells, (cxOf CX0 P w K mg base ["_law_script", "_law_row", "_law_number", "_law_good", "_law_melts", "_law_late", "_law_wrong", "_law_works", "_law_bits", "_law_found", "_law_work"] "law" (defScope st_law) f (.ref c) A outer s H E).nox.env.qual ++ "<lambda>", lams (defBody st_law)⟩ → T2.er = none → LamsOk (mkF P w K T2) (cxOf CX0 P w K mg base ["_law_script", "_law_row", "_law_number", "_law_good", "_law_melts", "_law_late", "_law_wrong", "_law_works", "_law_bits", "_law_found", "_law_work"] "law" (defScope st_law) f (.ref c) A outer s H E).nox ⟨(cxOf CX0 P w K mg base ["_law_script", "_law_row", "_law_number", "_law_good", "_law_melts", "_law_late", "_law_wrong", "_law_works", "_law_bits", "_law_found", "_law_work"] "law" (defScope st_law) f (.ref c) A outer s H E).nox.env.cells, (cxOf CX0 P w K mg base ["_law_script", "_law_row", "_law_number", "_law_good", "_law_melts", "_law_late", "_law_wrong", "_law_works", "_law_bits", "_law_found", "_law_work"] "law" (defScope st_law) f (.ref c) A outer s H E).nox.env.qual ++ "<lambda>", lams (defBody st_law)⟩ 7 lam_law := fun T2 q1 q2 q3 _ => lo_law d_l_pick d_can_right d_can_tell d_contents_told d_failing_rings d_fewest_wrong d_flood_family d_flood_kept d_flood_lost_within d_flood_schemes d_is_flood_scheme d_late_kept d_late_lost_within d_mixed_kinds d_named_kinds d_scheme_number d_scheme_told d_shown c A outer s H E T2 q1 q2 q3
  have d_l_pick := d_l_pick T e1 e2; have d_can_right := d_can_right T e1 e2; have d_can_tell := d_can_tell T e1 e2; have d_contents_told := d_contents_told T e1 e2; have d_failing_rings := d_failing_rings T e1 e2; have d_fewest_wrong := d_fewest_wrong T e1 e2; have d_flood_family := d_flood_family T e1 e2; have d_flood_kept := d_flood_kept T e1 e2; have d_flood_lost_within := d_flood_lost_within T e1 e2; have d_flood_schemes := d_flood_schemes T e1 e2; have d_is_flood_scheme := d_is_flood_scheme T e1 e2; have d_late_kept := d_late_kept T e1 e2; have d_late_lost_within := d_late_lost_within T e1 e2; have d_mixed_kinds := d_mixed_kinds T e1 e2; have d_named_kinds := d_named_kinds T e1 e2; have d_scheme_number := d_scheme_number T e1 e2; have d_scheme_told := d_scheme_told T e1 e2; have d_shown := d_shown T e1 e2
  exact (ds_asg (ve_call d_l_pick hr (ha := (db_cons (de_var 1) (db_cons (de_lst (db_cons de_non (db_cons (de_tup db_nil few_nil) (db_cons (de_tup (db_cons de_int db_nil) (few_cons few_nil)) (db_cons (de_tup (db_cons de_int (db_cons de_int (db_cons de_int db_nil))) (few_cons (few_cons (few_cons few_nil)))) (db_cons (de_tup (db_cons de_int (db_cons de_bl (db_cons de_int db_nil))) (few_cons (few_cons (few_cons few_nil)))) (db_cons (de_lst (db_cons de_int (db_cons de_int (db_cons de_int db_nil))) (few_cons (few_cons (few_cons few_nil)))) (db_cons (ve_rep (L2.PE.weak (de_tup (db_cons de_int db_nil) (few_cons few_nil))) (L2.PE.weak de_int)) db_nil))))))) (few_cons (few_cons (few_cons (few_cons (few_cons (few_cons (few_cons few_nil)))))))) db_nil))) (hn := (cnt_cons (cnt_cons cnt_nil)))) (dg_nm 8 sc_law.nd))
theorem ok_law14 (FD : FnP K "law" st_law f fd) (hm : mg "law" = some (.ref f)) {f_l_error : Addr} {fd_l_error : FuncData} (FD_l_error : FnP K "_law_error" st_l_error f_l_error fd_l_error) (hm_l_error : mg "_law_error" = some (.ref f_l_error)) (d_l_pick : ∀ T : TbT, T.tb = Tb.tb → T.lt = Tb.lt → DefOk P w K mg base T "_law_pick" 2 s_l_pick 2) (d_can_right : ∀ T : TbT, T.tb = Tb.tb → T.lt = Tb.lt → DefX P w K mg base T "can_right" 2 s_can_right 7) (d_can_tell : ∀ T : TbT, T.tb = Tb.tb → T.lt = Tb.lt → DefX P w K mg base T "can_tell" 2 s_can_tell 7) (d_contents_told : ∀ T : TbT, T.tb = Tb.tb → T.lt = Tb.lt → DefX P w K mg base T "contents_told" 3 s_contents_told 6) (d_failing_rings : ∀ T : TbT, T.tb = Tb.tb → T.lt = Tb.lt → DefX P w K mg base T "failing_rings" 3 s_failing_rings 6) (d_fewest_wrong : ∀ T : TbT, T.tb = Tb.tb → T.lt = Tb.lt → DefX P w K mg base T "fewest_wrong" 2 s_fewest_wrong 6) (d_flood_family : ∀ T : TbT, T.tb = Tb.tb → T.lt = Tb.lt → DefX P w K mg base T "flood_family" 3 s_flood_family 7) (d_flood_kept : ∀ T : TbT, T.tb = Tb.tb → T.lt = Tb.lt → DefX P w K mg base T "flood_kept" 3 s_flood_kept 7) (d_flood_lost_within : ∀ T : TbT, T.tb = Tb.tb → T.lt = Tb.lt → DefX P w K mg base T "flood_lost_within" 3 s_flood_lost_within 7) (d_flood_schemes : ∀ T : TbT, T.tb = Tb.tb → T.lt = Tb.lt → DefX P w K mg base T "flood_schemes" 4 s_flood_schemes 4) (d_is_flood_scheme : ∀ T : TbT, T.tb = Tb.tb → T.lt = Tb.lt → DefX P w K mg base T "is_flood_scheme" 3 s_is_flood_scheme 7) (d_late_kept : ∀ T : TbT, T.tb = Tb.tb → T.lt = Tb.lt → DefX P w K mg base T "late_kept" 3 s_late_kept 7) (d_late_lost_within : ∀ T : TbT, T.tb = Tb.tb → T.lt = Tb.lt → DefX P w K mg base T "late_lost_within" 3 s_late_lost_within 7) (d_mixed_kinds : ∀ T : TbT, T.tb = Tb.tb → T.lt = Tb.lt → DefX P w K mg base T "mixed_kinds" 3 s_mixed_kinds 4) (d_named_kinds : ∀ T : TbT, T.tb = Tb.tb → T.lt = Tb.lt → DefX P w K mg base T "named_kinds" 3 s_named_kinds 4) (d_scheme_number : ∀ T : TbT, T.tb = Tb.tb → T.lt = Tb.lt → DefX P w K mg base T "scheme_number" 2 s_scheme_number 6) (d_scheme_told : ∀ T : TbT, T.tb = Tb.tb → T.lt = Tb.lt → DefX P w K mg base T "scheme_told" 4 s_scheme_told 7) (d_shown : ∀ T : TbT, T.tb = Tb.tb → T.lt = Tb.lt → DefX P w K mg base T "shown" 2 s_shown 6) (b_ValueError : mg "ValueError" = none) (b_isinstance : mg "isinstance" = none) (EF : ExF K [0, 1, 2, 3, 4, 5, 6, 7]) {c0 T0 : Addr} (hcd : fd.code = .ref c0) (TBl : LamX.TabB base mg c0 T0) (hT0 : (T0, ("law.<locals>.<lambda>" : Str)) ∈ Tb.lt) (hT1 : ∀ p ∈ Tb.lt, p.1 = T0 → p.2 = ("law.<locals>.<lambda>" : Str)) (hme : Tb.me = none) (her : Tb.er = none) (hkp : Tb.keep = []) (m_BadDays : mg "BadDays" = some (.ref (He.ga K "BadDays"))) (m_BadLibrary : mg "BadLibrary" = some (.ref (He.ga K "BadLibrary"))) (m_BadMost : mg "BadMost" = some (.ref (He.ga K "BadMost"))) (m_BadNumber : mg "BadNumber" = some (.ref (He.ga K "BadNumber"))) (m_BadShown : mg "BadShown" = some (.ref (He.ga K "BadShown"))) (m_BadString : mg "BadString" = some (.ref (He.ga K "BadString"))) (m_BadTablet : mg "BadTablet" = some (.ref (He.ga K "BadTablet"))) (m_LibraryError : mg "LibraryError" = some (.ref (He.ga K "LibraryError"))) (m_NoScheme : mg "NoScheme" = some (.ref (He.ga K "NoScheme"))) (c : Addr) (A : Around) (outer : List PySem.Env) (s : Shared) (H : Hp) (E : XK) (T : TbT) (hc : fd.code = .ref c) (hr : Room 9 (A.deeper (envOfC "law" (defScope st_law) s.heap.objs.size f (.ref c)))) (e1 : T.tb = Tb.tb) (e2 : T.lt = Tb.lt) (e5 : T.cl = Tb.cl) (e4 : T.er = none) (e3 : T.me = some ⟨(cxOf CX0 P w K mg base ["_law_script", "_law_row", "_law_number", "_law_good", "_law_melts", "_law_late", "_law_wrong", "_law_works", "_law_bits", "_law_found", "_law_work"] "law" (defScope st_law) f (.ref c) A outer s H E).nox.env.cells, (cxOf CX0 P w K mg base ["_law_script", "_law_row", "_law_number", "_law_good", "_law_melts", "_law_late", "_law_wrong", "_law_works", "_law_bits", "_law_found", "_law_work"] "law" (defScope st_law) f (.ref c) A outer s H E).nox.env.qual ++ "<lambda>", lams (defBody st_law)⟩) (C : Ctx (mkF P w K T) (cxOf CX0 P w K mg base ["_law_script", "_law_row", "_law_number", "_law_good", "_law_melts", "_law_late", "_law_wrong", "_law_works", "_law_bits", "_law_found", "_law_work"] "law" (defScope st_law) f (.ref c) A outer s H E).nox) :
  PS (cxOf CX0 P w K mg base ["_law_script", "_law_row", "_law_number", "_law_good", "_law_melts", "_law_late", "_law_wrong", "_law_works", "_law_bits", "_law_found", "_law_work"] "law" (defScope st_law) f (.ref c) A outer s H E).nox ((defBody st_law).getD 14 (.Pass ⟨0, 0, 0, 0⟩)) (tS (mkF P w K T) b_law14) := by
  have ec := hc.symm.trans hcd
  obtain rfl : c = c0 := by cases ec; rfl
  have mk : Maker (mkF P w K T) (cxOf CX0 P w K mg base ["_law_script", "_law_row", "_law_number", "_law_good", "_law_melts", "_law_late", "_law_wrong", "_law_works", "_law_bits", "_law_found", "_law_work"] "law" (defScope st_law) f (.ref c) A outer s H E).nox ⟨(cxOf CX0 P w K mg base ["_law_script", "_law_row", "_law_number", "_law_good", "_law_melts", "_law_late", "_law_wrong", "_law_works", "_law_bits", "_law_found", "_law_work"] "law" (defScope st_law) f (.ref c) A outer s H E).nox.env.cells, (cxOf CX0 P w K mg base ["_law_script", "_law_row", "_law_number", "_law_good", "_law_melts", "_law_late", "_law_wrong", "_law_works", "_law_bits", "_law_found", "_law_work"] "law" (defScope st_law) f (.ref c) A outer s H E).nox.env.qual ++ "<lambda>", lams (defBody st_law)⟩ c T0 := ⟨e3, rfl, rfl, TBl, rfl, by show _ ∈ T.lt; rw [e2]; exact hT0, fun p hp e => hT1 p (by rw [← e2]; exact hp) e⟩
  have lo : ∀ T2 : TbT, T2.tb = Tb.tb → T2.lt = Tb.lt → T2.me = some ⟨(cxOf CX0 P w K mg base ["_law_script", "_law_row", "_law_number", "_law_good", "_law_melts", "_law_late", "_law_wrong", "_law_works", "_law_bits", "_law_found", "_law_work"] "law" (defScope st_law) f (.ref c) A outer s H E).nox.env.cells, (cxOf CX0 P w K mg base ["_law_script", "_law_row", "_law_number", "_law_good", "_law_melts", "_law_late", "_law_wrong", "_law_works", "_law_bits", "_law_found", "_law_work"] "law" (defScope st_law) f (.ref c) A outer s H E).nox.env.qual ++ "<lambda>", lams (defBody st_law)⟩ → T2.er = none → LamsOk (mkF P w K T2) (cxOf CX0 P w K mg base ["_law_script", "_law_row", "_law_number", "_law_good", "_law_melts", "_law_late", "_law_wrong", "_law_works", "_law_bits", "_law_found", "_law_work"] "law" (defScope st_law) f (.ref c) A outer s H E).nox ⟨(cxOf CX0 P w K mg base ["_law_script", "_law_row", "_law_number", "_law_good", "_law_melts", "_law_late", "_law_wrong", "_law_works", "_law_bits", "_law_found", "_law_work"] "law" (defScope st_law) f (.ref c) A outer s H E).nox.env.cells, (cxOf CX0 P w K mg base ["_law_script", "_law_row", "_law_number", "_law_good", "_law_melts", "_law_late", "_law_wrong", "_law_works", "_law_bits", "_law_found", "_law_work"] "law" (defScope st_law) f (.ref c) A outer s H E).nox.env.qual ++ "<lambda>", lams (defBody st_law)⟩ 7 lam_law := fun T2 q1 q2 q3 _ => lo_law d_l_pick d_can_right d_can_tell d_contents_told d_failing_rings d_fewest_wrong d_flood_family d_flood_kept d_flood_lost_within d_flood_schemes d_is_flood_scheme d_late_kept d_late_lost_within d_mixed_kinds d_named_kinds d_scheme_number d_scheme_told d_shown c A outer s H E T2 q1 q2 q3
  have d_l_pick := d_l_pick T e1 e2; have d_can_right := d_can_right T e1 e2; have d_can_tell := d_can_tell T e1 e2; have d_contents_told := d_contents_told T e1 e2; have d_failing_rings := d_failing_rings T e1 e2; have d_fewest_wrong := d_fewest_wrong T e1 e2; have d_flood_family := d_flood_family T e1 e2; have d_flood_kept := d_flood_kept T e1 e2; have d_flood_lost_within := d_flood_lost_within T e1 e2; have d_flood_schemes := d_flood_schemes T e1 e2; have d_is_flood_scheme := d_is_flood_scheme T e1 e2; have d_late_kept := d_late_kept T e1 e2; have d_late_lost_within := d_late_lost_within T e1 e2; have d_mixed_kinds := d_mixed_kinds T e1 e2; have d_named_kinds := d_named_kinds T e1 e2; have d_scheme_number := d_scheme_number T e1 e2; have d_scheme_told := d_scheme_told T e1 e2; have d_shown := d_shown T e1 e2
  exact (ds_asg (de_lst (db_cons (de_noask (de_callK (X := (cxOf CX0 P w K mg base ["_law_script", "_law_row", "_law_number", "_law_good", "_law_melts", "_law_late", "_law_wrong", "_law_works", "_law_bits", "_law_found", "_law_work"] "law" (defScope st_law) f (.ref c) A outer s H E).nox) (M := ⟨(cxOf CX0 P w K mg base ["_law_script", "_law_row", "_law_number", "_law_good", "_law_melts", "_law_late", "_law_wrong", "_law_works", "_law_bits", "_law_found", "_law_work"] "law" (defScope st_law) f (.ref c) A outer s H E).nox.env.cells, (cxOf CX0 P w K mg base ["_law_script", "_law_row", "_law_number", "_law_good", "_law_melts", "_law_late", "_law_wrong", "_law_works", "_law_bits", "_law_found", "_law_work"] "law" (defScope st_law) f (.ref c) A outer s H E).nox.env.qual ++ "<lambda>", lams (defBody st_law)⟩) (lams := lam_law) (cap := [1, 2, 3, 4, 5, 6, 8]) (b := b_l_error) (n := 4) (N := ["_law_work", "_law_found", "_law_known", "error"]) (k := 8) kn_self ⟨rfl, rfl, rfl, rfl, rfl⟩ e4 FD_l_error sc_l_error (fun T2 σ0 r0 c2 A2 outer2 s2 H2 hc2 q1 q2 q3 q4 q5 hk hr2 C2 kc2 => w_l_error FD_l_error EF m_BadDays m_BadLibrary m_BadMost m_BadNumber m_BadShown m_BadString m_BadTablet m_LibraryError m_NoScheme b_ValueError b_isinstance T2 q4 (lo T2 (q1.trans e1) (q2.trans e2) (q3.trans e3) q4) σ0 r0 hk c2 A2 outer2 s2 H2 hc2 hr2 C2 kc2) (hr.mono (by omega)) (by rfl) hm_l_error FD_l_error.kp (FD_l_error.bindsN fun _ _ _ _ _ _ us hl => match us, hl with | [_], _ => rfl) (db_cons (de_lam0 mk 15 (by kernel_rfl) rfl rfl fun O y hy he => LW15.has O y hy he) db_nil) (cnt_cons cnt_nil))) (db_cons (de_noask (de_callK (X := (cxOf CX0 P w K mg base ["_law_script", "_law_row", "_law_number", "_law_good", "_law_melts", "_law_late", "_law_wrong", "_law_works", "_law_bits", "_law_found", "_law_work"] "law" (defScope st_law) f (.ref c) A outer s H E).nox) (M := ⟨(cxOf CX0 P w K mg base ["_law_script", "_law_row", "_law_number", "_law_good", "_law_melts", "_law_late", "_law_wrong", "_law_works", "_law_bits", "_law_found", "_law_work"] "law" (defScope st_law) f (.ref c) A outer s H E).nox.env.cells, (cxOf CX0 P w K mg base ["_law_script", "_law_row", "_law_number", "_law_good", "_law_melts", "_law_late", "_law_wrong", "_law_works", "_law_bits", "_law_found", "_law_work"] "law" (defScope st_law) f (.ref c) A outer s H E).nox.env.qual ++ "<lambda>", lams (defBody st_law)⟩) (lams := lam_law) (cap := [1, 2, 3, 4, 5, 6, 8]) (b := b_l_error) (n := 4) (N := ["_law_work", "_law_found", "_law_known", "error"]) (k := 8) kn_self ⟨rfl, rfl, rfl, rfl, rfl⟩ e4 FD_l_error sc_l_error (fun T2 σ0 r0 c2 A2 outer2 s2 H2 hc2 q1 q2 q3 q4 q5 hk hr2 C2 kc2 => w_l_error FD_l_error EF m_BadDays m_BadLibrary m_BadMost m_BadNumber m_BadShown m_BadString m_BadTablet m_LibraryError m_NoScheme b_ValueError b_isinstance T2 q4 (lo T2 (q1.trans e1) (q2.trans e2) (q3.trans e3) q4) σ0 r0 hk c2 A2 outer2 s2 H2 hc2 hr2 C2 kc2) (hr.mono (by omega)) (by rfl) hm_l_error FD_l_error.kp (FD_l_error.bindsN fun _ _ _ _ _ _ us hl => match us, hl with | [_], _ => rfl) (db_cons (de_lam1 mk 16 (by kernel_rfl) rfl rfl pe_int fun O y hy he => LW16.has O y hy he) db_nil) (cnt_cons cnt_nil))) db_nil)) (few_cons (few_cons few_nil))) (dg_nm 9 sc_law.nd))
theorem ok_law15 (FD : FnP K "law" st_law f fd) (hm : mg "law" = some (.ref f)) {f_l_error : Addr} {fd_l_error : FuncData} (FD_l_error : FnP K "_law_error" st_l_error f_l_error fd_l_error) (hm_l_error : mg "_law_error" = some (.ref f_l_error)) (d_l_pick : ∀ T : TbT, T.tb = Tb.tb → T.lt = Tb.lt → DefOk P w K mg base T "_law_pick" 2 s_l_pick 2) (d_can_right : ∀ T : TbT, T.tb = Tb.tb → T.lt = Tb.lt → DefX P w K mg base T "can_right" 2 s_can_right 7) (d_can_tell : ∀ T : TbT, T.tb = Tb.tb → T.lt = Tb.lt → DefX P w K mg base T "can_tell" 2 s_can_tell 7) (d_contents_told : ∀ T : TbT, T.tb = Tb.tb → T.lt = Tb.lt → DefX P w K mg base T "contents_told" 3 s_contents_told 6) (d_failing_rings : ∀ T : TbT, T.tb = Tb.tb → T.lt = Tb.lt → DefX P w K mg base T "failing_rings" 3 s_failing_rings 6) (d_fewest_wrong : ∀ T : TbT, T.tb = Tb.tb → T.lt = Tb.lt → DefX P w K mg base T "fewest_wrong" 2 s_fewest_wrong 6) (d_flood_family : ∀ T : TbT, T.tb = Tb.tb → T.lt = Tb.lt → DefX P w K mg base T "flood_family" 3 s_flood_family 7) (d_flood_kept : ∀ T : TbT, T.tb = Tb.tb → T.lt = Tb.lt → DefX P w K mg base T "flood_kept" 3 s_flood_kept 7) (d_flood_lost_within : ∀ T : TbT, T.tb = Tb.tb → T.lt = Tb.lt → DefX P w K mg base T "flood_lost_within" 3 s_flood_lost_within 7) (d_flood_schemes : ∀ T : TbT, T.tb = Tb.tb → T.lt = Tb.lt → DefX P w K mg base T "flood_schemes" 4 s_flood_schemes 4) (d_is_flood_scheme : ∀ T : TbT, T.tb = Tb.tb → T.lt = Tb.lt → DefX P w K mg base T "is_flood_scheme" 3 s_is_flood_scheme 7) (d_late_kept : ∀ T : TbT, T.tb = Tb.tb → T.lt = Tb.lt → DefX P w K mg base T "late_kept" 3 s_late_kept 7) (d_late_lost_within : ∀ T : TbT, T.tb = Tb.tb → T.lt = Tb.lt → DefX P w K mg base T "late_lost_within" 3 s_late_lost_within 7) (d_mixed_kinds : ∀ T : TbT, T.tb = Tb.tb → T.lt = Tb.lt → DefX P w K mg base T "mixed_kinds" 3 s_mixed_kinds 4) (d_named_kinds : ∀ T : TbT, T.tb = Tb.tb → T.lt = Tb.lt → DefX P w K mg base T "named_kinds" 3 s_named_kinds 4) (d_scheme_number : ∀ T : TbT, T.tb = Tb.tb → T.lt = Tb.lt → DefX P w K mg base T "scheme_number" 2 s_scheme_number 6) (d_scheme_told : ∀ T : TbT, T.tb = Tb.tb → T.lt = Tb.lt → DefX P w K mg base T "scheme_told" 4 s_scheme_told 7) (d_shown : ∀ T : TbT, T.tb = Tb.tb → T.lt = Tb.lt → DefX P w K mg base T "shown" 2 s_shown 6) (b_ValueError : mg "ValueError" = none) (b_isinstance : mg "isinstance" = none) (EF : ExF K [0, 1, 2, 3, 4, 5, 6, 7]) {c0 T0 : Addr} (hcd : fd.code = .ref c0) (TBl : LamX.TabB base mg c0 T0) (hT0 : (T0, ("law.<locals>.<lambda>" : Str)) ∈ Tb.lt) (hT1 : ∀ p ∈ Tb.lt, p.1 = T0 → p.2 = ("law.<locals>.<lambda>" : Str)) (hme : Tb.me = none) (her : Tb.er = none) (hkp : Tb.keep = []) (m_BadDays : mg "BadDays" = some (.ref (He.ga K "BadDays"))) (m_BadLibrary : mg "BadLibrary" = some (.ref (He.ga K "BadLibrary"))) (m_BadMost : mg "BadMost" = some (.ref (He.ga K "BadMost"))) (m_BadNumber : mg "BadNumber" = some (.ref (He.ga K "BadNumber"))) (m_BadShown : mg "BadShown" = some (.ref (He.ga K "BadShown"))) (m_BadString : mg "BadString" = some (.ref (He.ga K "BadString"))) (m_BadTablet : mg "BadTablet" = some (.ref (He.ga K "BadTablet"))) (m_LibraryError : mg "LibraryError" = some (.ref (He.ga K "LibraryError"))) (m_NoScheme : mg "NoScheme" = some (.ref (He.ga K "NoScheme"))) (c : Addr) (A : Around) (outer : List PySem.Env) (s : Shared) (H : Hp) (E : XK) (T : TbT) (hc : fd.code = .ref c) (hr : Room 9 (A.deeper (envOfC "law" (defScope st_law) s.heap.objs.size f (.ref c)))) (e1 : T.tb = Tb.tb) (e2 : T.lt = Tb.lt) (e5 : T.cl = Tb.cl) (e4 : T.er = none) (e3 : T.me = some ⟨(cxOf CX0 P w K mg base ["_law_script", "_law_row", "_law_number", "_law_good", "_law_melts", "_law_late", "_law_wrong", "_law_works", "_law_bits", "_law_found", "_law_work"] "law" (defScope st_law) f (.ref c) A outer s H E).nox.env.cells, (cxOf CX0 P w K mg base ["_law_script", "_law_row", "_law_number", "_law_good", "_law_melts", "_law_late", "_law_wrong", "_law_works", "_law_bits", "_law_found", "_law_work"] "law" (defScope st_law) f (.ref c) A outer s H E).nox.env.qual ++ "<lambda>", lams (defBody st_law)⟩) (C : Ctx (mkF P w K T) (cxOf CX0 P w K mg base ["_law_script", "_law_row", "_law_number", "_law_good", "_law_melts", "_law_late", "_law_wrong", "_law_works", "_law_bits", "_law_found", "_law_work"] "law" (defScope st_law) f (.ref c) A outer s H E).nox) :
  PS (cxOf CX0 P w K mg base ["_law_script", "_law_row", "_law_number", "_law_good", "_law_melts", "_law_late", "_law_wrong", "_law_works", "_law_bits", "_law_found", "_law_work"] "law" (defScope st_law) f (.ref c) A outer s H E).nox ((defBody st_law).getD 15 (.Pass ⟨0, 0, 0, 0⟩)) (tS (mkF P w K T) b_law15) := by
  have ec := hc.symm.trans hcd
  obtain rfl : c = c0 := by cases ec; rfl
  have mk : Maker (mkF P w K T) (cxOf CX0 P w K mg base ["_law_script", "_law_row", "_law_number", "_law_good", "_law_melts", "_law_late", "_law_wrong", "_law_works", "_law_bits", "_law_found", "_law_work"] "law" (defScope st_law) f (.ref c) A outer s H E).nox ⟨(cxOf CX0 P w K mg base ["_law_script", "_law_row", "_law_number", "_law_good", "_law_melts", "_law_late", "_law_wrong", "_law_works", "_law_bits", "_law_found", "_law_work"] "law" (defScope st_law) f (.ref c) A outer s H E).nox.env.cells, (cxOf CX0 P w K mg base ["_law_script", "_law_row", "_law_number", "_law_good", "_law_melts", "_law_late", "_law_wrong", "_law_works", "_law_bits", "_law_found", "_law_work"] "law" (defScope st_law) f (.ref c) A outer s H E).nox.env.qual ++ "<lambda>", lams (defBody st_law)⟩ c T0 := ⟨e3, rfl, rfl, TBl, rfl, by show _ ∈ T.lt; rw [e2]; exact hT0, fun p hp e => hT1 p (by rw [← e2]; exact hp) e⟩
  have lo : ∀ T2 : TbT, T2.tb = Tb.tb → T2.lt = Tb.lt → T2.me = some ⟨(cxOf CX0 P w K mg base ["_law_script", "_law_row", "_law_number", "_law_good", "_law_melts", "_law_late", "_law_wrong", "_law_works", "_law_bits", "_law_found", "_law_work"] "law" (defScope st_law) f (.ref c) A outer s H E).nox.env.cells, (cxOf CX0 P w K mg base ["_law_script", "_law_row", "_law_number", "_law_good", "_law_melts", "_law_late", "_law_wrong", "_law_works", "_law_bits", "_law_found", "_law_work"] "law" (defScope st_law) f (.ref c) A outer s H E).nox.env.qual ++ "<lambda>", lams (defBody st_law)⟩ → T2.er = none → LamsOk (mkF P w K T2) (cxOf CX0 P w K mg base ["_law_script", "_law_row", "_law_number", "_law_good", "_law_melts", "_law_late", "_law_wrong", "_law_works", "_law_bits", "_law_found", "_law_work"] "law" (defScope st_law) f (.ref c) A outer s H E).nox ⟨(cxOf CX0 P w K mg base ["_law_script", "_law_row", "_law_number", "_law_good", "_law_melts", "_law_late", "_law_wrong", "_law_works", "_law_bits", "_law_found", "_law_work"] "law" (defScope st_law) f (.ref c) A outer s H E).nox.env.cells, (cxOf CX0 P w K mg base ["_law_script", "_law_row", "_law_number", "_law_good", "_law_melts", "_law_late", "_law_wrong", "_law_works", "_law_bits", "_law_found", "_law_work"] "law" (defScope st_law) f (.ref c) A outer s H E).nox.env.qual ++ "<lambda>", lams (defBody st_law)⟩ 7 lam_law := fun T2 q1 q2 q3 _ => lo_law d_l_pick d_can_right d_can_tell d_contents_told d_failing_rings d_fewest_wrong d_flood_family d_flood_kept d_flood_lost_within d_flood_schemes d_is_flood_scheme d_late_kept d_late_lost_within d_mixed_kinds d_named_kinds d_scheme_number d_scheme_told d_shown c A outer s H E T2 q1 q2 q3
  have d_l_pick := d_l_pick T e1 e2; have d_can_right := d_can_right T e1 e2; have d_can_tell := d_can_tell T e1 e2; have d_contents_told := d_contents_told T e1 e2; have d_failing_rings := d_failing_rings T e1 e2; have d_fewest_wrong := d_fewest_wrong T e1 e2; have d_flood_family := d_flood_family T e1 e2; have d_flood_kept := d_flood_kept T e1 e2; have d_flood_lost_within := d_flood_lost_within T e1 e2; have d_flood_schemes := d_flood_schemes T e1 e2; have d_is_flood_scheme := d_is_flood_scheme T e1 e2; have d_late_kept := d_late_kept T e1 e2; have d_late_lost_within := d_late_lost_within T e1 e2; have d_mixed_kinds := d_mixed_kinds T e1 e2; have d_named_kinds := d_named_kinds T e1 e2; have d_scheme_number := d_scheme_number T e1 e2; have d_scheme_told := d_scheme_told T e1 e2; have d_shown := d_shown T e1 e2
  exact (ds_asg (ve_add (L2.PE.weak (de_var 9)) (L2.PE.weak (de_lst (db_cons (de_noask (de_callK (X := (cxOf CX0 P w K mg base ["_law_script", "_law_row", "_law_number", "_law_good", "_law_melts", "_law_late", "_law_wrong", "_law_works", "_law_bits", "_law_found", "_law_work"] "law" (defScope st_law) f (.ref c) A outer s H E).nox) (M := ⟨(cxOf CX0 P w K mg base ["_law_script", "_law_row", "_law_number", "_law_good", "_law_melts", "_law_late", "_law_wrong", "_law_works", "_law_bits", "_law_found", "_law_work"] "law" (defScope st_law) f (.ref c) A outer s H E).nox.env.cells, (cxOf CX0 P w K mg base ["_law_script", "_law_row", "_law_number", "_law_good", "_law_melts", "_law_late", "_law_wrong", "_law_works", "_law_bits", "_law_found", "_law_work"] "law" (defScope st_law) f (.ref c) A outer s H E).nox.env.qual ++ "<lambda>", lams (defBody st_law)⟩) (lams := lam_law) (cap := [1, 2, 3, 4, 5, 6, 8]) (b := b_l_error) (n := 4) (N := ["_law_work", "_law_found", "_law_known", "error"]) (k := 8) kn_self ⟨rfl, rfl, rfl, rfl, rfl⟩ e4 FD_l_error sc_l_error (fun T2 σ0 r0 c2 A2 outer2 s2 H2 hc2 q1 q2 q3 q4 q5 hk hr2 C2 kc2 => w_l_error FD_l_error EF m_BadDays m_BadLibrary m_BadMost m_BadNumber m_BadShown m_BadString m_BadTablet m_LibraryError m_NoScheme b_ValueError b_isinstance T2 q4 (lo T2 (q1.trans e1) (q2.trans e2) (q3.trans e3) q4) σ0 r0 hk c2 A2 outer2 s2 H2 hc2 hr2 C2 kc2) (hr.mono (by omega)) (by rfl) hm_l_error FD_l_error.kp (FD_l_error.bindsN fun _ _ _ _ _ _ us hl => match us, hl with | [_], _ => rfl) (db_cons (de_lam1 mk 17 (by kernel_rfl) rfl rfl pe_int fun O y hy he => LW17.has O y hy he) db_nil) (cnt_cons cnt_nil))) db_nil) (few_cons few_nil)))) (dg_nm 9 sc_law.nd))
theorem ok_law16 (FD : FnP K "law" st_law f fd) (hm : mg "law" = some (.ref f)) {f_l_error : Addr} {fd_l_error : FuncData} (FD_l_error : FnP K "_law_error" st_l_error f_l_error fd_l_error) (hm_l_error : mg "_law_error" = some (.ref f_l_error)) (d_l_pick : ∀ T : TbT, T.tb = Tb.tb → T.lt = Tb.lt → DefOk P w K mg base T "_law_pick" 2 s_l_pick 2) (d_can_right : ∀ T : TbT, T.tb = Tb.tb → T.lt = Tb.lt → DefX P w K mg base T "can_right" 2 s_can_right 7) (d_can_tell : ∀ T : TbT, T.tb = Tb.tb → T.lt = Tb.lt → DefX P w K mg base T "can_tell" 2 s_can_tell 7) (d_contents_told : ∀ T : TbT, T.tb = Tb.tb → T.lt = Tb.lt → DefX P w K mg base T "contents_told" 3 s_contents_told 6) (d_failing_rings : ∀ T : TbT, T.tb = Tb.tb → T.lt = Tb.lt → DefX P w K mg base T "failing_rings" 3 s_failing_rings 6) (d_fewest_wrong : ∀ T : TbT, T.tb = Tb.tb → T.lt = Tb.lt → DefX P w K mg base T "fewest_wrong" 2 s_fewest_wrong 6) (d_flood_family : ∀ T : TbT, T.tb = Tb.tb → T.lt = Tb.lt → DefX P w K mg base T "flood_family" 3 s_flood_family 7) (d_flood_kept : ∀ T : TbT, T.tb = Tb.tb → T.lt = Tb.lt → DefX P w K mg base T "flood_kept" 3 s_flood_kept 7) (d_flood_lost_within : ∀ T : TbT, T.tb = Tb.tb → T.lt = Tb.lt → DefX P w K mg base T "flood_lost_within" 3 s_flood_lost_within 7) (d_flood_schemes : ∀ T : TbT, T.tb = Tb.tb → T.lt = Tb.lt → DefX P w K mg base T "flood_schemes" 4 s_flood_schemes 4) (d_is_flood_scheme : ∀ T : TbT, T.tb = Tb.tb → T.lt = Tb.lt → DefX P w K mg base T "is_flood_scheme" 3 s_is_flood_scheme 7) (d_late_kept : ∀ T : TbT, T.tb = Tb.tb → T.lt = Tb.lt → DefX P w K mg base T "late_kept" 3 s_late_kept 7) (d_late_lost_within : ∀ T : TbT, T.tb = Tb.tb → T.lt = Tb.lt → DefX P w K mg base T "late_lost_within" 3 s_late_lost_within 7) (d_mixed_kinds : ∀ T : TbT, T.tb = Tb.tb → T.lt = Tb.lt → DefX P w K mg base T "mixed_kinds" 3 s_mixed_kinds 4) (d_named_kinds : ∀ T : TbT, T.tb = Tb.tb → T.lt = Tb.lt → DefX P w K mg base T "named_kinds" 3 s_named_kinds 4) (d_scheme_number : ∀ T : TbT, T.tb = Tb.tb → T.lt = Tb.lt → DefX P w K mg base T "scheme_number" 2 s_scheme_number 6) (d_scheme_told : ∀ T : TbT, T.tb = Tb.tb → T.lt = Tb.lt → DefX P w K mg base T "scheme_told" 4 s_scheme_told 7) (d_shown : ∀ T : TbT, T.tb = Tb.tb → T.lt = Tb.lt → DefX P w K mg base T "shown" 2 s_shown 6) (b_ValueError : mg "ValueError" = none) (b_isinstance : mg "isinstance" = none) (EF : ExF K [0, 1, 2, 3, 4, 5, 6, 7]) {c0 T0 : Addr} (hcd : fd.code = .ref c0) (TBl : LamX.TabB base mg c0 T0) (hT0 : (T0, ("law.<locals>.<lambda>" : Str)) ∈ Tb.lt) (hT1 : ∀ p ∈ Tb.lt, p.1 = T0 → p.2 = ("law.<locals>.<lambda>" : Str)) (hme : Tb.me = none) (her : Tb.er = none) (hkp : Tb.keep = []) (m_BadDays : mg "BadDays" = some (.ref (He.ga K "BadDays"))) (m_BadLibrary : mg "BadLibrary" = some (.ref (He.ga K "BadLibrary"))) (m_BadMost : mg "BadMost" = some (.ref (He.ga K "BadMost"))) (m_BadNumber : mg "BadNumber" = some (.ref (He.ga K "BadNumber"))) (m_BadShown : mg "BadShown" = some (.ref (He.ga K "BadShown"))) (m_BadString : mg "BadString" = some (.ref (He.ga K "BadString"))) (m_BadTablet : mg "BadTablet" = some (.ref (He.ga K "BadTablet"))) (m_LibraryError : mg "LibraryError" = some (.ref (He.ga K "LibraryError"))) (m_NoScheme : mg "NoScheme" = some (.ref (He.ga K "NoScheme"))) (c : Addr) (A : Around) (outer : List PySem.Env) (s : Shared) (H : Hp) (E : XK) (T : TbT) (hc : fd.code = .ref c) (hr : Room 9 (A.deeper (envOfC "law" (defScope st_law) s.heap.objs.size f (.ref c)))) (e1 : T.tb = Tb.tb) (e2 : T.lt = Tb.lt) (e5 : T.cl = Tb.cl) (e4 : T.er = none) (e3 : T.me = some ⟨(cxOf CX0 P w K mg base ["_law_script", "_law_row", "_law_number", "_law_good", "_law_melts", "_law_late", "_law_wrong", "_law_works", "_law_bits", "_law_found", "_law_work"] "law" (defScope st_law) f (.ref c) A outer s H E).nox.env.cells, (cxOf CX0 P w K mg base ["_law_script", "_law_row", "_law_number", "_law_good", "_law_melts", "_law_late", "_law_wrong", "_law_works", "_law_bits", "_law_found", "_law_work"] "law" (defScope st_law) f (.ref c) A outer s H E).nox.env.qual ++ "<lambda>", lams (defBody st_law)⟩) (C : Ctx (mkF P w K T) (cxOf CX0 P w K mg base ["_law_script", "_law_row", "_law_number", "_law_good", "_law_melts", "_law_late", "_law_wrong", "_law_works", "_law_bits", "_law_found", "_law_work"] "law" (defScope st_law) f (.ref c) A outer s H E).nox) :
  PS (cxOf CX0 P w K mg base ["_law_script", "_law_row", "_law_number", "_law_good", "_law_melts", "_law_late", "_law_wrong", "_law_works", "_law_bits", "_law_found", "_law_work"] "law" (defScope st_law) f (.ref c) A outer s H E).nox ((defBody st_law).getD 16 (.Pass ⟨0, 0, 0, 0⟩)) (tS (mkF P w K T) b_law16) := by
  have ec := hc.symm.trans hcd
  obtain rfl : c = c0 := by cases ec; rfl
  have mk : Maker (mkF P w K T) (cxOf CX0 P w K mg base ["_law_script", "_law_row", "_law_number", "_law_good", "_law_melts", "_law_late", "_law_wrong", "_law_works", "_law_bits", "_law_found", "_law_work"] "law" (defScope st_law) f (.ref c) A outer s H E).nox ⟨(cxOf CX0 P w K mg base ["_law_script", "_law_row", "_law_number", "_law_good", "_law_melts", "_law_late", "_law_wrong", "_law_works", "_law_bits", "_law_found", "_law_work"] "law" (defScope st_law) f (.ref c) A outer s H E).nox.env.cells, (cxOf CX0 P w K mg base ["_law_script", "_law_row", "_law_number", "_law_good", "_law_melts", "_law_late", "_law_wrong", "_law_works", "_law_bits", "_law_found", "_law_work"] "law" (defScope st_law) f (.ref c) A outer s H E).nox.env.qual ++ "<lambda>", lams (defBody st_law)⟩ c T0 := ⟨e3, rfl, rfl, TBl, rfl, by show _ ∈ T.lt; rw [e2]; exact hT0, fun p hp e => hT1 p (by rw [← e2]; exact hp) e⟩
  have lo : ∀ T2 : TbT, T2.tb = Tb.tb → T2.lt = Tb.lt → T2.me = some ⟨(cxOf CX0 P w K mg base ["_law_script", "_law_row", "_law_number", "_law_good", "_law_melts", "_law_late", "_law_wrong", "_law_works", "_law_bits", "_law_found", "_law_work"] "law" (defScope st_law) f (.ref c) A outer s H E).nox.env.cells, (cxOf CX0 P w K mg base ["_law_script", "_law_row", "_law_number", "_law_good", "_law_melts", "_law_late", "_law_wrong", "_law_works", "_law_bits", "_law_found", "_law_work"] "law" (defScope st_law) f (.ref c) A outer s H E).nox.env.qual ++ "<lambda>", lams (defBody st_law)⟩ → T2.er = none → LamsOk (mkF P w K T2) (cxOf CX0 P w K mg base ["_law_script", "_law_row", "_law_number", "_law_good", "_law_melts", "_law_late", "_law_wrong", "_law_works", "_law_bits", "_law_found", "_law_work"] "law" (defScope st_law) f (.ref c) A outer s H E).nox ⟨(cxOf CX0 P w K mg base ["_law_script", "_law_row", "_law_number", "_law_good", "_law_melts", "_law_late", "_law_wrong", "_law_works", "_law_bits", "_law_found", "_law_work"] "law" (defScope st_law) f (.ref c) A outer s H E).nox.env.cells, (cxOf CX0 P w K mg base ["_law_script", "_law_row", "_law_number", "_law_good", "_law_melts", "_law_late", "_law_wrong", "_law_works", "_law_bits", "_law_found", "_law_work"] "law" (defScope st_law) f (.ref c) A outer s H E).nox.env.qual ++ "<lambda>", lams (defBody st_law)⟩ 7 lam_law := fun T2 q1 q2 q3 _ => lo_law d_l_pick d_can_right d_can_tell d_contents_told d_failing_rings d_fewest_wrong d_flood_family d_flood_kept d_flood_lost_within d_flood_schemes d_is_flood_scheme d_late_kept d_late_lost_within d_mixed_kinds d_named_kinds d_scheme_number d_scheme_told d_shown c A outer s H E T2 q1 q2 q3
  have d_l_pick := d_l_pick T e1 e2; have d_can_right := d_can_right T e1 e2; have d_can_tell := d_can_tell T e1 e2; have d_contents_told := d_contents_told T e1 e2; have d_failing_rings := d_failing_rings T e1 e2; have d_fewest_wrong := d_fewest_wrong T e1 e2; have d_flood_family := d_flood_family T e1 e2; have d_flood_kept := d_flood_kept T e1 e2; have d_flood_lost_within := d_flood_lost_within T e1 e2; have d_flood_schemes := d_flood_schemes T e1 e2; have d_is_flood_scheme := d_is_flood_scheme T e1 e2; have d_late_kept := d_late_kept T e1 e2; have d_late_lost_within := d_late_lost_within T e1 e2; have d_mixed_kinds := d_mixed_kinds T e1 e2; have d_named_kinds := d_named_kinds T e1 e2; have d_scheme_number := d_scheme_number T e1 e2; have d_scheme_told := d_scheme_told T e1 e2; have d_shown := d_shown T e1 e2
  exact (ds_asg (ve_add (L2.PE.weak (de_var 9)) (L2.PE.weak (de_lst (db_cons (de_noask (de_callK (X := (cxOf CX0 P w K mg base ["_law_script", "_law_row", "_law_number", "_law_good", "_law_melts", "_law_late", "_law_wrong", "_law_works", "_law_bits", "_law_found", "_law_work"] "law" (defScope st_law) f (.ref c) A outer s H E).nox) (M := ⟨(cxOf CX0 P w K mg base ["_law_script", "_law_row", "_law_number", "_law_good", "_law_melts", "_law_late", "_law_wrong", "_law_works", "_law_bits", "_law_found", "_law_work"] "law" (defScope st_law) f (.ref c) A outer s H E).nox.env.cells, (cxOf CX0 P w K mg base ["_law_script", "_law_row", "_law_number", "_law_good", "_law_melts", "_law_late", "_law_wrong", "_law_works", "_law_bits", "_law_found", "_law_work"] "law" (defScope st_law) f (.ref c) A outer s H E).nox.env.qual ++ "<lambda>", lams (defBody st_law)⟩) (lams := lam_law) (cap := [1, 2, 3, 4, 5, 6, 8]) (b := b_l_error) (n := 4) (N := ["_law_work", "_law_found", "_law_known", "error"]) (k := 8) kn_self ⟨rfl, rfl, rfl, rfl, rfl⟩ e4 FD_l_error sc_l_error (fun T2 σ0 r0 c2 A2 outer2 s2 H2 hc2 q1 q2 q3 q4 q5 hk hr2 C2 kc2 => w_l_error FD_l_error EF m_BadDays m_BadLibrary m_BadMost m_BadNumber m_BadShown m_BadString m_BadTablet m_LibraryError m_NoScheme b_ValueError b_isinstance T2 q4 (lo T2 (q1.trans e1) (q2.trans e2) (q3.trans e3) q4) σ0 r0 hk c2 A2 outer2 s2 H2 hc2 hr2 C2 kc2) (hr.mono (by omega)) (by rfl) hm_l_error FD_l_error.kp (FD_l_error.bindsN fun _ _ _ _ _ _ us hl => match us, hl with | [_], _ => rfl) (db_cons (de_lam1 mk 18 (by kernel_rfl) rfl rfl pe_int fun O y hy he => LW18.has O y hy he) db_nil) (cnt_cons cnt_nil))) db_nil) (few_cons few_nil)))) (dg_nm 9 sc_law.nd))
theorem ok_law17 (FD : FnP K "law" st_law f fd) (hm : mg "law" = some (.ref f)) {f_l_error : Addr} {fd_l_error : FuncData} (FD_l_error : FnP K "_law_error" st_l_error f_l_error fd_l_error) (hm_l_error : mg "_law_error" = some (.ref f_l_error)) (d_l_pick : ∀ T : TbT, T.tb = Tb.tb → T.lt = Tb.lt → DefOk P w K mg base T "_law_pick" 2 s_l_pick 2) (d_can_right : ∀ T : TbT, T.tb = Tb.tb → T.lt = Tb.lt → DefX P w K mg base T "can_right" 2 s_can_right 7) (d_can_tell : ∀ T : TbT, T.tb = Tb.tb → T.lt = Tb.lt → DefX P w K mg base T "can_tell" 2 s_can_tell 7) (d_contents_told : ∀ T : TbT, T.tb = Tb.tb → T.lt = Tb.lt → DefX P w K mg base T "contents_told" 3 s_contents_told 6) (d_failing_rings : ∀ T : TbT, T.tb = Tb.tb → T.lt = Tb.lt → DefX P w K mg base T "failing_rings" 3 s_failing_rings 6) (d_fewest_wrong : ∀ T : TbT, T.tb = Tb.tb → T.lt = Tb.lt → DefX P w K mg base T "fewest_wrong" 2 s_fewest_wrong 6) (d_flood_family : ∀ T : TbT, T.tb = Tb.tb → T.lt = Tb.lt → DefX P w K mg base T "flood_family" 3 s_flood_family 7) (d_flood_kept : ∀ T : TbT, T.tb = Tb.tb → T.lt = Tb.lt → DefX P w K mg base T "flood_kept" 3 s_flood_kept 7) (d_flood_lost_within : ∀ T : TbT, T.tb = Tb.tb → T.lt = Tb.lt → DefX P w K mg base T "flood_lost_within" 3 s_flood_lost_within 7) (d_flood_schemes : ∀ T : TbT, T.tb = Tb.tb → T.lt = Tb.lt → DefX P w K mg base T "flood_schemes" 4 s_flood_schemes 4) (d_is_flood_scheme : ∀ T : TbT, T.tb = Tb.tb → T.lt = Tb.lt → DefX P w K mg base T "is_flood_scheme" 3 s_is_flood_scheme 7) (d_late_kept : ∀ T : TbT, T.tb = Tb.tb → T.lt = Tb.lt → DefX P w K mg base T "late_kept" 3 s_late_kept 7) (d_late_lost_within : ∀ T : TbT, T.tb = Tb.tb → T.lt = Tb.lt → DefX P w K mg base T "late_lost_within" 3 s_late_lost_within 7) (d_mixed_kinds : ∀ T : TbT, T.tb = Tb.tb → T.lt = Tb.lt → DefX P w K mg base T "mixed_kinds" 3 s_mixed_kinds 4) (d_named_kinds : ∀ T : TbT, T.tb = Tb.tb → T.lt = Tb.lt → DefX P w K mg base T "named_kinds" 3 s_named_kinds 4) (d_scheme_number : ∀ T : TbT, T.tb = Tb.tb → T.lt = Tb.lt → DefX P w K mg base T "scheme_number" 2 s_scheme_number 6) (d_scheme_told : ∀ T : TbT, T.tb = Tb.tb → T.lt = Tb.lt → DefX P w K mg base T "scheme_told" 4 s_scheme_told 7) (d_shown : ∀ T : TbT, T.tb = Tb.tb → T.lt = Tb.lt → DefX P w K mg base T "shown" 2 s_shown 6) (b_ValueError : mg "ValueError" = none) (b_isinstance : mg "isinstance" = none) (EF : ExF K [0, 1, 2, 3, 4, 5, 6, 7]) {c0 T0 : Addr} (hcd : fd.code = .ref c0) (TBl : LamX.TabB base mg c0 T0) (hT0 : (T0, ("law.<locals>.<lambda>" : Str)) ∈ Tb.lt) (hT1 : ∀ p ∈ Tb.lt, p.1 = T0 → p.2 = ("law.<locals>.<lambda>" : Str)) (hme : Tb.me = none) (her : Tb.er = none) (hkp : Tb.keep = []) (m_BadDays : mg "BadDays" = some (.ref (He.ga K "BadDays"))) (m_BadLibrary : mg "BadLibrary" = some (.ref (He.ga K "BadLibrary"))) (m_BadMost : mg "BadMost" = some (.ref (He.ga K "BadMost"))) (m_BadNumber : mg "BadNumber" = some (.ref (He.ga K "BadNumber"))) (m_BadShown : mg "BadShown" = some (.ref (He.ga K "BadShown"))) (m_BadString : mg "BadString" = some (.ref (He.ga K "BadString"))) (m_BadTablet : mg "BadTablet" = some (.ref (He.ga K "BadTablet"))) (m_LibraryError : mg "LibraryError" = some (.ref (He.ga K "LibraryError"))) (m_NoScheme : mg "NoScheme" = some (.ref (He.ga K "NoScheme"))) (c : Addr) (A : Around) (outer : List PySem.Env) (s : Shared) (H : Hp) (E : XK) (T : TbT) (hc : fd.code = .ref c) (hr : Room 9 (A.deeper (envOfC "law" (defScope st_law) s.heap.objs.size f (.ref c)))) (e1 : T.tb = Tb.tb) (e2 : T.lt = Tb.lt) (e5 : T.cl = Tb.cl) (e4 : T.er = none) (e3 : T.me = some ⟨(cxOf CX0 P w K mg base ["_law_script", "_law_row", "_law_number", "_law_good", "_law_melts", "_law_late", "_law_wrong", "_law_works", "_law_bits", "_law_found", "_law_work"] "law" (defScope st_law) f (.ref c) A outer s H E).nox.env.cells, (cxOf CX0 P w K mg base ["_law_script", "_law_row", "_law_number", "_law_good", "_law_melts", "_law_late", "_law_wrong", "_law_works", "_law_bits", "_law_found", "_law_work"] "law" (defScope st_law) f (.ref c) A outer s H E).nox.env.qual ++ "<lambda>", lams (defBody st_law)⟩) (C : Ctx (mkF P w K T) (cxOf CX0 P w K mg base ["_law_script", "_law_row", "_law_number", "_law_good", "_law_melts", "_law_late", "_law_wrong", "_law_works", "_law_bits", "_law_found", "_law_work"] "law" (defScope st_law) f (.ref c) A outer s H E).nox) :
  PS (cxOf CX0 P w K mg base ["_law_script", "_law_row", "_law_number", "_law_good", "_law_melts", "_law_late", "_law_wrong", "_law_works", "_law_bits", "_law_found", "_law_work"] "law" (defScope st_law) f (.ref c) A outer s H E).nox ((defBody st_law).getD 17 (.Pass ⟨0, 0, 0, 0⟩)) (tS (mkF P w K T) b_law17) := by
  have ec := hc.symm.trans hcd
  obtain rfl : c = c0 := by cases ec; rfl
  have mk : Maker (mkF P w K T) (cxOf CX0 P w K mg base ["_law_script", "_law_row", "_law_number", "_law_good", "_law_melts", "_law_late", "_law_wrong", "_law_works", "_law_bits", "_law_found", "_law_work"] "law" (defScope st_law) f (.ref c) A outer s H E).nox ⟨(cxOf CX0 P w K mg base ["_law_script", "_law_row", "_law_number", "_law_good", "_law_melts", "_law_late", "_law_wrong", "_law_works", "_law_bits", "_law_found", "_law_work"] "law" (defScope st_law) f (.ref c) A outer s H E).nox.env.cells, (cxOf CX0 P w K mg base ["_law_script", "_law_row", "_law_number", "_law_good", "_law_melts", "_law_late", "_law_wrong", "_law_works", "_law_bits", "_law_found", "_law_work"] "law" (defScope st_law) f (.ref c) A outer s H E).nox.env.qual ++ "<lambda>", lams (defBody st_law)⟩ c T0 := ⟨e3, rfl, rfl, TBl, rfl, by show _ ∈ T.lt; rw [e2]; exact hT0, fun p hp e => hT1 p (by rw [← e2]; exact hp) e⟩
  have lo : ∀ T2 : TbT, T2.tb = Tb.tb → T2.lt = Tb.lt → T2.me = some ⟨(cxOf CX0 P w K mg base ["_law_script", "_law_row", "_law_number", "_law_good", "_law_melts", "_law_late", "_law_wrong", "_law_works", "_law_bits", "_law_found", "_law_work"] "law" (defScope st_law) f (.ref c) A outer s H E).nox.env.cells, (cxOf CX0 P w K mg base ["_law_script", "_law_row", "_law_number", "_law_good", "_law_melts", "_law_late", "_law_wrong", "_law_works", "_law_bits", "_law_found", "_law_work"] "law" (defScope st_law) f (.ref c) A outer s H E).nox.env.qual ++ "<lambda>", lams (defBody st_law)⟩ → T2.er = none → LamsOk (mkF P w K T2) (cxOf CX0 P w K mg base ["_law_script", "_law_row", "_law_number", "_law_good", "_law_melts", "_law_late", "_law_wrong", "_law_works", "_law_bits", "_law_found", "_law_work"] "law" (defScope st_law) f (.ref c) A outer s H E).nox ⟨(cxOf CX0 P w K mg base ["_law_script", "_law_row", "_law_number", "_law_good", "_law_melts", "_law_late", "_law_wrong", "_law_works", "_law_bits", "_law_found", "_law_work"] "law" (defScope st_law) f (.ref c) A outer s H E).nox.env.cells, (cxOf CX0 P w K mg base ["_law_script", "_law_row", "_law_number", "_law_good", "_law_melts", "_law_late", "_law_wrong", "_law_works", "_law_bits", "_law_found", "_law_work"] "law" (defScope st_law) f (.ref c) A outer s H E).nox.env.qual ++ "<lambda>", lams (defBody st_law)⟩ 7 lam_law := fun T2 q1 q2 q3 _ => lo_law d_l_pick d_can_right d_can_tell d_contents_told d_failing_rings d_fewest_wrong d_flood_family d_flood_kept d_flood_lost_within d_flood_schemes d_is_flood_scheme d_late_kept d_late_lost_within d_mixed_kinds d_named_kinds d_scheme_number d_scheme_told d_shown c A outer s H E T2 q1 q2 q3
  have d_l_pick := d_l_pick T e1 e2; have d_can_right := d_can_right T e1 e2; have d_can_tell := d_can_tell T e1 e2; have d_contents_told := d_contents_told T e1 e2; have d_failing_rings := d_failing_rings T e1 e2; have d_fewest_wrong := d_fewest_wrong T e1 e2; have d_flood_family := d_flood_family T e1 e2; have d_flood_kept := d_flood_kept T e1 e2; have d_flood_lost_within := d_flood_lost_within T e1 e2; have d_flood_schemes := d_flood_schemes T e1 e2; have d_is_flood_scheme := d_is_flood_scheme T e1 e2; have d_late_kept := d_late_kept T e1 e2; have d_late_lost_within := d_late_lost_within T e1 e2; have d_mixed_kinds := d_mixed_kinds T e1 e2; have d_named_kinds := d_named_kinds T e1 e2; have d_scheme_number := d_scheme_number T e1 e2; have d_scheme_told := d_scheme_told T e1 e2; have d_shown := d_shown T e1 e2
  exact (ds_asg (ve_add (L2.PE.weak (de_var 9)) (L2.PE.weak (de_lst (db_cons (de_noask (de_callK (X := (cxOf CX0 P w K mg base ["_law_script", "_law_row", "_law_number", "_law_good", "_law_melts", "_law_late", "_law_wrong", "_law_works", "_law_bits", "_law_found", "_law_work"] "law" (defScope st_law) f (.ref c) A outer s H E).nox) (M := ⟨(cxOf CX0 P w K mg base ["_law_script", "_law_row", "_law_number", "_law_good", "_law_melts", "_law_late", "_law_wrong", "_law_works", "_law_bits", "_law_found", "_law_work"] "law" (defScope st_law) f (.ref c) A outer s H E).nox.env.cells, (cxOf CX0 P w K mg base ["_law_script", "_law_row", "_law_number", "_law_good", "_law_melts", "_law_late", "_law_wrong", "_law_works", "_law_bits", "_law_found", "_law_work"] "law" (defScope st_law) f (.ref c) A outer s H E).nox.env.qual ++ "<lambda>", lams (defBody st_law)⟩) (lams := lam_law) (cap := [1, 2, 3, 4, 5, 6, 8]) (b := b_l_error) (n := 4) (N := ["_law_work", "_law_found", "_law_known", "error"]) (k := 8) kn_self ⟨rfl, rfl, rfl, rfl, rfl⟩ e4 FD_l_error sc_l_error (fun T2 σ0 r0 c2 A2 outer2 s2 H2 hc2 q1 q2 q3 q4 q5 hk hr2 C2 kc2 => w_l_error FD_l_error EF m_BadDays m_BadLibrary m_BadMost m_BadNumber m_BadShown m_BadString m_BadTablet m_LibraryError m_NoScheme b_ValueError b_isinstance T2 q4 (lo T2 (q1.trans e1) (q2.trans e2) (q3.trans e3) q4) σ0 r0 hk c2 A2 outer2 s2 H2 hc2 hr2 C2 kc2) (hr.mono (by omega)) (by rfl) hm_l_error FD_l_error.kp (FD_l_error.bindsN fun _ _ _ _ _ _ us hl => match us, hl with | [_], _ => rfl) (db_cons (de_lam0 mk 19 (by kernel_rfl) rfl rfl fun O y hy he => LW19.has O y hy he) db_nil) (cnt_cons cnt_nil))) db_nil) (few_cons few_nil)))) (dg_nm 9 sc_law.nd))
theorem ok_law18 (FD : FnP K "law" st_law f fd) (hm : mg "law" = some (.ref f)) {f_l_error : Addr} {fd_l_error : FuncData} (FD_l_error : FnP K "_law_error" st_l_error f_l_error fd_l_error) (hm_l_error : mg "_law_error" = some (.ref f_l_error)) (d_l_pick : ∀ T : TbT, T.tb = Tb.tb → T.lt = Tb.lt → DefOk P w K mg base T "_law_pick" 2 s_l_pick 2) (d_can_right : ∀ T : TbT, T.tb = Tb.tb → T.lt = Tb.lt → DefX P w K mg base T "can_right" 2 s_can_right 7) (d_can_tell : ∀ T : TbT, T.tb = Tb.tb → T.lt = Tb.lt → DefX P w K mg base T "can_tell" 2 s_can_tell 7) (d_contents_told : ∀ T : TbT, T.tb = Tb.tb → T.lt = Tb.lt → DefX P w K mg base T "contents_told" 3 s_contents_told 6) (d_failing_rings : ∀ T : TbT, T.tb = Tb.tb → T.lt = Tb.lt → DefX P w K mg base T "failing_rings" 3 s_failing_rings 6) (d_fewest_wrong : ∀ T : TbT, T.tb = Tb.tb → T.lt = Tb.lt → DefX P w K mg base T "fewest_wrong" 2 s_fewest_wrong 6) (d_flood_family : ∀ T : TbT, T.tb = Tb.tb → T.lt = Tb.lt → DefX P w K mg base T "flood_family" 3 s_flood_family 7) (d_flood_kept : ∀ T : TbT, T.tb = Tb.tb → T.lt = Tb.lt → DefX P w K mg base T "flood_kept" 3 s_flood_kept 7) (d_flood_lost_within : ∀ T : TbT, T.tb = Tb.tb → T.lt = Tb.lt → DefX P w K mg base T "flood_lost_within" 3 s_flood_lost_within 7) (d_flood_schemes : ∀ T : TbT, T.tb = Tb.tb → T.lt = Tb.lt → DefX P w K mg base T "flood_schemes" 4 s_flood_schemes 4) (d_is_flood_scheme : ∀ T : TbT, T.tb = Tb.tb → T.lt = Tb.lt → DefX P w K mg base T "is_flood_scheme" 3 s_is_flood_scheme 7) (d_late_kept : ∀ T : TbT, T.tb = Tb.tb → T.lt = Tb.lt → DefX P w K mg base T "late_kept" 3 s_late_kept 7) (d_late_lost_within : ∀ T : TbT, T.tb = Tb.tb → T.lt = Tb.lt → DefX P w K mg base T "late_lost_within" 3 s_late_lost_within 7) (d_mixed_kinds : ∀ T : TbT, T.tb = Tb.tb → T.lt = Tb.lt → DefX P w K mg base T "mixed_kinds" 3 s_mixed_kinds 4) (d_named_kinds : ∀ T : TbT, T.tb = Tb.tb → T.lt = Tb.lt → DefX P w K mg base T "named_kinds" 3 s_named_kinds 4) (d_scheme_number : ∀ T : TbT, T.tb = Tb.tb → T.lt = Tb.lt → DefX P w K mg base T "scheme_number" 2 s_scheme_number 6) (d_scheme_told : ∀ T : TbT, T.tb = Tb.tb → T.lt = Tb.lt → DefX P w K mg base T "scheme_told" 4 s_scheme_told 7) (d_shown : ∀ T : TbT, T.tb = Tb.tb → T.lt = Tb.lt → DefX P w K mg base T "shown" 2 s_shown 6) (b_ValueError : mg "ValueError" = none) (b_isinstance : mg "isinstance" = none) (EF : ExF K [0, 1, 2, 3, 4, 5, 6, 7]) {c0 T0 : Addr} (hcd : fd.code = .ref c0) (TBl : LamX.TabB base mg c0 T0) (hT0 : (T0, ("law.<locals>.<lambda>" : Str)) ∈ Tb.lt) (hT1 : ∀ p ∈ Tb.lt, p.1 = T0 → p.2 = ("law.<locals>.<lambda>" : Str)) (hme : Tb.me = none) (her : Tb.er = none) (hkp : Tb.keep = []) (m_BadDays : mg "BadDays" = some (.ref (He.ga K "BadDays"))) (m_BadLibrary : mg "BadLibrary" = some (.ref (He.ga K "BadLibrary"))) (m_BadMost : mg "BadMost" = some (.ref (He.ga K "BadMost"))) (m_BadNumber : mg "BadNumber" = some (.ref (He.ga K "BadNumber"))) (m_BadShown : mg "BadShown" = some (.ref (He.ga K "BadShown"))) (m_BadString : mg "BadString" = some (.ref (He.ga K "BadString"))) (m_BadTablet : mg "BadTablet" = some (.ref (He.ga K "BadTablet"))) (m_LibraryError : mg "LibraryError" = some (.ref (He.ga K "LibraryError"))) (m_NoScheme : mg "NoScheme" = some (.ref (He.ga K "NoScheme"))) (c : Addr) (A : Around) (outer : List PySem.Env) (s : Shared) (H : Hp) (E : XK) (T : TbT) (hc : fd.code = .ref c) (hr : Room 9 (A.deeper (envOfC "law" (defScope st_law) s.heap.objs.size f (.ref c)))) (e1 : T.tb = Tb.tb) (e2 : T.lt = Tb.lt) (e5 : T.cl = Tb.cl) (e4 : T.er = none) (e3 : T.me = some ⟨(cxOf CX0 P w K mg base ["_law_script", "_law_row", "_law_number", "_law_good", "_law_melts", "_law_late", "_law_wrong", "_law_works", "_law_bits", "_law_found", "_law_work"] "law" (defScope st_law) f (.ref c) A outer s H E).nox.env.cells, (cxOf CX0 P w K mg base ["_law_script", "_law_row", "_law_number", "_law_good", "_law_melts", "_law_late", "_law_wrong", "_law_works", "_law_bits", "_law_found", "_law_work"] "law" (defScope st_law) f (.ref c) A outer s H E).nox.env.qual ++ "<lambda>", lams (defBody st_law)⟩) (C : Ctx (mkF P w K T) (cxOf CX0 P w K mg base ["_law_script", "_law_row", "_law_number", "_law_good", "_law_melts", "_law_late", "_law_wrong", "_law_works", "_law_bits", "_law_found", "_law_work"] "law" (defScope st_law) f (.ref c) A outer s H E).nox) :
  PS (cxOf CX0 P w K mg base ["_law_script", "_law_row", "_law_number", "_law_good", "_law_melts", "_law_late", "_law_wrong", "_law_works", "_law_bits", "_law_found", "_law_work"] "law" (defScope st_law) f (.ref c) A outer s H E).nox ((defBody st_law).getD 18 (.Pass ⟨0, 0, 0, 0⟩)) (tS (mkF P w K T) b_law18) := by
  have ec := hc.symm.trans hcd
  obtain rfl : c = c0 := by cases ec; rfl
  have mk : Maker (mkF P w K T) (cxOf CX0 P w K mg base ["_law_script", "_law_row", "_law_number", "_law_good", "_law_melts", "_law_late", "_law_wrong", "_law_works", "_law_bits", "_law_found", "_law_work"] "law" (defScope st_law) f (.ref c) A outer s H E).nox ⟨(cxOf CX0 P w K mg base ["_law_script", "_law_row", "_law_number", "_law_good", "_law_melts", "_law_late", "_law_wrong", "_law_works", "_law_bits", "_law_found", "_law_work"] "law" (defScope st_law) f (.ref c) A outer s H E).nox.env.cells, (cxOf CX0 P w K mg base ["_law_script", "_law_row", "_law_number", "_law_good", "_law_melts", "_law_late", "_law_wrong", "_law_works", "_law_bits", "_law_found", "_law_work"] "law" (defScope st_law) f (.ref c) A outer s H E).nox.env.qual ++ "<lambda>", lams (defBody st_law)⟩ c T0 := ⟨e3, rfl, rfl, TBl, rfl, by show _ ∈ T.lt; rw [e2]; exact hT0, fun p hp e => hT1 p (by rw [← e2]; exact hp) e⟩
  have lo : ∀ T2 : TbT, T2.tb = Tb.tb → T2.lt = Tb.lt → T2.me = some ⟨(cxOf CX0 P w K mg base ["_law_script", "_law_row", "_law_number", "_law_good", "_law_melts", "_law_late", "_law_wrong", "_law_works", "_law_bits", "_law_found", "_law_work"] "law" (defScope st_law) f (.ref c) A outer s H E).nox.env.cells, (cxOf CX0 P w K mg base ["_law_script", "_law_row", "_law_number", "_law_good", "_law_melts", "_law_late", "_law_wrong", "_law_works", "_law_bits", "_law_found", "_law_work"] "law" (defScope st_law) f (.ref c) A outer s H E).nox.env.qual ++ "<lambda>", lams (defBody st_law)⟩ → T2.er = none → LamsOk (mkF P w K T2) (cxOf CX0 P w K mg base ["_law_script", "_law_row", "_law_number", "_law_good", "_law_melts", "_law_late", "_law_wrong", "_law_works", "_law_bits", "_law_found", "_law_work"] "law" (defScope st_law) f (.ref c) A outer s H E).nox ⟨(cxOf CX0 P w K mg base ["_law_script", "_law_row", "_law_number", "_law_good", "_law_melts", "_law_late", "_law_wrong", "_law_works", "_law_bits", "_law_found", "_law_work"] "law" (defScope st_law) f (.ref c) A outer s H E).nox.env.cells, (cxOf CX0 P w K mg base ["_law_script", "_law_row", "_law_number", "_law_good", "_law_melts", "_law_late", "_law_wrong", "_law_works", "_law_bits", "_law_found", "_law_work"] "law" (defScope st_law) f (.ref c) A outer s H E).nox.env.qual ++ "<lambda>", lams (defBody st_law)⟩ 7 lam_law := fun T2 q1 q2 q3 _ => lo_law d_l_pick d_can_right d_can_tell d_contents_told d_failing_rings d_fewest_wrong d_flood_family d_flood_kept d_flood_lost_within d_flood_schemes d_is_flood_scheme d_late_kept d_late_lost_within d_mixed_kinds d_named_kinds d_scheme_number d_scheme_told d_shown c A outer s H E T2 q1 q2 q3
  have d_l_pick := d_l_pick T e1 e2; have d_can_right := d_can_right T e1 e2; have d_can_tell := d_can_tell T e1 e2; have d_contents_told := d_contents_told T e1 e2; have d_failing_rings := d_failing_rings T e1 e2; have d_fewest_wrong := d_fewest_wrong T e1 e2; have d_flood_family := d_flood_family T e1 e2; have d_flood_kept := d_flood_kept T e1 e2; have d_flood_lost_within := d_flood_lost_within T e1 e2; have d_flood_schemes := d_flood_schemes T e1 e2; have d_is_flood_scheme := d_is_flood_scheme T e1 e2; have d_late_kept := d_late_kept T e1 e2; have d_late_lost_within := d_late_lost_within T e1 e2; have d_mixed_kinds := d_mixed_kinds T e1 e2; have d_named_kinds := d_named_kinds T e1 e2; have d_scheme_number := d_scheme_number T e1 e2; have d_scheme_told := d_scheme_told T e1 e2; have d_shown := d_shown T e1 e2
  exact (ds_ret (ve_cmp ok_eq (L2.PE.weak (de_var 9)) (L2.PE.weak (de_lst (db_cons de_int (db_cons de_int (db_cons de_int (db_cons de_int (db_cons de_int db_nil))))) (few_cons (few_cons (few_cons (few_cons (few_cons few_nil)))))))))
theorem ok_law (FD : FnP K "law" st_law f fd) (hm : mg "law" = some (.ref f)) {f_l_error : Addr} {fd_l_error : FuncData} (FD_l_error : FnP K "_law_error" st_l_error f_l_error fd_l_error) (hm_l_error : mg "_law_error" = some (.ref f_l_error)) (d_l_pick : ∀ T : TbT, T.tb = Tb.tb → T.lt = Tb.lt → DefOk P w K mg base T "_law_pick" 2 s_l_pick 2) (d_can_right : ∀ T : TbT, T.tb = Tb.tb → T.lt = Tb.lt → DefX P w K mg base T "can_right" 2 s_can_right 7) (d_can_tell : ∀ T : TbT, T.tb = Tb.tb → T.lt = Tb.lt → DefX P w K mg base T "can_tell" 2 s_can_tell 7) (d_contents_told : ∀ T : TbT, T.tb = Tb.tb → T.lt = Tb.lt → DefX P w K mg base T "contents_told" 3 s_contents_told 6) (d_failing_rings : ∀ T : TbT, T.tb = Tb.tb → T.lt = Tb.lt → DefX P w K mg base T "failing_rings" 3 s_failing_rings 6) (d_fewest_wrong : ∀ T : TbT, T.tb = Tb.tb → T.lt = Tb.lt → DefX P w K mg base T "fewest_wrong" 2 s_fewest_wrong 6) (d_flood_family : ∀ T : TbT, T.tb = Tb.tb → T.lt = Tb.lt → DefX P w K mg base T "flood_family" 3 s_flood_family 7) (d_flood_kept : ∀ T : TbT, T.tb = Tb.tb → T.lt = Tb.lt → DefX P w K mg base T "flood_kept" 3 s_flood_kept 7) (d_flood_lost_within : ∀ T : TbT, T.tb = Tb.tb → T.lt = Tb.lt → DefX P w K mg base T "flood_lost_within" 3 s_flood_lost_within 7) (d_flood_schemes : ∀ T : TbT, T.tb = Tb.tb → T.lt = Tb.lt → DefX P w K mg base T "flood_schemes" 4 s_flood_schemes 4) (d_is_flood_scheme : ∀ T : TbT, T.tb = Tb.tb → T.lt = Tb.lt → DefX P w K mg base T "is_flood_scheme" 3 s_is_flood_scheme 7) (d_late_kept : ∀ T : TbT, T.tb = Tb.tb → T.lt = Tb.lt → DefX P w K mg base T "late_kept" 3 s_late_kept 7) (d_late_lost_within : ∀ T : TbT, T.tb = Tb.tb → T.lt = Tb.lt → DefX P w K mg base T "late_lost_within" 3 s_late_lost_within 7) (d_mixed_kinds : ∀ T : TbT, T.tb = Tb.tb → T.lt = Tb.lt → DefX P w K mg base T "mixed_kinds" 3 s_mixed_kinds 4) (d_named_kinds : ∀ T : TbT, T.tb = Tb.tb → T.lt = Tb.lt → DefX P w K mg base T "named_kinds" 3 s_named_kinds 4) (d_scheme_number : ∀ T : TbT, T.tb = Tb.tb → T.lt = Tb.lt → DefX P w K mg base T "scheme_number" 2 s_scheme_number 6) (d_scheme_told : ∀ T : TbT, T.tb = Tb.tb → T.lt = Tb.lt → DefX P w K mg base T "scheme_told" 4 s_scheme_told 7) (d_shown : ∀ T : TbT, T.tb = Tb.tb → T.lt = Tb.lt → DefX P w K mg base T "shown" 2 s_shown 6) (b_ValueError : mg "ValueError" = none) (b_isinstance : mg "isinstance" = none) (EF : ExF K [0, 1, 2, 3, 4, 5, 6, 7]) {c0 T0 : Addr} (hcd : fd.code = .ref c0) (TBl : LamX.TabB base mg c0 T0) (hT0 : (T0, ("law.<locals>.<lambda>" : Str)) ∈ Tb.lt) (hT1 : ∀ p ∈ Tb.lt, p.1 = T0 → p.2 = ("law.<locals>.<lambda>" : Str)) (hme : Tb.me = none) (her : Tb.er = none) (hkp : Tb.keep = []) (m_BadDays : mg "BadDays" = some (.ref (He.ga K "BadDays"))) (m_BadLibrary : mg "BadLibrary" = some (.ref (He.ga K "BadLibrary"))) (m_BadMost : mg "BadMost" = some (.ref (He.ga K "BadMost"))) (m_BadNumber : mg "BadNumber" = some (.ref (He.ga K "BadNumber"))) (m_BadShown : mg "BadShown" = some (.ref (He.ga K "BadShown"))) (m_BadString : mg "BadString" = some (.ref (He.ga K "BadString"))) (m_BadTablet : mg "BadTablet" = some (.ref (He.ga K "BadTablet"))) (m_LibraryError : mg "LibraryError" = some (.ref (He.ga K "LibraryError"))) (m_NoScheme : mg "NoScheme" = some (.ref (He.ga K "NoScheme"))) :
  FnOk P w K mg base CX0 10 f fd ["_law_script"] (spV (mkF P w K Tb) 1 s_law) := fn_lawM (lams (defBody st_law)) FD sc_law hme her hkp fun c A outer s H E T hc hr e1 e2 e5 e4 e3 C =>
  (dss_cons (ok_law0 FD hm FD_l_error hm_l_error d_l_pick d_can_right d_can_tell d_contents_told d_failing_rings d_fewest_wrong d_flood_family d_flood_kept d_flood_lost_within d_flood_schemes d_is_flood_scheme d_late_kept d_late_lost_within d_mixed_kinds d_named_kinds d_scheme_number d_scheme_told d_shown b_ValueError b_isinstance EF hcd TBl hT0 hT1 hme her hkp m_BadDays m_BadLibrary m_BadMost m_BadNumber m_BadShown m_BadString m_BadTablet m_LibraryError m_NoScheme c A outer s H E T hc hr e1 e2 e5 e4 e3 C)
  (dss_cons (ok_law1 FD hm FD_l_error hm_l_error d_l_pick d_can_right d_can_tell d_contents_told d_failing_rings d_fewest_wrong d_flood_family d_flood_kept d_flood_lost_within d_flood_schemes d_is_flood_scheme d_late_kept d_late_lost_within d_mixed_kinds d_named_kinds d_scheme_number d_scheme_told d_shown b_ValueError b_isinstance EF hcd TBl hT0 hT1 hme her hkp m_BadDays m_BadLibrary m_BadMost m_BadNumber m_BadShown m_BadString m_BadTablet m_LibraryError m_NoScheme c A outer s H E T hc hr e1 e2 e5 e4 e3 C)
  (dss_cons (ok_law2 FD hm FD_l_error hm_l_error d_l_pick d_can_right d_can_tell d_contents_told d_failing_rings d_fewest_wrong d_flood_family d_flood_kept d_flood_lost_within d_flood_schemes d_is_flood_scheme d_late_kept d_late_lost_within d_mixed_kinds d_named_kinds d_scheme_number d_scheme_told d_shown b_ValueError b_isinstance EF hcd TBl hT0 hT1 hme her hkp m_BadDays m_BadLibrary m_BadMost m_BadNumber m_BadShown m_BadString m_BadTablet m_LibraryError m_NoScheme c A outer s H E T hc hr e1 e2 e5 e4 e3 C)
  (dss_cons (ok_law3 FD hm FD_l_error hm_l_error d_l_pick d_can_right d_can_tell d_contents_told d_failing_rings d_fewest_wrong d_flood_family d_flood_kept d_flood_lost_within d_flood_schemes d_is_flood_scheme d_late_kept d_late_lost_within d_mixed_kinds d_named_kinds d_scheme_number d_scheme_told d_shown b_ValueError b_isinstance EF hcd TBl hT0 hT1 hme her hkp m_BadDays m_BadLibrary m_BadMost m_BadNumber m_BadShown m_BadString m_BadTablet m_LibraryError m_NoScheme c A outer s H E T hc hr e1 e2 e5 e4 e3 C)
  (dss_cons (ok_law4 FD hm FD_l_error hm_l_error d_l_pick d_can_right d_can_tell d_contents_told d_failing_rings d_fewest_wrong d_flood_family d_flood_kept d_flood_lost_within d_flood_schemes d_is_flood_scheme d_late_kept d_late_lost_within d_mixed_kinds d_named_kinds d_scheme_number d_scheme_told d_shown b_ValueError b_isinstance EF hcd TBl hT0 hT1 hme her hkp m_BadDays m_BadLibrary m_BadMost m_BadNumber m_BadShown m_BadString m_BadTablet m_LibraryError m_NoScheme c A outer s H E T hc hr e1 e2 e5 e4 e3 C)
  (dss_cons (ok_law5 FD hm FD_l_error hm_l_error d_l_pick d_can_right d_can_tell d_contents_told d_failing_rings d_fewest_wrong d_flood_family d_flood_kept d_flood_lost_within d_flood_schemes d_is_flood_scheme d_late_kept d_late_lost_within d_mixed_kinds d_named_kinds d_scheme_number d_scheme_told d_shown b_ValueError b_isinstance EF hcd TBl hT0 hT1 hme her hkp m_BadDays m_BadLibrary m_BadMost m_BadNumber m_BadShown m_BadString m_BadTablet m_LibraryError m_NoScheme c A outer s H E T hc hr e1 e2 e5 e4 e3 C)
  (dss_cons (ok_law6 FD hm FD_l_error hm_l_error d_l_pick d_can_right d_can_tell d_contents_told d_failing_rings d_fewest_wrong d_flood_family d_flood_kept d_flood_lost_within d_flood_schemes d_is_flood_scheme d_late_kept d_late_lost_within d_mixed_kinds d_named_kinds d_scheme_number d_scheme_told d_shown b_ValueError b_isinstance EF hcd TBl hT0 hT1 hme her hkp m_BadDays m_BadLibrary m_BadMost m_BadNumber m_BadShown m_BadString m_BadTablet m_LibraryError m_NoScheme c A outer s H E T hc hr e1 e2 e5 e4 e3 C)
  (dss_cons (ok_law7 FD hm FD_l_error hm_l_error d_l_pick d_can_right d_can_tell d_contents_told d_failing_rings d_fewest_wrong d_flood_family d_flood_kept d_flood_lost_within d_flood_schemes d_is_flood_scheme d_late_kept d_late_lost_within d_mixed_kinds d_named_kinds d_scheme_number d_scheme_told d_shown b_ValueError b_isinstance EF hcd TBl hT0 hT1 hme her hkp m_BadDays m_BadLibrary m_BadMost m_BadNumber m_BadShown m_BadString m_BadTablet m_LibraryError m_NoScheme c A outer s H E T hc hr e1 e2 e5 e4 e3 C)
  (dss_cons (ok_law8 FD hm FD_l_error hm_l_error d_l_pick d_can_right d_can_tell d_contents_told d_failing_rings d_fewest_wrong d_flood_family d_flood_kept d_flood_lost_within d_flood_schemes d_is_flood_scheme d_late_kept d_late_lost_within d_mixed_kinds d_named_kinds d_scheme_number d_scheme_told d_shown b_ValueError b_isinstance EF hcd TBl hT0 hT1 hme her hkp m_BadDays m_BadLibrary m_BadMost m_BadNumber m_BadShown m_BadString m_BadTablet m_LibraryError m_NoScheme c A outer s H E T hc hr e1 e2 e5 e4 e3 C)
  (dss_cons (ok_law9 FD hm FD_l_error hm_l_error d_l_pick d_can_right d_can_tell d_contents_told d_failing_rings d_fewest_wrong d_flood_family d_flood_kept d_flood_lost_within d_flood_schemes d_is_flood_scheme d_late_kept d_late_lost_within d_mixed_kinds d_named_kinds d_scheme_number d_scheme_told d_shown b_ValueError b_isinstance EF hcd TBl hT0 hT1 hme her hkp m_BadDays m_BadLibrary m_BadMost m_BadNumber m_BadShown m_BadString m_BadTablet m_LibraryError m_NoScheme c A outer s H E T hc hr e1 e2 e5 e4 e3 C)
  (dss_cons (ok_law10 FD hm FD_l_error hm_l_error d_l_pick d_can_right d_can_tell d_contents_told d_failing_rings d_fewest_wrong d_flood_family d_flood_kept d_flood_lost_within d_flood_schemes d_is_flood_scheme d_late_kept d_late_lost_within d_mixed_kinds d_named_kinds d_scheme_number d_scheme_told d_shown b_ValueError b_isinstance EF hcd TBl hT0 hT1 hme her hkp m_BadDays m_BadLibrary m_BadMost m_BadNumber m_BadShown m_BadString m_BadTablet m_LibraryError m_NoScheme c A outer s H E T hc hr e1 e2 e5 e4 e3 C)
  (dss_cons (ok_law11 FD hm FD_l_error hm_l_error d_l_pick d_can_right d_can_tell d_contents_told d_failing_rings d_fewest_wrong d_flood_family d_flood_kept d_flood_lost_within d_flood_schemes d_is_flood_scheme d_late_kept d_late_lost_within d_mixed_kinds d_named_kinds d_scheme_number d_scheme_told d_shown b_ValueError b_isinstance EF hcd TBl hT0 hT1 hme her hkp m_BadDays m_BadLibrary m_BadMost m_BadNumber m_BadShown m_BadString m_BadTablet m_LibraryError m_NoScheme c A outer s H E T hc hr e1 e2 e5 e4 e3 C)
  (dss_cons (ok_law12 FD hm FD_l_error hm_l_error d_l_pick d_can_right d_can_tell d_contents_told d_failing_rings d_fewest_wrong d_flood_family d_flood_kept d_flood_lost_within d_flood_schemes d_is_flood_scheme d_late_kept d_late_lost_within d_mixed_kinds d_named_kinds d_scheme_number d_scheme_told d_shown b_ValueError b_isinstance EF hcd TBl hT0 hT1 hme her hkp m_BadDays m_BadLibrary m_BadMost m_BadNumber m_BadShown m_BadString m_BadTablet m_LibraryError m_NoScheme c A outer s H E T hc hr e1 e2 e5 e4 e3 C)
  (dss_cons (ok_law13 FD hm FD_l_error hm_l_error d_l_pick d_can_right d_can_tell d_contents_told d_failing_rings d_fewest_wrong d_flood_family d_flood_kept d_flood_lost_within d_flood_schemes d_is_flood_scheme d_late_kept d_late_lost_within d_mixed_kinds d_named_kinds d_scheme_number d_scheme_told d_shown b_ValueError b_isinstance EF hcd TBl hT0 hT1 hme her hkp m_BadDays m_BadLibrary m_BadMost m_BadNumber m_BadShown m_BadString m_BadTablet m_LibraryError m_NoScheme c A outer s H E T hc hr e1 e2 e5 e4 e3 C)
  (dss_cons (ok_law14 FD hm FD_l_error hm_l_error d_l_pick d_can_right d_can_tell d_contents_told d_failing_rings d_fewest_wrong d_flood_family d_flood_kept d_flood_lost_within d_flood_schemes d_is_flood_scheme d_late_kept d_late_lost_within d_mixed_kinds d_named_kinds d_scheme_number d_scheme_told d_shown b_ValueError b_isinstance EF hcd TBl hT0 hT1 hme her hkp m_BadDays m_BadLibrary m_BadMost m_BadNumber m_BadShown m_BadString m_BadTablet m_LibraryError m_NoScheme c A outer s H E T hc hr e1 e2 e5 e4 e3 C)
  (dss_cons (ok_law15 FD hm FD_l_error hm_l_error d_l_pick d_can_right d_can_tell d_contents_told d_failing_rings d_fewest_wrong d_flood_family d_flood_kept d_flood_lost_within d_flood_schemes d_is_flood_scheme d_late_kept d_late_lost_within d_mixed_kinds d_named_kinds d_scheme_number d_scheme_told d_shown b_ValueError b_isinstance EF hcd TBl hT0 hT1 hme her hkp m_BadDays m_BadLibrary m_BadMost m_BadNumber m_BadShown m_BadString m_BadTablet m_LibraryError m_NoScheme c A outer s H E T hc hr e1 e2 e5 e4 e3 C)
  (dss_cons (ok_law16 FD hm FD_l_error hm_l_error d_l_pick d_can_right d_can_tell d_contents_told d_failing_rings d_fewest_wrong d_flood_family d_flood_kept d_flood_lost_within d_flood_schemes d_is_flood_scheme d_late_kept d_late_lost_within d_mixed_kinds d_named_kinds d_scheme_number d_scheme_told d_shown b_ValueError b_isinstance EF hcd TBl hT0 hT1 hme her hkp m_BadDays m_BadLibrary m_BadMost m_BadNumber m_BadShown m_BadString m_BadTablet m_LibraryError m_NoScheme c A outer s H E T hc hr e1 e2 e5 e4 e3 C)
  (dss_cons (ok_law17 FD hm FD_l_error hm_l_error d_l_pick d_can_right d_can_tell d_contents_told d_failing_rings d_fewest_wrong d_flood_family d_flood_kept d_flood_lost_within d_flood_schemes d_is_flood_scheme d_late_kept d_late_lost_within d_mixed_kinds d_named_kinds d_scheme_number d_scheme_told d_shown b_ValueError b_isinstance EF hcd TBl hT0 hT1 hme her hkp m_BadDays m_BadLibrary m_BadMost m_BadNumber m_BadShown m_BadString m_BadTablet m_LibraryError m_NoScheme c A outer s H E T hc hr e1 e2 e5 e4 e3 C)
  (dss_one (ok_law18 FD hm FD_l_error hm_l_error d_l_pick d_can_right d_can_tell d_contents_told d_failing_rings d_fewest_wrong d_flood_family d_flood_kept d_flood_lost_within d_flood_schemes d_is_flood_scheme d_late_kept d_late_lost_within d_mixed_kinds d_named_kinds d_scheme_number d_scheme_told d_shown b_ValueError b_isinstance EF hcd TBl hT0 hT1 hme her hkp m_BadDays m_BadLibrary m_BadMost m_BadNumber m_BadShown m_BadString m_BadTablet m_LibraryError m_NoScheme c A outer s H E T hc hr e1 e2 e5 e4 e3 C))))))))))))))))))))
end
end Mg
end
/-! ## K71Head -/
section
set_option Elab.async false
set_option linter.all false
set_option maxRecDepth 100000
set_option maxHeartbeats 0
namespace Mg
open PySem PySem.Spec PyProof.Rows L2 GxR
theorem gTab {base : Heap} {mg : Str → Option Value} {c P : Addr} (h : LamX.TabB base mg c P) : TabB base mg c P := ⟨h.code, h.bm, h.gP⟩
/-! ### the head -/
def dd (x : Str) (i : Nat) : He.DefD := ⟨(x, none), x, x, defArgs (top i), defBody (top i), defScope (top i), [], []⟩
def ddm (c m x : Str) (i j : Nat) : He.DefD := ⟨(c, some m), m, x, defArgs (inClass (top i) j), defBody (inClass (top i) j), defScope (inClass (top i) j), [], []⟩
def hfn0 : List He.DefD := [dd "is_number" 15, dd "is_row" 16, dd "need_library" 17, dd "need_most" 18, dd "mask_of" 19, dd "tablet_of" 20, dd "masks_of" 21, dd "total" 22, dd "span" 23, dd "has_all" 25, dd "left_of" 26, dd "rows_of" 27, dd "sums_of" 30, dd "is_tame" 31, dd "is_fixed" 34, dd "need_sizes" 35, dd "sorted_rows" 36, dd "all_schemes" 37, dd "is_bits" 43, dd "need_bits" 44, dd "shown" 46, dd "need_wrong" 48, dd "can_tell" 49, dd "can_right" 50, dd "contents_told" 51, dd "fewest_wrong" 52, dd "failing_rings" 53, dd "in_order" 55, dd "named_kinds" 65, dd "mixed_kinds" 66]
def hfn1 : List He.DefD := [dd "scheme_number" 67, dd "scheme_told" 68, dd "need_flood" 75, dd "flood_lost_within" 77, dd "flood_kept" 78, dd "flood_family" 79, dd "is_flood_scheme" 81, dd "flood_schemes" 82, dd "need_late" 83, dd "late_lost_within" 84, dd "late_kept" 85, dd "_law_taken" 87, dd "_law_pick" 88, dd "_law_error" 89, dd "law" 90, ddm "BadLibrary" "__init__" "BadLibrary.__init__" 3 0]
def hfn : List He.DefD := hfn0 ++ hfn1
def hfa0 : List He.Fa := [.meth "BadLibrary" "__init__", .noat "BadLibrary" "part", .glo "is_number", .glo "is_row", .glo "need_library", .glo "need_most", .glo "mask_of", .glo "tablet_of", .glo "masks_of", .glo "total", .glo "span", .glo "has_all", .glo "left_of", .glo "rows_of", .glo "sums_of", .glo "is_tame", .glo "is_fixed", .glo "need_sizes", .glo "sorted_rows", .glo "all_schemes", .glo "is_bits", .glo "need_bits", .glo "shown", .glo "need_wrong", .glo "can_tell", .glo "can_right", .glo "contents_told", .glo "fewest_wrong", .glo "failing_rings", .glo "in_order"]
def hfa1 : List He.Fa := [.glo "named_kinds", .glo "mixed_kinds", .glo "scheme_number", .glo "scheme_told", .glo "need_flood", .glo "flood_lost_within", .glo "flood_kept", .glo "flood_family", .glo "is_flood_scheme", .glo "flood_schemes", .glo "need_late", .glo "late_lost_within", .glo "late_kept", .glo "_law_taken", .glo "_law_pick", .glo "_law_error", .glo "law", .free "ValueError", .free "all", .free "bool", .free "int", .free "isinstance", .free "len", .free "list", .free "min", .free "range", .free "sorted", .free "sum", .free "tuple", .free "zip"]
def hfa2 : List He.Fa := [.int "MOST_LATE" 3, .int "MOST_MELTS" 3, .int "MOST_SUM" 3, .int "MOST_TABLETS" 6, .int "MOST_TEXTS" 3, .int "MOST_WRONG" 6, .glo "BadDays", .glo "BadLibrary", .glo "BadMost", .glo "BadNumber", .glo "BadShown", .glo "BadString", .glo "BadTablet", .glo "LibraryError", .glo "NoScheme", .exc "BadMost", .exc "BadNumber", .exc "BadShown", .exc "NoScheme"]
def hfa : List He.Fa := hfa0 ++ hfa1 ++ hfa2
def htfG : List He.Defn := [("is_row", none), ("need_library", none), ("is_fixed", none), ("is_bits", none)]
def htf : List He.Defn := htfG ++ ([("law", none)] : List He.Defn)
def hex (K : PySem.W.Frag) : Bool := exFB K [0, 1, 2, 3, 4, 5, 6, 7] && ["BadLibrary"].all (fun c => oexB K (He.ga K c)) && htfG.all fun p => decide ((He.cT K p).2 ≠ (He.cT K ("law", none)).2)
def tbt (K : PySem.W.Frag) : TbT := { tb := (htfG.map (He.cT K)).map (·.2), lt := [((He.cT K ("law", none)).2, "law.<locals>.<lambda>")] }
abbrev hR : PySem.W.OpenRow := PySem.W.OpenLaw.row PySem.Challenge.rw_meltlibrary_k71_numbers_and_rows_refused
abbrev hhk : PySem.W.Hook := He.hookX 4 hfa hfn [] htf hex
def hob (s : PySem.W.SharedT) : He.AlX := He.obsX 4 hfa hfn [] htf hex (HandSHeadRun.getT s)
theorem hob_eq (s : PySem.W.SharedT) : hob s = hhk.obs s.abs := He.obsX_eq (HandSHeadRun.getT_eq s)
def hloose : List Str := (["_wall", "LibraryError", "BadLibrary", "BadMost", "BadDays", "BadTablet", "BadNumber", "NoScheme", "BadString", "BadShown", "MOST_TEXTS", "MOST_TABLETS", "MOST_SUM", "is_number", "is_row", "need_library", "need_most", "mask_of", "tablet_of", "masks_of", "total", "span", "rank_of", "has_all", "left_of", "rows_of", "library_of", "sums_of", "is_tame", "rings"] : List Str) ++ (["is_part", "is_fixed", "need_sizes", "sorted_rows", "all_schemes", "MOST_WRONG", "odd", "shown_by", "bits_of", "is_bits", "need_bits", "unlike", "shown", "apart", "need_wrong", "can_tell", "can_right", "contents_told", "fewest_wrong", "failing_rings", "in_order", "Game", "orders", "all_names", "all_mixtures", "changed", "as_tablets", "least_of", "kinds_of", "named_kinds"] : List Str) ++ (["mixed_kinds", "scheme_number", "scheme_told", "MOST_MELTS", "MOST_LATE", "chosen", "filled", "Flood", "need_flood", "flood_of", "flood_lost_within", "flood_kept", "flood_family", "is_held", "is_flood_scheme", "flood_schemes", "need_late", "late_lost_within", "late_kept", "_law_taken", "_law_pick", "_law_error"] : List Str)
open PySem PySem.W PySem.Calls PyProof.Rows HandSHeadRun in
theorem hrunA (w : World) (os : OsState) : (endF (stepQ (denQ tabQ) hR.prog w) 20000 hR.prog w os).map (fun s => looksF hR.prog (boot_heap w.params) s.abs) = some true := by kernel_rfl
open PySem PySem.W PySem.Calls PyProof.Rows HandSHeadRun in
theorem hrunB (w : World) (os : OsState) : (endF (stepQ (denQ tabQ) hR.prog w) 20000 hR.prog w os).map (fun s => seenQ (PySem.W.view hR.prog [90]) hloose (importedModules hR.prog.main.body) (fun s => xlAt (PySem.W.view hR.prog [90]) [] s && recOk hR.toRowW.records s) s.abs) = some (openGood (PySem.W.view hR.prog [90]) hloose) := by kernel_rfl
open PySem PySem.W PySem.Calls PyProof.Rows HandSHeadRun in
theorem hrunC (w : World) (os : OsState) : (endF (stepQ (denQ tabQ) hR.prog w) 20000 hR.prog w os).map hob = some (hhk.val w) := by kernel_rfl
theorem hrun (w : World) : HandSHeadRun.RunEq hR (PySem.W.view hR.prog [90]) hhk hob 20000 hloose w := fun os => run_join (hrunA w os) (hrunB w os) (hrunC w os)
theorem facts {P : Program} {w : World} {K : PySem.W.Frag} {h : Heap} {mg : Str → Option Value} {f : Addr} (X : K.In h) (G : h.Ns mainGlobals mg) (hfa0 : mg ("law" : Str) = some (.ref f)) (c : He.SaysX hfa hfn [] htf hex w h K) :
    ∃ fd : FuncData, (∀ (s : Shared) (v : Value), BindsTo s fd ⟨[v], []⟩ [("_law_script", v)]) ∧ ∀ base : Heap, K.In base → base.Ns mainGlobals mg → (∀ p ∈ htf.map (He.cT K), LamX.TabB base mg p.1 p.2) → FnOk P w K mg base CX0 10 f fd ["_law_script"] (spV (mkF P w K (tbt K)) 1 s_law) := by
  have cd := c.t.d
  have ch := c.more
  unfold hex at ch
  obtain ⟨ch, ch2⟩ := Bool.and_eq_true_iff.mp ch
  obtain ⟨ch1, ch3⟩ := Bool.and_eq_true_iff.mp ch
  have EF := exFB_ok ch1
  have neq : ∀ p ∈ htfG, (He.cT K p).2 ≠ (He.cT K ("law", none)).2 := fun p hp => of_decide_eq_true (List.all_eq_true.mp ch2 p hp)
  have memT : ∀ T : TbT, T.tb = (tbt K).tb → T.lt = (tbt K).lt → ∀ p ∈ htfG, (He.cT K p).2 ∈ T := fun T q1 q2 p hp => ⟨by rw [q1]; exact List.mem_map_of_mem (List.mem_map_of_mem hp), fun z hz => by
    rw [q2] at hz
    have hz : z ∈ [((He.cT K ("law", none)).2, ("law.<locals>.<lambda>" : Str))] := hz
    rw [List.mem_singleton] at hz
    rw [hz]
    exact (neq p hp).symm⟩
  obtain ⟨fd_is_number, F_is_number⟩ := cd.def_ 0 (d := dd "is_number" 15) rfl
  obtain ⟨fd_is_row, F_is_row⟩ := cd.def_ 1 (d := dd "is_row" 16) rfl
  obtain ⟨fd_need_library, F_need_library⟩ := cd.def_ 2 (d := dd "need_library" 17) rfl
  obtain ⟨fd_need_most, F_need_most⟩ := cd.def_ 3 (d := dd "need_most" 18) rfl
  obtain ⟨fd_mask_of, F_mask_of⟩ := cd.def_ 4 (d := dd "mask_of" 19) rfl
  obtain ⟨fd_tablet_of, F_tablet_of⟩ := cd.def_ 5 (d := dd "tablet_of" 20) rfl
  obtain ⟨fd_masks_of, F_masks_of⟩ := cd.def_ 6 (d := dd "masks_of" 21) rfl
  obtain ⟨fd_total, F_total⟩ := cd.def_ 7 (d := dd "total" 22) rfl
  obtain ⟨fd_span, F_span⟩ := cd.def_ 8 (d := dd "span" 23) rfl
  obtain ⟨fd_has_all, F_has_all⟩ := cd.def_ 9 (d := dd "has_all" 25) rfl
  obtain ⟨fd_left_of, F_left_of⟩ := cd.def_ 10 (d := dd "left_of" 26) rfl
  obtain ⟨fd_rows_of, F_rows_of⟩ := cd.def_ 11 (d := dd "rows_of" 27) rfl
  obtain ⟨fd_sums_of, F_sums_of⟩ := cd.def_ 12 (d := dd "sums_of" 30) rfl
  obtain ⟨fd_is_tame, F_is_tame⟩ := cd.def_ 13 (d := dd "is_tame" 31) rfl
  obtain ⟨fd_is_fixed, F_is_fixed⟩ := cd.def_ 14 (d := dd "is_fixed" 34) rfl
  obtain ⟨fd_need_sizes, F_need_sizes⟩ := cd.def_ 15 (d := dd "need_sizes" 35) rfl
  obtain ⟨fd_sorted_rows, F_sorted_rows⟩ := cd.def_ 16 (d := dd "sorted_rows" 36) rfl
  obtain ⟨fd_all_schemes, F_all_schemes⟩ := cd.def_ 17 (d := dd "all_schemes" 37) rfl
  obtain ⟨fd_is_bits, F_is_bits⟩ := cd.def_ 18 (d := dd "is_bits" 43) rfl
  obtain ⟨fd_need_bits, F_need_bits⟩ := cd.def_ 19 (d := dd "need_bits" 44) rfl
  obtain ⟨fd_shown, F_shown⟩ := cd.def_ 20 (d := dd "shown" 46) rfl
  obtain ⟨fd_need_wrong, F_need_wrong⟩ := cd.def_ 21 (d := dd "need_wrong" 48) rfl
  obtain ⟨fd_can_tell, F_can_tell⟩ := cd.def_ 22 (d := dd "can_tell" 49) rfl
  obtain ⟨fd_can_right, F_can_right⟩ := cd.def_ 23 (d := dd "can_right" 50) rfl
  obtain ⟨fd_contents_told, F_contents_told⟩ := cd.def_ 24 (d := dd "contents_told" 51) rfl
  obtain ⟨fd_fewest_wrong, F_fewest_wrong⟩ := cd.def_ 25 (d := dd "fewest_wrong" 52) rfl
  obtain ⟨fd_failing_rings, F_failing_rings⟩ := cd.def_ 26 (d := dd "failing_rings" 53) rfl
  obtain ⟨fd_in_order, F_in_order⟩ := cd.def_ 27 (d := dd "in_order" 55) rfl
  obtain ⟨fd_named_kinds, F_named_kinds⟩ := cd.def_ 28 (d := dd "named_kinds" 65) rfl
  obtain ⟨fd_mixed_kinds, F_mixed_kinds⟩ := cd.def_ 29 (d := dd "mixed_kinds" 66) rfl
  obtain ⟨fd_scheme_number, F_scheme_number⟩ := cd.def_ 30 (d := dd "scheme_number" 67) rfl
  obtain ⟨fd_scheme_told, F_scheme_told⟩ := cd.def_ 31 (d := dd "scheme_told" 68) rfl
  obtain ⟨fd_need_flood, F_need_flood⟩ := cd.def_ 32 (d := dd "need_flood" 75) rfl
  obtain ⟨fd_flood_lost_within, F_flood_lost_within⟩ := cd.def_ 33 (d := dd "flood_lost_within" 77) rfl
  obtain ⟨fd_flood_kept, F_flood_kept⟩ := cd.def_ 34 (d := dd "flood_kept" 78) rfl
  obtain ⟨fd_flood_family, F_flood_family⟩ := cd.def_ 35 (d := dd "flood_family" 79) rfl
  obtain ⟨fd_is_flood_scheme, F_is_flood_scheme⟩ := cd.def_ 36 (d := dd "is_flood_scheme" 81) rfl
  obtain ⟨fd_flood_schemes, F_flood_schemes⟩ := cd.def_ 37 (d := dd "flood_schemes" 82) rfl
  obtain ⟨fd_need_late, F_need_late⟩ := cd.def_ 38 (d := dd "need_late" 83) rfl
  obtain ⟨fd_late_lost_within, F_late_lost_within⟩ := cd.def_ 39 (d := dd "late_lost_within" 84) rfl
  obtain ⟨fd_late_kept, F_late_kept⟩ := cd.def_ 40 (d := dd "late_kept" 85) rfl
  obtain ⟨fd_l_taken, F_l_taken⟩ := cd.def_ 41 (d := dd "_law_taken" 87) rfl
  obtain ⟨fd_l_pick, F_l_pick⟩ := cd.def_ 42 (d := dd "_law_pick" 88) rfl
  obtain ⟨fd_l_error, F_l_error⟩ := cd.def_ 43 (d := dd "_law_error" 89) rfl
  obtain ⟨fd_law, F_law⟩ := cd.def_ 44 (d := dd "law" 90) rfl
  obtain ⟨fdi_BadLibrary, Fi_BadLibrary⟩ := cd.def_ 45 (d := ddm "BadLibrary" "__init__" "BadLibrary.__init__" 3 0) rfl
  have mi_BadLibrary := He.meth_ok (cd.fact 0 (f := .meth "BadLibrary" "__init__") rfl)
  have na_BadLibrary_part := He.noat_ok (cd.fact 1 (f := .noat "BadLibrary" "part") rfl)
  have m_is_number := He.glo_ok X G (cd.fact 2 (f := .glo "is_number") rfl)
  have m_is_row := He.glo_ok X G (cd.fact 3 (f := .glo "is_row") rfl)
  have m_need_library := He.glo_ok X G (cd.fact 4 (f := .glo "need_library") rfl)
  have m_need_most := He.glo_ok X G (cd.fact 5 (f := .glo "need_most") rfl)
  have m_mask_of := He.glo_ok X G (cd.fact 6 (f := .glo "mask_of") rfl)
  have m_tablet_of := He.glo_ok X G (cd.fact 7 (f := .glo "tablet_of") rfl)
  have m_masks_of := He.glo_ok X G (cd.fact 8 (f := .glo "masks_of") rfl)
  have m_total := He.glo_ok X G (cd.fact 9 (f := .glo "total") rfl)
  have m_span := He.glo_ok X G (cd.fact 10 (f := .glo "span") rfl)
  have m_has_all := He.glo_ok X G (cd.fact 11 (f := .glo "has_all") rfl)
  have m_left_of := He.glo_ok X G (cd.fact 12 (f := .glo "left_of") rfl)
  have m_rows_of := He.glo_ok X G (cd.fact 13 (f := .glo "rows_of") rfl)
  have m_sums_of := He.glo_ok X G (cd.fact 14 (f := .glo "sums_of") rfl)
  have m_is_tame := He.glo_ok X G (cd.fact 15 (f := .glo "is_tame") rfl)
  have m_is_fixed := He.glo_ok X G (cd.fact 16 (f := .glo "is_fixed") rfl)
  have m_need_sizes := He.glo_ok X G (cd.fact 17 (f := .glo "need_sizes") rfl)
  have m_sorted_rows := He.glo_ok X G (cd.fact 18 (f := .glo "sorted_rows") rfl)
  have m_all_schemes := He.glo_ok X G (cd.fact 19 (f := .glo "all_schemes") rfl)
  have m_is_bits := He.glo_ok X G (cd.fact 20 (f := .glo "is_bits") rfl)
  have m_need_bits := He.glo_ok X G (cd.fact 21 (f := .glo "need_bits") rfl)
  have m_shown := He.glo_ok X G (cd.fact 22 (f := .glo "shown") rfl)
  have m_need_wrong := He.glo_ok X G (cd.fact 23 (f := .glo "need_wrong") rfl)
  have m_can_tell := He.glo_ok X G (cd.fact 24 (f := .glo "can_tell") rfl)
  have m_can_right := He.glo_ok X G (cd.fact 25 (f := .glo "can_right") rfl)
  have m_contents_told := He.glo_ok X G (cd.fact 26 (f := .glo "contents_told") rfl)
  have m_fewest_wrong := He.glo_ok X G (cd.fact 27 (f := .glo "fewest_wrong") rfl)
  have m_failing_rings := He.glo_ok X G (cd.fact 28 (f := .glo "failing_rings") rfl)
  have m_in_order := He.glo_ok X G (cd.fact 29 (f := .glo "in_order") rfl)
  have m_named_kinds := He.glo_ok X G (cd.fact 30 (f := .glo "named_kinds") rfl)
  have m_mixed_kinds := He.glo_ok X G (cd.fact 31 (f := .glo "mixed_kinds") rfl)
  have m_scheme_number := He.glo_ok X G (cd.fact 32 (f := .glo "scheme_number") rfl)
  have m_scheme_told := He.glo_ok X G (cd.fact 33 (f := .glo "scheme_told") rfl)
  have m_need_flood := He.glo_ok X G (cd.fact 34 (f := .glo "need_flood") rfl)
  have m_flood_lost_within := He.glo_ok X G (cd.fact 35 (f := .glo "flood_lost_within") rfl)
  have m_flood_kept := He.glo_ok X G (cd.fact 36 (f := .glo "flood_kept") rfl)
  have m_flood_family := He.glo_ok X G (cd.fact 37 (f := .glo "flood_family") rfl)
  have m_is_flood_scheme := He.glo_ok X G (cd.fact 38 (f := .glo "is_flood_scheme") rfl)
  have m_flood_schemes := He.glo_ok X G (cd.fact 39 (f := .glo "flood_schemes") rfl)
  have m_need_late := He.glo_ok X G (cd.fact 40 (f := .glo "need_late") rfl)
  have m_late_lost_within := He.glo_ok X G (cd.fact 41 (f := .glo "late_lost_within") rfl)
  have m_late_kept := He.glo_ok X G (cd.fact 42 (f := .glo "late_kept") rfl)
  have m_l_taken := He.glo_ok X G (cd.fact 43 (f := .glo "_law_taken") rfl)
  have m_l_pick := He.glo_ok X G (cd.fact 44 (f := .glo "_law_pick") rfl)
  have m_l_error := He.glo_ok X G (cd.fact 45 (f := .glo "_law_error") rfl)
  have m_law := He.glo_ok X G (cd.fact 46 (f := .glo "law") rfl)
  have b_ValueError := He.free_ok X G (cd.fact 47 (f := .free "ValueError") rfl)
  have b_all := He.free_ok X G (cd.fact 48 (f := .free "all") rfl)
  have b_bool := He.free_ok X G (cd.fact 49 (f := .free "bool") rfl)
  have b_int := He.free_ok X G (cd.fact 50 (f := .free "int") rfl)
  have b_isinstance := He.free_ok X G (cd.fact 51 (f := .free "isinstance") rfl)
  have b_len := He.free_ok X G (cd.fact 52 (f := .free "len") rfl)
  have b_list := He.free_ok X G (cd.fact 53 (f := .free "list") rfl)
  have b_min := He.free_ok X G (cd.fact 54 (f := .free "min") rfl)
  have b_range := He.free_ok X G (cd.fact 55 (f := .free "range") rfl)
  have b_sorted := He.free_ok X G (cd.fact 56 (f := .free "sorted") rfl)
  have b_sum := He.free_ok X G (cd.fact 57 (f := .free "sum") rfl)
  have b_tuple := He.free_ok X G (cd.fact 58 (f := .free "tuple") rfl)
  have b_zip := He.free_ok X G (cd.fact 59 (f := .free "zip") rfl)
  obtain ⟨t_MOST_LATE, g_MOST_LATE⟩ := He.int_ok X G (cd.fact 60 (f := .int "MOST_LATE" 3) rfl)
  obtain ⟨t_MOST_MELTS, g_MOST_MELTS⟩ := He.int_ok X G (cd.fact 61 (f := .int "MOST_MELTS" 3) rfl)
  obtain ⟨t_MOST_SUM, g_MOST_SUM⟩ := He.int_ok X G (cd.fact 62 (f := .int "MOST_SUM" 3) rfl)
  obtain ⟨t_MOST_TABLETS, g_MOST_TABLETS⟩ := He.int_ok X G (cd.fact 63 (f := .int "MOST_TABLETS" 6) rfl)
  obtain ⟨t_MOST_TEXTS, g_MOST_TEXTS⟩ := He.int_ok X G (cd.fact 64 (f := .int "MOST_TEXTS" 3) rfl)
  obtain ⟨t_MOST_WRONG, g_MOST_WRONG⟩ := He.int_ok X G (cd.fact 65 (f := .int "MOST_WRONG" 6) rfl)
  have mx_BadDays := He.glo_ok X G (cd.fact 66 (f := .glo "BadDays") rfl)
  have mx_BadLibrary := He.glo_ok X G (cd.fact 67 (f := .glo "BadLibrary") rfl)
  have mx_BadMost := He.glo_ok X G (cd.fact 68 (f := .glo "BadMost") rfl)
  have mx_BadNumber := He.glo_ok X G (cd.fact 69 (f := .glo "BadNumber") rfl)
  have mx_BadShown := He.glo_ok X G (cd.fact 70 (f := .glo "BadShown") rfl)
  have mx_BadString := He.glo_ok X G (cd.fact 71 (f := .glo "BadString") rfl)
  have mx_BadTablet := He.glo_ok X G (cd.fact 72 (f := .glo "BadTablet") rfl)
  have mx_LibraryError := He.glo_ok X G (cd.fact 73 (f := .glo "LibraryError") rfl)
  have mx_NoScheme := He.glo_ok X G (cd.fact 74 (f := .glo "NoScheme") rfl)
  have fx_BadMost := He.exc_ok (cd.fact 75 (f := .exc "BadMost") rfl)
  have fx_BadNumber := He.exc_ok (cd.fact 76 (f := .exc "BadNumber") rfl)
  have fx_BadShown := He.exc_ok (cd.fact 77 (f := .exc "BadShown") rfl)
  have fx_NoScheme := He.exc_ok (cd.fact 78 (f := .exc "NoScheme") rfl)
  have e0 := hfa0.symm.trans m_law
  cases e0
  have b0 := FunD.bindsA (ps := ["_law_script"]) F_law fun _ _ _ _ _ _ us hl => match us, hl with | [_], _ => rfl
  refine ⟨fd_law, fun s v => b0 s [v] rfl, fun base hK0 hn0 TB0 => ?_⟩
  have e_BadLibrary : ErC P w K mg base 0 := ⟨oexB_ok (List.all_eq_true.mp ch3 "BadLibrary" (by decide)), mx_BadLibrary, (fun n hn => by have hn : n ∈ (["part"] : List Str) := hn; simp only [List.mem_cons, List.not_mem_nil, or_false] at hn; subst hn; exact na_BadLibrary_part), _, fdi_BadLibrary, ["self", "part"], mi_BadLibrary.at_, eq_of_beq mi_BadLibrary.fn, fn_ini1 Fi_BadLibrary (show FnScope ["self", "part"] ["self", "part"] (defScope (inClass (top 3) 0)) from ⟨rfl, rfl, rfl, by decide +kernel, rfl, by decide +kernel, by decide +kernel⟩) (.inl rfl) (.inl rfl), FunD.bindsN Fi_BadLibrary fun _ _ _ _ _ _ us hl => match us, hl with | [_, _], _ => rfl⟩
  have d_is_number := fun (T : TbT) (q1 : T.tb = (tbt K).tb) (q2 : T.lt = (tbt K).lt) => Mg.d_is_number (P := P) (w := w) (K := K) (mg := mg) (base := base) (Tb := T) F_is_number m_is_number b_bool b_int b_isinstance
  have d_is_row := fun (T : TbT) (q1 : T.tb = (tbt K).tb) (q2 : T.lt = (tbt K).lt) => Mg.d_is_row (P := P) (w := w) (K := K) (mg := mg) (base := base) (Tb := T) F_is_row m_is_row (d_is_number T q1 q2) b_all b_isinstance b_tuple b_zip (code_at F_is_row) (gTab (TB0 (He.cT K ("is_row", none)) (List.mem_map_of_mem (List.mem_append_left _ (show ((("is_row", none) : He.Defn) ∈ htfG) by decide))))) (memT T q1 q2 ("is_row", none) (by decide))
  have d_need_library := fun (T : TbT) (q1 : T.tb = (tbt K).tb) (q2 : T.lt = (tbt K).lt) => Mg.d_need_library (P := P) (w := w) (K := K) (mg := mg) (base := base) (Tb := T) F_need_library m_need_library (d_is_number T q1 q2) (d_is_row T q1 q2) b_all b_isinstance b_len b_tuple g_MOST_TABLETS g_MOST_TEXTS (code_at F_need_library) (gTab (TB0 (He.cT K ("need_library", none)) (List.mem_map_of_mem (List.mem_append_left _ (show ((("need_library", none) : He.Defn) ∈ htfG) by decide))))) (memT T q1 q2 ("need_library", none) (by decide)) mx_BadLibrary e_BadLibrary
  have d_need_most := fun (T : TbT) (q1 : T.tb = (tbt K).tb) (q2 : T.lt = (tbt K).lt) => Mg.d_need_most (P := P) (w := w) (K := K) (mg := mg) (base := base) (Tb := T) F_need_most m_need_most (d_is_number T q1 q2) g_MOST_SUM mx_BadMost fx_BadMost
  have d_mask_of := fun (T : TbT) (q1 : T.tb = (tbt K).tb) (q2 : T.lt = (tbt K).lt) => Mg.d_mask_of (P := P) (w := w) (K := K) (mg := mg) (base := base) (Tb := T) F_mask_of m_mask_of b_sum
  have d_tablet_of := fun (T : TbT) (q1 : T.tb = (tbt K).tb) (q2 : T.lt = (tbt K).lt) => Mg.d_tablet_of (P := P) (w := w) (K := K) (mg := mg) (base := base) (Tb := T) F_tablet_of m_tablet_of b_range b_tuple g_MOST_TEXTS
  have d_masks_of := fun (T : TbT) (q1 : T.tb = (tbt K).tb) (q2 : T.lt = (tbt K).lt) => Mg.d_masks_of (P := P) (w := w) (K := K) (mg := mg) (base := base) (Tb := T) F_masks_of m_masks_of (d_mask_of T q1 q2) b_tuple
  have d_total := fun (T : TbT) (q1 : T.tb = (tbt K).tb) (q2 : T.lt = (tbt K).lt) => Mg.d_total (P := P) (w := w) (K := K) (mg := mg) (base := base) (Tb := T) F_total m_total
  have d_span := fun (T : TbT) (q1 : T.tb = (tbt K).tb) (q2 : T.lt = (tbt K).lt) => Mg.d_span (P := P) (w := w) (K := K) (mg := mg) (base := base) (Tb := T) F_span m_span b_sorted
  have d_has_all := fun (T : TbT) (q1 : T.tb = (tbt K).tb) (q2 : T.lt = (tbt K).lt) => Mg.d_has_all (P := P) (w := w) (K := K) (mg := mg) (base := base) (Tb := T) F_has_all m_has_all (d_span T q1 q2) b_len
  have d_left_of := fun (T : TbT) (q1 : T.tb = (tbt K).tb) (q2 : T.lt = (tbt K).lt) => Mg.d_left_of (P := P) (w := w) (K := K) (mg := mg) (base := base) (Tb := T) F_left_of m_left_of
  have d_rows_of := fun (T : TbT) (q1 : T.tb = (tbt K).tb) (q2 : T.lt = (tbt K).lt) => Mg.d_rows_of (P := P) (w := w) (K := K) (mg := mg) (base := base) (Tb := T) F_rows_of m_rows_of b_len b_sorted
  have d_sums_of := fun (T : TbT) (q1 : T.tb = (tbt K).tb) (q2 : T.lt = (tbt K).lt) => Mg.d_sums_of (P := P) (w := w) (K := K) (mg := mg) (base := base) (Tb := T) F_sums_of m_sums_of (d_rows_of T q1 q2) (d_total T q1 q2) b_len b_list b_range
  have d_is_tame := fun (T : TbT) (q1 : T.tb = (tbt K).tb) (q2 : T.lt = (tbt K).lt) => Mg.d_is_tame (P := P) (w := w) (K := K) (mg := mg) (base := base) (Tb := T) F_is_tame m_is_tame (d_left_of T q1 q2) (d_sums_of T q1 q2)
  have d_is_fixed := fun (T : TbT) (q1 : T.tb = (tbt K).tb) (q2 : T.lt = (tbt K).lt) => Mg.d_is_fixed (P := P) (w := w) (K := K) (mg := mg) (base := base) (Tb := T) F_is_fixed m_is_fixed (d_has_all T q1 q2) (d_is_tame T q1 q2) b_all b_len b_range (code_at F_is_fixed) (gTab (TB0 (He.cT K ("is_fixed", none)) (List.mem_map_of_mem (List.mem_append_left _ (show ((("is_fixed", none) : He.Defn) ∈ htfG) by decide))))) (memT T q1 q2 ("is_fixed", none) (by decide))
  have d_need_sizes := fun (T : TbT) (q1 : T.tb = (tbt K).tb) (q2 : T.lt = (tbt K).lt) => Mg.d_need_sizes (P := P) (w := w) (K := K) (mg := mg) (base := base) (Tb := T) F_need_sizes m_need_sizes (d_is_number T q1 q2) (d_need_most T q1 q2) g_MOST_TABLETS g_MOST_TEXTS mx_BadNumber fx_BadNumber
  have d_sorted_rows := fun (T : TbT) (q1 : T.tb = (tbt K).tb) (q2 : T.lt = (tbt K).lt) => Mg.d_sorted_rows (P := P) (w := w) (K := K) (mg := mg) (base := base) (Tb := T) F_sorted_rows m_sorted_rows (d_tablet_of T q1 q2) b_range b_sorted
  have d_all_schemes := fun (T : TbT) (q1 : T.tb = (tbt K).tb) (q2 : T.lt = (tbt K).lt) => Mg.d_all_schemes (P := P) (w := w) (K := K) (mg := mg) (base := base) (Tb := T) F_all_schemes m_all_schemes (d_is_fixed T q1 q2) (d_sorted_rows T q1 q2)
  have d_is_bits := fun (T : TbT) (q1 : T.tb = (tbt K).tb) (q2 : T.lt = (tbt K).lt) => Mg.d_is_bits (P := P) (w := w) (K := K) (mg := mg) (base := base) (Tb := T) F_is_bits m_is_bits (d_is_number T q1 q2) b_all b_isinstance b_len b_tuple (code_at F_is_bits) (gTab (TB0 (He.cT K ("is_bits", none)) (List.mem_map_of_mem (List.mem_append_left _ (show ((("is_bits", none) : He.Defn) ∈ htfG) by decide))))) (memT T q1 q2 ("is_bits", none) (by decide))
  have d_need_bits := fun (T : TbT) (q1 : T.tb = (tbt K).tb) (q2 : T.lt = (tbt K).lt) => Mg.d_need_bits (P := P) (w := w) (K := K) (mg := mg) (base := base) (Tb := T) F_need_bits m_need_bits (d_is_bits T q1 q2) mx_BadShown fx_BadShown
  have d_shown := fun (T : TbT) (q1 : T.tb = (tbt K).tb) (q2 : T.lt = (tbt K).lt) => Mg.d_shown (P := P) (w := w) (K := K) (mg := mg) (base := base) (Tb := T) F_shown m_shown (d_need_bits T q1 q2) (d_need_library T q1 q2)
  have d_need_wrong := fun (T : TbT) (q1 : T.tb = (tbt K).tb) (q2 : T.lt = (tbt K).lt) => Mg.d_need_wrong (P := P) (w := w) (K := K) (mg := mg) (base := base) (Tb := T) F_need_wrong m_need_wrong (d_is_number T q1 q2) (d_need_library T q1 q2) g_MOST_WRONG mx_BadNumber fx_BadNumber
  have d_can_tell := fun (T : TbT) (q1 : T.tb = (tbt K).tb) (q2 : T.lt = (tbt K).lt) => Mg.d_can_tell (P := P) (w := w) (K := K) (mg := mg) (base := base) (Tb := T) F_can_tell m_can_tell (d_need_wrong T q1 q2)
  have d_can_right := fun (T : TbT) (q1 : T.tb = (tbt K).tb) (q2 : T.lt = (tbt K).lt) => Mg.d_can_right (P := P) (w := w) (K := K) (mg := mg) (base := base) (Tb := T) F_can_right m_can_right (d_need_wrong T q1 q2)
  have d_contents_told := fun (T : TbT) (q1 : T.tb = (tbt K).tb) (q2 : T.lt = (tbt K).lt) => Mg.d_contents_told (P := P) (w := w) (K := K) (mg := mg) (base := base) (Tb := T) F_contents_told m_contents_told (d_is_number T q1 q2) (d_need_bits T q1 q2) (d_need_library T q1 q2) b_len g_MOST_WRONG mx_BadNumber fx_BadNumber
  have d_fewest_wrong := fun (T : TbT) (q1 : T.tb = (tbt K).tb) (q2 : T.lt = (tbt K).lt) => Mg.d_fewest_wrong (P := P) (w := w) (K := K) (mg := mg) (base := base) (Tb := T) F_fewest_wrong m_fewest_wrong (d_need_bits T q1 q2) (d_need_library T q1 q2) b_len
  have d_failing_rings := fun (T : TbT) (q1 : T.tb = (tbt K).tb) (q2 : T.lt = (tbt K).lt) => Mg.d_failing_rings (P := P) (w := w) (K := K) (mg := mg) (base := base) (Tb := T) F_failing_rings m_failing_rings (d_need_bits T q1 q2) (d_need_library T q1 q2) (d_need_most T q1 q2) b_len
  have d_in_order := fun (T : TbT) (q1 : T.tb = (tbt K).tb) (q2 : T.lt = (tbt K).lt) => Mg.d_in_order (P := P) (w := w) (K := K) (mg := mg) (base := base) (Tb := T) F_in_order m_in_order (d_tablet_of T q1 q2) b_sorted b_tuple
  have d_named_kinds := fun (T : TbT) (q1 : T.tb = (tbt K).tb) (q2 : T.lt = (tbt K).lt) => Mg.d_named_kinds (P := P) (w := w) (K := K) (mg := mg) (base := base) (Tb := T) F_named_kinds m_named_kinds (d_need_sizes T q1 q2)
  have d_mixed_kinds := fun (T : TbT) (q1 : T.tb = (tbt K).tb) (q2 : T.lt = (tbt K).lt) => Mg.d_mixed_kinds (P := P) (w := w) (K := K) (mg := mg) (base := base) (Tb := T) F_mixed_kinds m_mixed_kinds (d_need_sizes T q1 q2)
  have d_scheme_number := fun (T : TbT) (q1 : T.tb = (tbt K).tb) (q2 : T.lt = (tbt K).lt) => Mg.d_scheme_number (P := P) (w := w) (K := K) (mg := mg) (base := base) (Tb := T) F_scheme_number m_scheme_number (d_in_order T q1 q2) (d_is_fixed T q1 q2) (d_masks_of T q1 q2) (d_need_library T q1 q2) (d_need_most T q1 q2) mx_NoScheme fx_NoScheme
  have d_scheme_told := fun (T : TbT) (q1 : T.tb = (tbt K).tb) (q2 : T.lt = (tbt K).lt) => Mg.d_scheme_told (P := P) (w := w) (K := K) (mg := mg) (base := base) (Tb := T) F_scheme_told m_scheme_told (d_all_schemes T q1 q2) (d_is_number T q1 q2) (d_need_sizes T q1 q2) b_len mx_BadNumber fx_BadNumber
  have d_need_flood := fun (T : TbT) (q1 : T.tb = (tbt K).tb) (q2 : T.lt = (tbt K).lt) => Mg.d_need_flood (P := P) (w := w) (K := K) (mg := mg) (base := base) (Tb := T) F_need_flood m_need_flood (d_is_number T q1 q2) (d_need_library T q1 q2) (d_need_most T q1 q2) b_len b_min g_MOST_MELTS mx_BadNumber fx_BadNumber
  have d_flood_lost_within := fun (T : TbT) (q1 : T.tb = (tbt K).tb) (q2 : T.lt = (tbt K).lt) => Mg.d_flood_lost_within (P := P) (w := w) (K := K) (mg := mg) (base := base) (Tb := T) F_flood_lost_within m_flood_lost_within (d_need_flood T q1 q2)
  have d_flood_kept := fun (T : TbT) (q1 : T.tb = (tbt K).tb) (q2 : T.lt = (tbt K).lt) => Mg.d_flood_kept (P := P) (w := w) (K := K) (mg := mg) (base := base) (Tb := T) F_flood_kept m_flood_kept (d_need_flood T q1 q2)
  have d_flood_family := fun (T : TbT) (q1 : T.tb = (tbt K).tb) (q2 : T.lt = (tbt K).lt) => Mg.d_flood_family (P := P) (w := w) (K := K) (mg := mg) (base := base) (Tb := T) F_flood_family m_flood_family (d_need_flood T q1 q2)
  have d_is_flood_scheme := fun (T : TbT) (q1 : T.tb = (tbt K).tb) (q2 : T.lt = (tbt K).lt) => Mg.d_is_flood_scheme (P := P) (w := w) (K := K) (mg := mg) (base := base) (Tb := T) F_is_flood_scheme m_is_flood_scheme (d_need_flood T q1 q2)
  have d_flood_schemes := fun (T : TbT) (q1 : T.tb = (tbt K).tb) (q2 : T.lt = (tbt K).lt) => Mg.d_flood_schemes (P := P) (w := w) (K := K) (mg := mg) (base := base) (Tb := T) F_flood_schemes m_flood_schemes (d_is_number T q1 q2) (d_need_sizes T q1 q2) b_min g_MOST_MELTS mx_BadNumber fx_BadNumber
  have d_need_late := fun (T : TbT) (q1 : T.tb = (tbt K).tb) (q2 : T.lt = (tbt K).lt) => Mg.d_need_late (P := P) (w := w) (K := K) (mg := mg) (base := base) (Tb := T) F_need_late m_need_late (d_is_number T q1 q2) (d_need_library T q1 q2) (d_need_most T q1 q2) b_len b_min g_MOST_LATE mx_BadNumber fx_BadNumber
  have d_late_lost_within := fun (T : TbT) (q1 : T.tb = (tbt K).tb) (q2 : T.lt = (tbt K).lt) => Mg.d_late_lost_within (P := P) (w := w) (K := K) (mg := mg) (base := base) (Tb := T) F_late_lost_within m_late_lost_within (d_need_late T q1 q2)
  have d_late_kept := fun (T : TbT) (q1 : T.tb = (tbt K).tb) (q2 : T.lt = (tbt K).lt) => Mg.d_late_kept (P := P) (w := w) (K := K) (mg := mg) (base := base) (Tb := T) F_late_kept m_late_kept (d_need_late T q1 q2)
  have d_l_taken := fun (T : TbT) (q1 : T.tb = (tbt K).tb) (q2 : T.lt = (tbt K).lt) => Mg.d_l_taken (P := P) (w := w) (K := K) (mg := mg) (base := base) (Tb := T) F_l_taken m_l_taken b_int b_len
  have d_l_pick := fun (T : TbT) (q1 : T.tb = (tbt K).tb) (q2 : T.lt = (tbt K).lt) => Mg.d_l_pick (P := P) (w := w) (K := K) (mg := mg) (base := base) (Tb := T) F_l_pick m_l_pick (d_l_taken T q1 q2) b_len
  exact Mg.ok_law (P := P) (w := w) (K := K) (mg := mg) (base := base) (Tb := (tbt K)) F_law m_law F_l_error m_l_error d_l_pick d_can_right d_can_tell d_contents_told d_failing_rings d_fewest_wrong d_flood_family d_flood_kept d_flood_lost_within d_flood_schemes d_is_flood_scheme d_late_kept d_late_lost_within d_mixed_kinds d_named_kinds d_scheme_number d_scheme_told d_shown b_ValueError b_isinstance EF (code_at F_law) (TB0 (He.cT K ("law", none)) (List.mem_map_of_mem (List.mem_append_right _ (List.mem_singleton.mpr rfl)))) (List.mem_singleton.mpr rfl) (fun p hp _ => by have hp : p ∈ [((He.cT K ("law", none)).2, ("law.<locals>.<lambda>" : Str))] := hp; rw [List.mem_singleton] at hp; rw [hp]) rfl rfl rfl mx_BadDays mx_BadLibrary mx_BadMost mx_BadNumber mx_BadShown mx_BadString mx_BadTablet mx_LibraryError mx_NoScheme
end Mg
end
/-! ## DErrL -/
section
set_option autoImplicit false
set_option linter.all false
set_option maxRecDepth 100000
set_option maxHeartbeats 2500000
/-! What a law with errors and lambdas tells, step by step: draws, comprehensions that call lambdas. -/
namespace Mg
theorem ners_ints : ∀ ns : List Int, D.ners (ns.map .int) = true
  | [] => rfl
  | n :: ns => by
    simp [D.ners, D.ner, ners_ints ns]
theorem ner_bk {ns : List Int} {st : Sto} (h : Bk ns st) : st.all Bx.ner = true := by
  obtain ⟨a, b, c, rfl, _⟩ := h
  simp [Bx.ner, D.ners, D.ner, ners_ints]
/-- x = pick(row, [..]) -/
theorem pick_ev {ns : List Int} {st : Sto} (h : Bk ns st) {r : Env} {i : Nat} {es : Exs} {l : List D} (hr : r[i]? = some (some (.box 0))) (he : ∀ st, es r st = .ok (l, st)) (hl : l ≠ [] := by simp) (hk2 : l.length < 1000000 := by decide) :
    ∃ (d : D) (st' : Sto), sFn s_l_pick (sCons (sVar i) (sCons (sLst es) sNil)) r st = .ok (d, st') ∧ d ∈ l ∧ Bk ns st' := by
  obtain ⟨d, st', e, h1, h2⟩ := pick_bk h hl hk2
  refine ⟨d, st', ?_, h1, h2⟩
  simp [sFn, sCallE, sCons, sNil, sVar, hr, sLst, he, e, Res.nx]
/-- no item is taken, the book goes on -/
theorem compL_none {ns : List Int} {i : Nat} {c : Tst} {e : Ex} {r : Env} : ∀ {ds : List D} {st : Sto}, Bk ns st → (∀ d ∈ ds, ∀ st, Bk ns st → ∃ st', c (r.set i (some d)) st = .ok (false, st') ∧ Bk ns st') → ∃ st', compL (.nm i) c e r [] ds st = .ok ([], st') ∧ Bk ns st'
  | [], st, h, _ => ⟨st, rfl, h⟩
  | d :: ds, st, h, k => by
    obtain ⟨st1, e1, h1⟩ := k d List.mem_cons_self st h
    obtain ⟨st2, e2, h2⟩ := compL_none (e := e) h1 fun d hd => k d (List.mem_cons_of_mem _ hd)
    refine ⟨st2, ?_, h2⟩
    simp only [compL, Tg.bind, e1, Res.nx, Res.ok_bind]
    exact e2
end Mg
namespace Mg
theorem x_cons {a : Ex} {b : Exs} {r : Env} {st st1 st2 : Sto} {d : D} {ds : List D} (h1 : a r st = .ok (d, st1)) (h2 : b r st1 = .ok (ds, st2)) : sCons a b r st = .ok (d :: ds, st2) := by
  unfold sCons
  rw [h1, Res.ok_bind]
  simp only [h2, Res.ok_bind]
theorem x_nil {r : Env} {st : Sto} : sNil r st = .ok ([], st) := id rfl
theorem x_tup {a : Exs} {r : Env} {st st1 : Sto} {ds : List D} (h : a r st = .ok (ds, st1)) : sTup a r st = .ok (.tup ds, st1) := by
  unfold sTup
  rw [h, Res.ok_bind]
theorem x_lst {a : Exs} {r : Env} {st st1 : Sto} {ds : List D} (h : a r st = .ok (ds, st1)) : sLst a r st = .ok (.lst ds, st1) := by
  unfold sLst
  rw [h, Res.ok_bind]
theorem x_call {f : List D → Sto → Res (D × Sto)} {a : Exs} {r : Env} {st st1 : Sto} {ds : List D} {m : Res (D × Sto)} (h : a r st = .ok (ds, st1)) (e : f ds st1 = m) : sCallE f a r st = m := by
  unfold sCallE
  rw [h, Res.ok_bind]
  exact e
theorem x_asg {t : Tg} {a : Ex} {r r' : Env} {st st1 : Sto} {d : D} (h : a r st = .ok (d, st1)) (hb : Tg.bind t d r = some r') : stAsg t a r st = .ok (.nx, r', st1) := by
  unfold stAsg
  rw [h, Res.ok_bind]
  simp only [hb]
theorem x_op2 {f : D → D → Option D} {a b : Ex} {r : Env} {st st1 st2 : Sto} {x y z : D} (h1 : a r st = .ok (x, st1)) (h2 : b r st1 = .ok (y, st2)) (hf : f x y = some z) : sOp2 f a b r st = .ok (z, st2) := by
  unfold sOp2
  rw [h1, Res.ok_bind]
  simp only [h2, Res.ok_bind, hf, Res.of_some]
theorem x_tru {a : Ex} {r : Env} {st st1 : Sto} {d : D} {b : Bool} (h : a r st = .ok (d, st1)) (hd : d.truth = some b) : tTru a r st = .ok (b, st1) := by
  unfold tTru
  rw [h, Res.ok_bind]
  simp only [hd]
theorem x_if {c : Tst} {a b : Stm} {r : Env} {st st1 : Sto} {x : Bool} {m : Res (Flow × Env × Sto)} (h : c r st = .ok (x, st1)) (e : (if x then a r st1 else b r st1) = m) : stIf c a b r st = m := by
  unfold stIf
  rw [h, Res.ok_bind]
  exact e
theorem x_ret {a : Ex} {r : Env} {st st1 : Sto} {d : D} (h : a r st = .ok (d, st1)) : stRet a r st = .ok (.rt d, r, st1) := by
  unfold stRet
  rw [h, Res.ok_bind]
theorem x_comp {vs : List Nat} {t : Tg} {w : Wk} {c : Tst} {e : Ex} {r : Env} {st st1 st2 : Sto} {ds es : List D} (h : w r st = .ok (ds, st1)) (h2 : compL t c e (wipeE r vs) [] ds st1 = .ok (es, st2)) : sComp vs t w c e r st = .ok (.lst es, st2) := by
  unfold sComp
  rw [h, Res.ok_bind]
  simp only [h2, Res.ok_bind]
theorem x_runE {n : Nat} {b : Stm} {ds : List D} {st st1 : Sto} {r : Env} {d : D} (h : b (ds.map some ++ List.replicate (n - ds.length) none) st = .ok (.rt d, r, st1)) : runE n b ds st = .ok (d, st1) := by
  unfold runE
  rw [h, Res.ok_bind]
end Mg
end
/-! ## K71A -/
section
set_option autoImplicit false
set_option linter.all false
set_option maxRecDepth 100000
set_option maxHeartbeats 0
/-! k71: what the law tells at every script. -/
namespace Mg
theorem err_ok {g : Nat → Sto → Res (D × Sto)} {k c : Nat} {fs : List D} {st st' : Sto} (h : g k st = .exn c fs st') (hc : c < 8) (hn : st'.all Bx.ner = true) : runE 4 (b_l_error g) [.fo k] st = .ok (.int c, st') := by
  have hn2 : (st'.all Bx.ner) = true := hn
  match c, hc with
  | 0, _ | 1, _ | 2, _ | 3, _ | 4, _ | 5, _ | 6, _ | 7, _ =>
    simp only [runE, b_l_error, stSeq, stAsg, sC, Res.ok_bind, Tg.bind, stTry, sAct, List.map_cons, List.map_nil, List.length_cons, List.length_nil, h]
    simp [List.contains, List.elem, stSeq, stAsg, sLst, sCons, sNil, sIsE, sVar, Tg.bind, sOp2, opAdd, line, Res.nx, sIte, tAnd, tTru, sLm1, bCountD, bIdx, cEq, sC, oner, D.ner, D.ners, stRet, D.plain, D.pl, D.dep, D.plains, D.pls, D.deps, D.eq, D.truth, stTry, sAct, h, List.countP, List.countP.go, List.findIdx?, List.findIdx?.go, List.all]
    rw [if_pos (List.all_eq_true.mp hn)]
    rfl
abbrev cap71 : List Nat := [1, 2, 3, 4, 5, 6, 8]
theorem errK_ok {r : Env} {st : Sto} {ns : List Int} {k c : Nat} {ψ : Exs} (hψ : ψ r st = .ok ([.fo k], st)) (hc : c < 8) (h : ∃ fs st', lam_law k (capE cap71 r) st = .exn c fs st' ∧ Bk ns st') : ∃ st', sErrK cap71 lam_law (fun g ds st => runE 4 (b_l_error g) ds st) ψ r st = .ok (.int c, st') ∧ Bk ns st' := by
  obtain ⟨fs, st', e, hb⟩ := h
  refine ⟨st', ?_, hb⟩
  unfold sErrK
  rw [hψ]
  simp only [Res.ok_bind]
  rw [err_ok (g := fun k st => lam_law k (capE cap71 r) st) e hc (ner_bk hb)]
  rfl
abbrev goodD : D := .tup [.int 2, .tup [.tup [.int 0], .tup [.int 1], .tup [.int 0, .int 1]]]
section
variable {a0 a2 a3 a4 a5 a6 a7 a8 a9 a10 : Option D} {st : Sto} {d : D}
theorem lam0 (h : d ∈ [D.non, .int 0, .int 4, .bl true]) : lam_law 0 (capE cap71 [a0, some (.box 0), a2, some goodD, some d, a5, a6, a7, a8, a9, a10]) st = .exn 4 [] st := by
  simp only [List.mem_cons, List.not_mem_nil, or_false] at h
  rcases h with rfl | rfl | rfl | rfl <;> kernel_rfl
theorem lam1 : lam_law 1 (capE cap71 [a0, some (.box 0), a2, some goodD, a4, a5, a6, a7, a8, a9, a10]) st = .exn 4 [] st := by kernel_rfl
theorem lam2 (h : d ∈ [D.non, .int 0, .int 4, .bl true]) : lam_law 2 (capE cap71 [a0, some (.box 0), a2, some goodD, some d, a5, a6, a7, a8, a9, a10]) st = .exn 4 [] st := by
  simp only [List.mem_cons, List.not_mem_nil, or_false] at h
  rcases h with rfl | rfl | rfl | rfl <;> kernel_rfl
theorem lam3 (h : d ∈ [D.non, .int 0, .int 4, .bl true]) : lam_law 3 (capE cap71 [a0, some (.box 0), a2, some goodD, some d, a5, a6, a7, a8, a9, a10]) st = .exn 4 [] st := by
  simp only [List.mem_cons, List.not_mem_nil, or_false] at h
  rcases h with rfl | rfl | rfl | rfl <;> kernel_rfl
theorem lam4 (h : d ∈ [D.non, .int (-1), .int 3, .bl true]) : lam_law 4 (capE cap71 [a0, some (.box 0), a2, some goodD, a4, some d, a6, a7, a8, a9, a10]) st = .exn 4 [] st := by
  simp only [List.mem_cons, List.not_mem_nil, or_false] at h
  rcases h with rfl | rfl | rfl | rfl <;> kernel_rfl
theorem lam5 : lam_law 5 (capE cap71 [a0, some (.box 0), a2, some goodD, a4, a5, a6, a7, a8, a9, a10]) st = .exn 4 [] st := by kernel_rfl
theorem lam6 (h : d ∈ [D.non, .int (-1), .int 7, .bl true]) : lam_law 6 (capE cap71 [a0, some (.box 0), a2, some goodD, a4, a5, some d, a7, a8, a9, a10]) st = .exn 4 [] st := by
  simp only [List.mem_cons, List.not_mem_nil, or_false] at h
  rcases h with rfl | rfl | rfl | rfl <;> kernel_rfl
theorem lam7 (h : d ∈ [D.non, .int (-1), .int 7, .bl true]) : lam_law 7 (capE cap71 [a0, some (.box 0), a2, some goodD, a4, a5, some d, a7, a8, a9, a10]) st = .exn 4 [] st := by
  simp only [List.mem_cons, List.not_mem_nil, or_false] at h
  rcases h with rfl | rfl | rfl | rfl <;> kernel_rfl
theorem lam8 (h : d ∈ [D.non, .int (-1), .int 7, .bl true]) : lam_law 8 (capE cap71 [a0, some (.box 0), a2, some goodD, a4, a5, some d, a7, a8, a9, a10]) st = .exn 4 [] st := by
  simp only [List.mem_cons, List.not_mem_nil, or_false] at h
  rcases h with rfl | rfl | rfl | rfl <;> kernel_rfl
theorem lam9 (h : d ∈ [D.non, .int (-1), .int 9, .bl true, .str [48]]) : lam_law 9 (capE cap71 [a0, some (.box 0), some d, some goodD, a4, a5, a6, a7, a8, a9, a10]) st = .exn 4 [] st := by
  simp only [List.mem_cons, List.not_mem_nil, or_false] at h
  rcases h with rfl | rfl | rfl | rfl | rfl <;> kernel_rfl
theorem lam10 (h : d ∈ [D.non, .int (-1), .int 9, .bl true, .str [48]]) : lam_law 10 (capE cap71 [a0, some (.box 0), some d, some goodD, a4, a5, a6, a7, a8, a9, a10]) st = .exn 4 [] st := by
  simp only [List.mem_cons, List.not_mem_nil, or_false] at h
  rcases h with rfl | rfl | rfl | rfl | rfl <;> kernel_rfl
theorem lam11 : lam_law 11 (capE cap71 [a0, some (.box 0), a2, some goodD, a4, a5, a6, a7, a8, a9, a10]) st = .exn 4 [] st := by kernel_rfl
theorem lam12 : lam_law 12 (capE cap71 [a0, some (.box 0), a2, some goodD, a4, a5, a6, a7, a8, a9, a10]) st = .exn 4 [] st := by kernel_rfl
theorem told13 (h : d ∈ [D.non, .int (-1), .int 1, .bl true]) : s_scheme_told [.int 2, .int 3, .int 2, d] st = .exn 4 [] st := by
  simp only [List.mem_cons, List.not_mem_nil, or_false] at h
  rcases h with rfl | rfl | rfl | rfl <;> kernel_rfl
theorem lam13 {ns : List Int} (hb : Bk ns st) : ∃ fs st', lam_law 13 (capE cap71 [a0, some (.box 0), a2, some goodD, a4, a5, a6, a7, a8, a9, a10]) st = .exn 4 fs st' ∧ Bk ns st' := by
  generalize hr : capE cap71 [a0, some (.box 0), a2, some goodD, a4, a5, a6, a7, a8, a9, a10] = r
  have h1 : r[1]? = some (some (.box 0)) := by rw [← hr]; kernel_rfl
  obtain ⟨d, st', e, hd, hb'⟩ := pick_ev hb (r := r) (i := 1) (es := sCons (sC .non) (sCons (sOp1 opNeg (sC (.int 1))) (sCons (sC (.int 1)) (sCons (sC (.bl true)) sNil)))) (l := [.non, .int (-1), .int 1, .bl true]) h1 fun st => rfl
  refine ⟨[], st', ?_, hb'⟩
  exact x_call (x_cons rfl (x_cons rfl (x_cons rfl (x_cons e x_nil)))) (told13 hd)
theorem lam14 : lam_law 14 (capE cap71 [a0, some (.box 0), a2, some goodD, a4, a5, a6, a7, a8, a9, a10]) st = .exn 4 [] st := by kernel_rfl
abbrev bitsL : List D := [.non, .tup [], .tup [.int 0], .tup [.int 0, .int 2, .int 0], .tup [.int 0, .bl true, .int 0], .lst [.int 0, .int 0, .int 0], .tup [.int 0, .int 0, .int 0, .int 0]]
theorem lam15 (h : d ∈ bitsL) : lam_law 15 (capE cap71 [a0, some (.box 0), a2, some goodD, a4, a5, a6, a7, some d, a9, a10]) st = .exn 6 [] st := by
  simp only [bitsL, List.mem_cons, List.not_mem_nil, or_false] at h
  rcases h with rfl | rfl | rfl | rfl | rfl | rfl | rfl <;> kernel_rfl
theorem lam16 (h : d ∈ bitsL) : lam_law 16 (capE cap71 [a0, some (.box 0), a2, some goodD, a4, a5, a6, a7, some d, a9, a10]) st = .exn 6 [] st := by
  simp only [bitsL, List.mem_cons, List.not_mem_nil, or_false] at h
  rcases h with rfl | rfl | rfl | rfl | rfl | rfl | rfl <;> kernel_rfl
theorem lam17 (h : d ∈ bitsL) : lam_law 17 (capE cap71 [a0, some (.box 0), a2, some goodD, a4, a5, a6, a7, some d, a9, a10]) st = .exn 6 [] st := by
  simp only [bitsL, List.mem_cons, List.not_mem_nil, or_false] at h
  rcases h with rfl | rfl | rfl | rfl | rfl | rfl | rfl <;> kernel_rfl
theorem lam18 (h : d ∈ bitsL) : lam_law 18 (capE cap71 [a0, some (.box 0), a2, some goodD, a4, a5, a6, a7, some d, a9, a10]) st = .exn 6 [] st := by
  simp only [bitsL, List.mem_cons, List.not_mem_nil, or_false] at h
  rcases h with rfl | rfl | rfl | rfl | rfl | rfl | rfl <;> kernel_rfl
theorem lam19 : lam_law 19 (capE cap71 [a0, some (.box 0), a2, some goodD, a4, a5, a6, a7, a8, a9, a10]) st = .exn 7 [] st := by kernel_rfl
end
end Mg
end
/-! ## K71Pure -/
section
set_option autoImplicit false
set_option linter.all false
set_option maxRecDepth 100000
set_option maxHeartbeats 0
namespace Mg
abbrev env11 (a0 a2 a3 a4 a5 a6 a7 a8 a9 a10 : Option D) : Env := [a0, some (.box 0), a2, a3, a4, a5, a6, a7, a8, a9, a10]
/-- the list of works: none ends otherwise -/
theorem works_ok {ns : List Int} {a0 a8 a9 a10 : Option D} {num melts late wrong : D} (hn : num ∈ [D.non, .int (-1), .int 9, .bl true, .str [48]]) (hm : melts ∈ [D.non, .int 0, .int 4, .bl true]) (hl : late ∈ [D.non, .int (-1), .int 3, .bl true]) (hw : wrong ∈ [D.non, .int (-1), .int 7, .bl true]) {a7 : Option D} :
    ∀ k < 15, ∀ st, Bk ns st → ∃ fs st', lam_law k (capE cap71 (env11 a0 (some num) (some goodD) (some melts) (some late) (some wrong) a7 a8 a9 a10)) st = .exn 4 fs st' ∧ Bk ns st' := by
  intro k hk st hb
  match k, hk with
  | 0, _ => exact ⟨[], st, lam0 hm, hb⟩
  | 1, _ => exact ⟨[], st, lam1, hb⟩
  | 2, _ => exact ⟨[], st, lam2 hm, hb⟩
  | 3, _ => exact ⟨[], st, lam3 hm, hb⟩
  | 4, _ => exact ⟨[], st, lam4 hl, hb⟩
  | 5, _ => exact ⟨[], st, lam5, hb⟩
  | 6, _ => exact ⟨[], st, lam6 hw, hb⟩
  | 7, _ => exact ⟨[], st, lam7 hw, hb⟩
  | 8, _ => exact ⟨[], st, lam8 hw, hb⟩
  | 9, _ => exact ⟨[], st, lam9 hn, hb⟩
  | 10, _ => exact ⟨[], st, lam10 hn, hb⟩
  | 11, _ => exact ⟨[], st, lam11, hb⟩
  | 12, _ => exact ⟨[], st, lam12, hb⟩
  | 13, _ => exact lam13 hb
  | 14, _ => exact ⟨[], st, lam14, hb⟩
section
variable {a0 a2 a3 a4 a5 a6 a7 a8 a9 a10 : Option D} {st : Sto}
theorem s3 : b_law3 (env11 a0 a2 a3 a4 a5 a6 a7 a8 a9 a10) st = .ok (.nx, env11 a0 a2 a3 a4 a5 a6 (some (.lst [.fo 0, .fo 1])) a8 a9 a10, st) := by kernel_rfl
theorem s4 : b_law4 (env11 a0 a2 a3 a4 a5 a6 (some (.lst [.fo 0, .fo 1])) a8 a9 a10) st = .ok (.nx, env11 a0 a2 a3 a4 a5 a6 (some (.lst [.fo 0, .fo 1, .fo 2, .fo 3])) a8 a9 a10, st) := by kernel_rfl
theorem s5 : b_law5 (env11 a0 a2 a3 a4 a5 a6 (some (.lst [.fo 0, .fo 1, .fo 2, .fo 3])) a8 a9 a10) st = .ok (.nx, env11 a0 a2 a3 a4 a5 a6 (some (.lst [.fo 0, .fo 1, .fo 2, .fo 3, .fo 4, .fo 5])) a8 a9 a10, st) := by kernel_rfl
theorem s6 : b_law6 (env11 a0 a2 a3 a4 a5 a6 (some (.lst [.fo 0, .fo 1, .fo 2, .fo 3, .fo 4, .fo 5])) a8 a9 a10) st = .ok (.nx, env11 a0 a2 a3 a4 a5 a6 (some (.lst [.fo 0, .fo 1, .fo 2, .fo 3, .fo 4, .fo 5, .fo 6, .fo 7])) a8 a9 a10, st) := by kernel_rfl
theorem s7 : b_law7 (env11 a0 a2 a3 a4 a5 a6 (some (.lst [.fo 0, .fo 1, .fo 2, .fo 3, .fo 4, .fo 5, .fo 6, .fo 7])) a8 a9 a10) st = .ok (.nx, env11 a0 a2 a3 a4 a5 a6 (some (.lst [.fo 0, .fo 1, .fo 2, .fo 3, .fo 4, .fo 5, .fo 6, .fo 7, .fo 8, .fo 9])) a8 a9 a10, st) := by kernel_rfl
theorem s8 : b_law8 (env11 a0 a2 a3 a4 a5 a6 (some (.lst [.fo 0, .fo 1, .fo 2, .fo 3, .fo 4, .fo 5, .fo 6, .fo 7, .fo 8, .fo 9])) a8 a9 a10) st = .ok (.nx, env11 a0 a2 a3 a4 a5 a6 (some (.lst [.fo 0, .fo 1, .fo 2, .fo 3, .fo 4, .fo 5, .fo 6, .fo 7, .fo 8, .fo 9, .fo 10])) a8 a9 a10, st) := by kernel_rfl
theorem s9 : b_law9 (env11 a0 a2 a3 a4 a5 a6 (some (.lst [.fo 0, .fo 1, .fo 2, .fo 3, .fo 4, .fo 5, .fo 6, .fo 7, .fo 8, .fo 9, .fo 10])) a8 a9 a10) st = .ok (.nx, env11 a0 a2 a3 a4 a5 a6 (some (.lst [.fo 0, .fo 1, .fo 2, .fo 3, .fo 4, .fo 5, .fo 6, .fo 7, .fo 8, .fo 9, .fo 10, .fo 11, .fo 12])) a8 a9 a10, st) := by kernel_rfl
theorem s10 : b_law10 (env11 a0 a2 a3 a4 a5 a6 (some (.lst [.fo 0, .fo 1, .fo 2, .fo 3, .fo 4, .fo 5, .fo 6, .fo 7, .fo 8, .fo 9, .fo 10, .fo 11, .fo 12])) a8 a9 a10) st = .ok (.nx, env11 a0 a2 a3 a4 a5 a6 (some (.lst [.fo 0, .fo 1, .fo 2, .fo 3, .fo 4, .fo 5, .fo 6, .fo 7, .fo 8, .fo 9, .fo 10, .fo 11, .fo 12, .fo 13])) a8 a9 a10, st) := by kernel_rfl
theorem s11 : b_law11 (env11 a0 a2 a3 a4 a5 a6 (some (.lst [.fo 0, .fo 1, .fo 2, .fo 3, .fo 4, .fo 5, .fo 6, .fo 7, .fo 8, .fo 9, .fo 10, .fo 11, .fo 12, .fo 13])) a8 a9 a10) st = .ok (.nx, env11 a0 a2 a3 a4 a5 a6 (some (.lst [.fo 0, .fo 1, .fo 2, .fo 3, .fo 4, .fo 5, .fo 6, .fo 7, .fo 8, .fo 9, .fo 10, .fo 11, .fo 12, .fo 13, .fo 14])) a8 a9 a10, st) := by kernel_rfl
end
theorem pure_law (ns : List Int) (h : ns.length ≤ 63) : ∃ st', s_law [.lst (ns.map .int)] [] = .ok (.bl true, st') := by
  let S : D := .lst (ns.map .int)
  have hb0 : Bk ns [bk ns 0 11411 0] := ⟨0, 11411, 0, rfl, by omega⟩
  obtain ⟨num, st1, e1, hn, hb1⟩ := pick_ev hb0 (r := env11 (some S) none none none none none none none none none) (i := 1) (es := sCons (sC .non) (sCons (sOp1 opNeg (sC (.int 1))) (sCons (sC (.int 9)) (sCons (sC (.bl true)) (sCons (sC (.str [48])) sNil))))) (l := [.non, .int (-1), .int 9, .bl true, .str [48]]) rfl fun _ => rfl
  obtain ⟨melts, st2, e2, hm, hb2⟩ := pick_ev hb1 (r := env11 (some S) (some num) (some goodD) none none none none none none none) (i := 1) (es := sCons (sC .non) (sCons (sC (.int 0)) (sCons (sC (.int 4)) (sCons (sC (.bl true)) sNil)))) (l := [.non, .int 0, .int 4, .bl true]) rfl fun _ => rfl
  obtain ⟨late, st3, e3, hl, hb3⟩ := pick_ev hb2 (r := env11 (some S) (some num) (some goodD) none none none none none none none) (i := 1) (es := sCons (sC .non) (sCons (sOp1 opNeg (sC (.int 1))) (sCons (sC (.int 3)) (sCons (sC (.bl true)) sNil)))) (l := [.non, .int (-1), .int 3, .bl true]) rfl fun _ => rfl
  obtain ⟨wrong, st4, e4, hw, hb4⟩ := pick_ev hb3 (r := env11 (some S) (some num) (some goodD) none none none none none none none) (i := 1) (es := sCons (sC .non) (sCons (sOp1 opNeg (sC (.int 1))) (sCons (sC (.int 7)) (sCons (sC (.bl true)) sNil)))) (l := [.non, .int (-1), .int 7, .bl true]) rfl fun _ => rfl
  let W : D := .lst [.fo 0, .fo 1, .fo 2, .fo 3, .fo 4, .fo 5, .fo 6, .fo 7, .fo 8, .fo 9, .fo 10, .fo 11, .fo 12, .fo 13, .fo 14]
  obtain ⟨st5, e5, hb5⟩ := compL_none (i := 10) (c := tTru (sOp2 cNe (sErrK cap71 lam_law (fun g ds st => runE 4 (b_l_error g) ds st) (sCons (sVar 10) sNil)) (sC (.int 4)))) (e := sVar 10) (r := env11 (some S) (some num) (some goodD) (some melts) (some late) (some wrong) (some W) none none none)
    (ds := [.fo 0, .fo 1, .fo 2, .fo 3, .fo 4, .fo 5, .fo 6, .fo 7, .fo 8, .fo 9, .fo 10, .fo 11, .fo 12, .fo 13, .fo 14]) hb4 (by
      intro d hd st hb
      obtain ⟨k, rfl, hk⟩ : ∃ k, d = .fo k ∧ k < 15 := by
        simp only [List.mem_cons, List.not_mem_nil, or_false] at hd
        rcases hd with rfl | rfl | rfl | rfl | rfl | rfl | rfl | rfl | rfl | rfl | rfl | rfl | rfl | rfl | rfl <;> exact ⟨_, rfl, by decide⟩
      obtain ⟨st', e, hb'⟩ := errK_ok (r := env11 (some S) (some num) (some goodD) (some melts) (some late) (some wrong) (some W) none none (some (.fo k))) (ψ := sCons (sVar 10) sNil) (k := k) (c := 4) rfl (by decide) (works_ok hn hm hl hw k hk st hb)
      exact ⟨st', x_tru (x_op2 (y := .int 4) (z := .bl false) e rfl rfl) rfl, hb'⟩)
  obtain ⟨bits, st6, e6, hbits, hb6⟩ := pick_ev hb5 (r := env11 (some S) (some num) (some goodD) (some melts) (some late) (some wrong) (some W) none none none) (i := 1) (es := sCons (sC .non) (sCons (sTup (sNil)) (sCons (sTup (sCons (sC (.int 0)) sNil)) (sCons (sTup (sCons (sC (.int 0)) (sCons (sC (.int 2)) (sCons (sC (.int 0)) sNil)))) (sCons (sTup (sCons (sC (.int 0)) (sCons (sC (.bl true)) (sCons (sC (.int 0)) sNil)))) (sCons (sLst (sCons (sC (.int 0)) (sCons (sC (.int 0)) (sCons (sC (.int 0)) sNil)))) (sCons (sOp2 opRep (sTup (sCons (sC (.int 0)) sNil)) (sC (.int 4))) sNil))))))) (l := bitsL) rfl fun _ => rfl
  let R8 : Env := env11 (some S) (some num) (some goodD) (some melts) (some late) (some wrong) (some W) (some bits) none none
  obtain ⟨st7, e7, hb7⟩ := errK_ok (r := R8) (ψ := sCons (sC (.fo 15)) sNil) (k := 15) (c := 6) (st := st6) rfl (by decide) ⟨[], st6, lam15 hbits, hb6⟩
  obtain ⟨st8, e8, hb8⟩ := errK_ok (r := R8) (ψ := sCons (sC (.fo 16)) sNil) (k := 16) (c := 6) (st := st7) rfl (by decide) ⟨[], st7, lam16 hbits, hb7⟩
  obtain ⟨st9, e9, hb9⟩ := errK_ok (r := env11 (some S) (some num) (some goodD) (some melts) (some late) (some wrong) (some W) (some bits) (some (.lst [.int 6, .int 6])) none) (ψ := sCons (sC (.fo 17)) sNil) (k := 17) (c := 6) (st := st8) rfl (by decide) ⟨[], st8, lam17 hbits, hb8⟩
  obtain ⟨st10, e10, hb10⟩ := errK_ok (r := env11 (some S) (some num) (some goodD) (some melts) (some late) (some wrong) (some W) (some bits) (some (.lst [.int 6, .int 6, .int 6])) none) (ψ := sCons (sC (.fo 18)) sNil) (k := 18) (c := 6) (st := st9) rfl (by decide) ⟨[], st9, lam18 hbits, hb9⟩
  obtain ⟨st11, e11, hb11⟩ := errK_ok (r := env11 (some S) (some num) (some goodD) (some melts) (some late) (some wrong) (some W) (some bits) (some (.lst [.int 6, .int 6, .int 6, .int 6])) none) (ψ := sCons (sC (.fo 19)) sNil) (k := 19) (c := 7) (st := st10) rfl (by decide) ⟨[], st10, lam19, hb10⟩
  refine ⟨st11, ?_⟩
  show runE 11 b_law [S] [] = _
  refine x_runE (r := env11 (some S) (some num) (some goodD) (some melts) (some late) (some wrong) (some W) (some bits) (some (.lst [.int 6, .int 6, .int 6, .int 6, .int 7])) none) ?_
  refine (seq_nx (r' := env11 (some S) none none none none none none none none none) (st' := [bk ns 0 11411 0]) rfl).trans ?_
  refine (seq_nx (r' := env11 (some S) (some num) (some goodD) none none none none none none none) (x_asg (x_tup (x_cons e1 (x_cons rfl x_nil))) rfl)).trans ?_
  refine (seq_nx (r' := env11 (some S) (some num) (some goodD) (some melts) (some late) (some wrong) none none none none) (x_asg (x_tup (x_cons e2 (x_cons e3 (x_cons e4 x_nil)))) rfl)).trans ?_
  refine (seq_nx s3).trans ?_
  refine (seq_nx s4).trans ?_
  refine (seq_nx s5).trans ?_
  refine (seq_nx s6).trans ?_
  refine (seq_nx s7).trans ?_
  refine (seq_nx s8).trans ?_
  refine (seq_nx s9).trans ?_
  refine (seq_nx s10).trans ?_
  refine (seq_nx s11).trans ?_
  refine (seq_nx (x_if (x_tru (x_op2 (x_comp rfl e5) rfl rfl) rfl) rfl)).trans ?_
  refine (seq_nx (x_asg e6 rfl)).trans ?_
  refine (seq_nx (x_asg (x_lst (x_cons e7 (x_cons e8 x_nil))) rfl)).trans ?_
  refine (seq_nx (x_asg (x_op2 rfl (x_lst (x_cons e9 x_nil)) rfl) rfl)).trans ?_
  refine (seq_nx (x_asg (x_op2 rfl (x_lst (x_cons e10 x_nil)) rfl) rfl)).trans ?_
  refine (seq_nx (x_asg (x_op2 rfl (x_lst (x_cons e11 x_nil)) rfl) rfl)).trans ?_
  exact x_ret (x_op2 rfl rfl rfl)
end Mg
end
/-! ## K71End -/
section
set_option Elab.async false
set_option linter.all false
set_option maxRecDepth 100000
set_option maxHeartbeats 0
open PySem PySem.W PySem.Calls PyProof.Rows
theorem PySem.Challenge.cw_meltlibrary_k71_numbers_and_rows_refused_holds : PySem.Challenge.rw_meltlibrary_k71_numbers_and_rows_refused.Holds := by
  w_on; o_law
  refine HandSHeadRun.head_any (r := OpenLaw.row PySem.Challenge.rw_meltlibrary_k71_numbers_and_rows_refused) (q := view (OpenLaw.row PySem.Challenge.rw_meltlibrary_k71_numbers_and_rows_refused).prog [90]) (H := Mg.hhk) (ob := Mg.hob) (M := 20000) (loose := Mg.hloose) (d := HandSHeadRun.topDef (OpenLaw.row PySem.Challenge.rw_meltlibrary_k71_numbers_and_rows_refused).prog 90) (kwd := []) Mg.hob_eq
    (by kernel_rfl) (fun s => by kernel_rfl) Mg.hrun (by kernel_rfl) (by kernel_rfl) (by kernel_rfl) (by rfl) (by first | assumption | decide +kernel) (by decide +kernel) ⟨rfl, rfl, rfl, rfl, rfl, by decide +kernel⟩ ?hw ?hc
  case hw => w_witness2
  case hc =>
    refine LamX.walk_ofTsE (l := PySem.Challenge.rw_meltlibrary_k71_numbers_and_rows_refused) (n := 63) (k := 10) (x := "_law_script") (CX := fun _ => L2.CX0) rfl (by decide) (by kernel_rfl) ⟨rfl, by decide, by decide⟩ ?F (fun _ _ _ _ _ z => z)
    intro w mg fa h Y G hmg0
    obtain ⟨K, KX, c⟩ := Y
    have hmg : mg ("law" : PySem.Str) = some (.ref fa) := by
      have e : (HandSHeadRun.topDef (OpenLaw.row PySem.Challenge.rw_meltlibrary_k71_numbers_and_rows_refused).prog 90).name = ("law" : PySem.Str) := by kernel_rfl
      rw [← e]
      exact hmg0
    obtain ⟨fd, hb, hF⟩ := Mg.facts (P := (PySem.Challenge.rw_meltlibrary_k71_numbers_and_rows_refused).prog) (w := w) KX G hmg c
    exact ⟨K, KX, fd, Mg.htf.map (He.cT K), _,
      (fun p hp => by obtain ⟨q, hq, e⟩ := List.mem_map.mp hp; rw [← e]; exact c.empty q hq),
      (fun p hp => by obtain ⟨q, hq, e⟩ := List.mem_map.mp hp; rw [← e]; exact c.out q hq),
      (fun p hp => by obtain ⟨q, hq, e⟩ := List.mem_map.mp hp; rw [← e]; exact codeHd_of_K KX (c.hd q hq)), hb,
      (fun H a ns hl _ hT hS => Mg.sp_lawV (Tb := Mg.tbt K) (Mg.pure_law ns hl)
        (fun p hp => by
          obtain ⟨q, hq, e⟩ := List.mem_map.mp hp
          obtain ⟨z, hz, e2⟩ := List.mem_map.mp hq
          rw [← e, ← e2]
          exact hT _ (List.mem_map_of_mem (List.mem_append_left _ hz)))
        (fun p hp => by
          have hp : p ∈ [((He.cT K ("law", none)).2, ("law.<locals>.<lambda>" : PySem.Str))] := hp
          rw [List.mem_singleton] at hp
          rw [hp]
          exact hT _ (List.mem_map_of_mem (List.mem_append_right _ (List.mem_singleton.mpr rfl)))) rfl hS), fun base h1 h2 h3 => hF base h1 h2 fun p hp => ⟨(h3 p hp).code, (h3 p hp).bm, (h3 p hp).gP⟩⟩
end
