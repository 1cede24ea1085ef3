import PyProof.Rows.All
import Wide.All
import OpenK.AllK
import Wide.FinOn
import HandS.ForMost
import HandS.ForExc
import HandS.GenList
import HandS.Lambda
import PyProof.GenArm
import PyProof.GenQ
import HandS.SetFor
import HandS.Strs
import HandS.IsInst
import HandS.TupAny
import HandS.Zip
import HandS.Property
import HandS.ExcIs
import HandS.ExcInit
import HandS.ExcField
import HandS.ExcOwn
import KE.KExcIs
import HandS.EndTab
import PySem.Challenge.RW_dyeworks_k08_whole_benches
set_option linter.all false
set_option Elab.async false
set_option maxRecDepth 100000
set_option maxHeartbeats 4000000
namespace Dy
open PySem PySem.Spec PyProof.Rows L2 GenW
/-! ### the frame of a generator expression -/
def gCells (X : Cx) (scope : Scope) (C : Addr) : List (Str × Addr) := cellsFrom (C + 1) scope.names (cloFrom X.env.cells scope.names [])
def gEnv (X : Cx) (scope : Scope) (C : Addr) (code : Value) : Env :=
  newEnv scope C X.env.globals (gCells X scope C) (X.env.qual ++ "<genexpr>.") none code none builtinsNs
abbrev gFr : Obj := { cls := .type "frame", data := .dict #[] }
theorem newEnv_gen {M : Model} {A : Around} {E : Value → Shared → Prop} {s : Shared} {scope : Scope} {globals : Addr} {closure : List (Str × Addr)} {it : Value} {qual : Str} {code : Value} {bi : Addr} {Q : Env → Shared → Prop}
    (hk : scope.kind = .function) (h0 : scope.names.lookup (".0" : Str) = some NameKind.local)
    (h : ∀ h', h'.Ns s.heap.objs.size (fun y => if y = (".0" : Str) then some it else none) → Heap.SameBut s.heap.objs.size (pushCells (s.heap.push gFr) scope.names) h' →
      Q (newEnv scope s.heap.objs.size globals (cellsFrom (s.heap.objs.size + 1) scope.names closure) qual none code none bi) { s with heap := h', toks := s.toks + 1 }) :
    wpAny M A (newFunctionEnv scope globals closure [(".0", it)] qual none code none bi) Q E s := by
  simp only [newFunctionEnv, Option.isSome_none, Bool.false_eq_true, if_false]
  refine wpAny_bind (wpAny_alloc ?_)
  refine wpAny_bind (wpAny_layCells _ (fun name kind cells => by cases hkc : kind == NameKind.cell <;> simp [hkc]) _ _ _ _ ?_)
  rw [show ({ s with heap := s.heap.push gFr } : Shared).heap.objs.size = s.heap.objs.size + 1 from Heap.size_push ..]
  rw [List.forIn_cons]
  refine wpAny_bind (wpAny_bind (wpAny_bind (wpAny_storeName_local (env := newEnv scope s.heap.objs.size globals (cellsFrom (s.heap.objs.size + 1) scope.names closure) qual none code none bi) (m := fun _ => none) h0 ?_ (fun h' hn hs => wpAny_pure ?_) ?_)))
  · exact (Heap.Ns.new s.heap (.type "frame")).keeps (pushCells_keeps _ _)
  · show wpAny _ _ (forIn [] _ _) _ _ _
    rw [List.forIn_nil]
    exact wpAny_pure (wpAny_pure (h h' hn hs))
  · show (scope.kind == .class || (scope.kind == .module && _)) = false
    rw [hk]; rfl

/-- the context of its element: entered at sB (the state ahead of the frame), the iterator's objects at fp -/
abbrev gCx (X : Cx) (A : Around) (scope : Scope) (code : Value) (sB : Shared) (HB : Hp) (fp : List Addr) (pn : List (Addr × Obj)) : Cx :=
  { X with A := A.deeper (gEnv X scope sB.heap.objs.size code), s_0 := sB, H_0 := HB, env := gEnv X scope sB.heap.objs.size code, outer := X.stack, stack := gEnv X scope sB.heap.objs.size code :: X.stack, ex := fp,
           fn := fun x => scope.names.lookup x == some .cell, calm := true, pn := pn, xe := fun _ _ => False }
section
variable {X : Cx} {pins : List (Addr × Obj)} {σ : L2.St} {H HB : Hp} {s sB : Shared}
theorem gen_start {A : Around} {scope : Scope} {own : List (Str × Nat)} {code : Value} {fp : List Addr} {pn : List (Addr × Obj)} {h5 : Heap} {g5 : Array GenState} {tk : Nat} {m : Str → Option Value}
    (I : Inv X pins σ HB sB) (ok : BlkOk X.N X.env.scope scope own) (hN : X.N.Nodup) (hA : A.handled = none) (hAf : A.frames = some X.stack)
    (hfp : ∀ b ∈ fp, FpOk X pins HB b ∧ b < sB.heap.objs.size)
    (kp : ∀ b o, b ≠ sB.heap.objs.size → (pushCells (sB.heap.push gFr) scope.names).get? b = some o → h5.get? b = some o) (hns : h5.Ns sB.heap.objs.size m)
    (hpn : ∀ p ∈ pn, h5.get? p.1 = some p.2 ∧ HB p.1 = none ∧ p.1 ≠ sB.heap.objs.size ∧ p.1 ∉ frs X.stack ∧ ∀ v, p.2.data ≠ .cell v) (hg : AllBare g5) :
    Inv (gCx X A scope code sB HB fp pn) [] (wipe σ (own.map (·.2))) HB { sB with heap := h5, gens := g5, toks := tk } := by
  have hfree : ∀ y ∈ scope.names, y.2 = .free → ∃ c, X.env.cells.lookup y.1 = some c := fun y hy e => by
    rcases ok.free y hy e with k | k
    · exact I.ok.has _ (.inl k)
    · exact I.ok.has _ (.inr k)
  have k0 : ∀ b o, sB.heap.get? b = some o → h5.get? b = some o := fun b o e => kp b o (Nat.ne_of_lt (Heap.lt_size e)) (pushCells_keeps _ _ _ _ (Heap.get?_push_of_some _ e))
  have cm : ∀ {y c}, (y, c) ∈ cloFrom X.env.cells scope.names [] → X.env.cells.lookup y = some c ∧ c < sB.heap.objs.size := fun {y c} hm => by
    rcases cloFrom_mem hm with hm | ⟨h1, rfl⟩
    · cases hm
    · obtain ⟨c, hc⟩ := hfree _ h1 rfl
      rw [hc]
      obtain ⟨w, z⟩ := I.cell _ _ hc
      exact ⟨rfl, z.lt⟩
  have esz : (sB.heap.push gFr).objs.size = sB.heap.objs.size + 1 := Heap.size_push ..
  have ecl : gCells X scope sB.heap.objs.size = cellsFrom (sB.heap.push gFr).objs.size scope.names (cloFrom X.env.cells scope.names []) := by rw [esz]; rfl
  have mem : ∀ {y c}, (gCells X scope sB.heap.objs.size).lookup y = some c → (X.env.cells.lookup y = some c ∧ c < sB.heap.objs.size) ∨ (sB.heap.objs.size + 1 ≤ c ∧ (y, NameKind.cell) ∈ scope.names ∧ h5.IsCell c none) := fun {y c} e => by
    rw [ecl] at e
    rcases cells_mem (PySem.mem_of_lookup e) with hm | ⟨h1, h2, h3⟩
    · exact .inl (cm hm)
    · rw [esz] at h2
      obtain ⟨o, ho, hd⟩ := h3
      exact .inr ⟨h2, h1, o, kp c o (Nat.ne_of_gt h2) ho, hd⟩
  have look : ∀ {y}, scope.names.lookup y = some .free → ∃ c, (gCells X scope sB.heap.objs.size).lookup y = some c ∧ X.env.cells.lookup y = some c := fun {y} hl => by
    have hy : (y, NameKind.free) ∈ scope.names := PySem.mem_of_lookup hl
    obtain ⟨c', e'⟩ := mem_lookup (cells_acc (names := scope.names) (n := sB.heap.objs.size + 1) (cloFrom_has (cells := X.env.cells) (acc := []) hy))
    refine ⟨c', e', ?_⟩
    rcases mem (y := y) (c := c') e' with ⟨h1, _⟩ | ⟨_, h1, _⟩
    · exact h1
    · have := ok.uniq _ h1
      rw [hl] at this; cases this
  have okG : (gCx X A scope code sB HB fp pn).Ok := by
    refine ⟨I.ok.mod, ok.kind, I.ok.glob, rfl, Nat.le_refl _, fun y z c e1 e2 => ?_, fun y hy => ?_, fun y c z e => ?_, fun _ => hA, Around.frames_deeper hAf, .inr ⟨rfl, rfl⟩, fun b hb => ⟨Nat.ne_of_lt (hfp b hb).2, fun y c e z => ?_⟩, I.bs, Nat.le_trans I.ok.bsz I.sz, fun b o e hb => ?_, fun b hb z => ?_, I.stack, I.stkFree⟩
    · have e1 : (gCells X scope sB.heap.objs.size).lookup y = some c := e1
      have e2 : (gCells X scope sB.heap.objs.size).lookup z = some c := e2
      rw [ecl] at e1 e2
      refine cells_inj (fun p hp => ?_) (fun y z c a b => I.ok.inj y z c (cm a).1 (cm b).1) (PySem.mem_of_lookup e1) (PySem.mem_of_lookup e2)
      rw [esz]
      exact Nat.lt_succ_of_lt (cm (y := p.1) (c := p.2) hp).2
    · show ∃ c, (gCells X scope sB.heap.objs.size).lookup y = some c
      have hy : scope.names.lookup y = some .cell ∨ scope.names.lookup y = some .free := hy
      rcases hy with e | e
      · obtain ⟨c, hm⟩ := cells_has (n := sB.heap.objs.size + 1) (acc := cloFrom X.env.cells scope.names []) (PySem.mem_of_lookup e)
        exact mem_lookup hm
      · obtain ⟨c, h1, _⟩ := look e
        exact ⟨c, h1⟩
    · have z : (scope.names.lookup y == some NameKind.cell) = true := z
      have z : scope.names.lookup y = some .cell := by simpa using z
      have e : (gCells X scope sB.heap.objs.size).lookup y = some c := e
      rw [ecl] at e
      rcases cells_mem (PySem.mem_of_lookup e) with hm | ⟨_, h2, _⟩
      · rcases cloFrom_mem hm with hm | ⟨h1, _⟩
        · cases hm
        · have q := ok.uniq _ h1
          rw [z] at q; cases q
      · rw [esz] at h2
        exact Nat.le_of_succ_le h2
    · rcases mem (y := y) (c := c) e with ⟨h1, _⟩ | ⟨h1, _⟩
      · exact (hfp b hb).1.2.2.2.2.1 y c h1 z
      · have h2 : sB.heap.objs.size + 1 ≤ b := by rw [← z]; exact h1
        exact absurd (Nat.lt_of_lt_of_le (hfp b hb).2 (Nat.le_of_succ_le h2)) (Nat.lt_irrefl _)
    · rcases (hfp b hb).1.2.2.2.1 with z | z
      · exact I.ok.noex b o e z
      · exact absurd (Nat.lt_of_lt_of_le (Heap.lt_size e) (Nat.le_trans I.ok.bsz z)) (Nat.lt_irrefl _)
    · rcases List.mem_cons.mp (I.stkSub b z) with z | z
      · exact (hfp b hb).1.2.1 z
      · exact (hfp b hb).1.2.2.1 z
  refine ⟨okG, rfl, hg, Un.kept k0, ⟨m, hns, fun i y av e1 e2 e3 => ?_⟩, fun y c e => ?_, I.hok.fresh (Nat.le_refl _), fun y c e => ?_, fun p hp => ?_, I.hok.kept k0, by rw [wipe_length]; exact I.len⟩
  · obtain ⟨e2, hne⟩ := wipe_some e2
    have no : ∀ k, scope.names.lookup y = some k → ¬ (k = .local ∨ k = .cell) := fun k e hh => by
      rcases ok.own _ (PySem.mem_of_lookup e) hh with e' | e'
      · obtain ⟨p, hp, hpy⟩ := List.mem_map.mp e'
        have e3 := ok.ix p hp
        have : p.1 = y := hpy
        rw [this] at e3
        exact hne (List.mem_map.mpr ⟨p, hp, nodup_ix hN e3 e1⟩)
      · exact e' (List.mem_of_getElem? e1)
    have e3 : Vis scope y := e3
    have hfr : scope.names.lookup y = some .free := by
      rcases e3 with e3 | e3 | e3
      · exact absurd (.inl rfl) (no _ e3)
      · exact absurd (.inr rfl) (no _ e3)
      · exact e3
    obtain ⟨m1, hn, hl⟩ := I.loc
    have hvis : Vis X.env.scope y := (ok.free _ (PySem.mem_of_lookup hfr) rfl).elim (fun k => .inr (.inl k)) (fun k => .inr (.inr k))
    obtain ⟨w, r, q⟩ := hl i y av e1 e2 hvis
    refine ⟨w, r, .inr ⟨.inr hfr, ?_⟩⟩
    obtain ⟨c, h1, h2⟩ := look hfr
    rcases q with ⟨k, _⟩ | ⟨_, c', e', z⟩
    · have k : X.env.scope.names.lookup y = some .local := k
      rcases ok.free _ (PySem.mem_of_lookup hfr) rfl with k' | k' <;> rw [show X.env.scope.names.lookup y = _ from k'] at k <;> cases k
    · rw [h2] at e'; cases e'
      exact ⟨c, h1, z.keeps k0⟩
  · rcases mem (y := y) (c := c) e with ⟨h1, _⟩ | ⟨_, _, z⟩
    · obtain ⟨w, z⟩ := I.cell y c h1
      exact ⟨w, z.keeps k0⟩
    · exact ⟨_, z⟩
  · rcases mem (y := y) (c := c) e with ⟨h1, _⟩ | ⟨h1, _⟩
    · exact I.freeC y c h1
    · exact I.hok.fresh (Nat.le_of_succ_le h1)
  · have hp : p ∈ pn := by simpa using hp
    exact hpn p hp
end
end Dy
set_option Elab.async false
set_option maxRecDepth 100000
set_option maxHeartbeats 4000000
namespace Dy
open PySem PySem.Spec PyProof.Rows L2 GenW
abbrev gExp (elt tg iter : Expr) (scope : Scope) (gpos : Pos) : Expr := .GeneratorExp elt [⟨tg, iter, [], 0⟩] scope gpos
/-- while a generator sleeps: all objects stay -/
structure Rest (s s' : Shared) : Prop where
  os : s'.os = s.os
  bare : AllBare s'.gens
  keep : ∀ b o, s.heap.get? b = some o → s'.heap.get? b = some o
theorem Inv.rest {X : Cx} {pins : List (Addr × Obj)} {σ : L2.St} {H : Hp} {s s' : Shared} (I : Inv X pins σ H s) (r : Rest s s') : Inv X pins σ H s' :=
  I.call' (ch := []) r.os (Un.kept r.keep) (I.hok.kept r.keep) r.bare fun b z => absurd z (by simp)
/-- its end, its items: seen from the frame that made it -/
def gR (X : Cx) (pins : List (Addr × Obj)) (σ : L2.St) (Qe : Hp → Prop) : GenEnd := fun _ _ r s1 => r = .ok .next ∧ ∃ H', Inv X pins σ H' s1 ∧ Qe H'
def gY (X : Cx) (pins : List (Addr × Obj)) (σ : L2.St) (a : Addr) (g : Nat) (stopV : Bool) (Qs : Hp → Prop) : Protocol := fun _ _ v s1 kap =>
  ∃ b H', v = .bool b ∧ Inv X pins σ H' s1 ∧ s1.heap.IsGen a g ∧ (b = stopV → Qs H') ∧ (b ≠ stopV → ∀ s'', Rest s1 s'' → kap (.send .none) s'')
section
variable {X : Cx} {pins : List (Addr × Obj)} {σ : L2.St} {HB : Hp} {sB : Shared}
theorem over_loop_gen {B : Around} {elt tg iter : Expr} {scope : Scope} {gpos : Pos} {it acc : Value} {env : Env} :
    B.over (.compLoop (gExp elt tg iter scope gpos) 0 it acc env) [] = B.deeper env := by
  first
    | rfl
    | (obtain ⟨hd, d, fr, gs, u⟩ := B; simp [gExp, Around.over, Around.deeper, marksOver, frameCount, unitsOf, envsOf, guardsOf, pushEnvs, pushGuards, Code.envs, Code.env?, Code.isFrame, Code.guards, Code.isGuard, Code.weight, Code.frames, Code.isCreation, Code.isCaller, Code.cUnits])
theorem over_start_gen {B : Around} {elt tg iter : Expr} {scope : Scope} {gpos : Pos} {it acc : Value} {env : Env} :
    B.over (.compStart (gExp elt tg iter scope gpos) 0 it acc env) [] = B.deeper env := by
  first
    | rfl
    | (obtain ⟨hd, d, fr, gs, u⟩ := B; simp [gExp, Around.over, Around.deeper, marksOver, frameCount, unitsOf, envsOf, guardsOf, pushEnvs, pushGuards, Code.envs, Code.env?, Code.isFrame, Code.guards, Code.isGuard, Code.weight, Code.frames, Code.isCreation, Code.isCaller, Code.cUnits])

theorem seg_gen {B : Around} {elt tg iter : Expr} {scope : Scope} {gpos : Pos} {code : Value} {fp : List Addr} {vs : List Nat} {a it : Addr} {g : Nat} {go : Obj} {stopV : Bool} {Qe Qs : Hp → Prop} {J : It} {tn : Nat → Heap → Prop} {gt : TG} {te : TE} {W : Nat → Nat → Hp → Prop}
    (IB : Inv X pins σ HB sB) (hfp : ∀ b ∈ fp, FpOk X pins HB b) (hco : scope.isCoroutine = false) (hgo : ∀ h : Heap, h.get? a = some go → h.IsGen a g) (haf : a ∉ fp)
    (T : Turn X.prog X.w X.K tg J fp it tn)
    (pg : PG (gCx X B scope code sB HB fp [(a, go)]) tg gt) (pe : PE (gCx X B scope code sB HB fp [(a, go)]) elt te)
    (turn : ∀ i m H, W i m H → (J.stop i H ∧ Qe H) ∨ (J.go i H ∧ 0 < m ∧ ∀ x H', J.yld i H x H' → gt x (wipe σ vs) H' fun σ2 H2 => wipe σ2 vs = wipe σ vs ∧ te σ2 H2 fun y H3 =>
      ∃ b, y = .bl b ∧ (b = stopV → Qs H3) ∧ (b ≠ stopV → ∃ m', m' < m ∧ W (i + 1) m' H3))) :
    ∀ (m n i : Nat) (s₀ s : Shared) (H : Hp), m ≤ n → Inv (gCx X B scope code sB HB fp [(a, go)]) [] (wipe σ vs) H s → tn i s.heap → (∀ b ∈ fp, H b = none) → W i m H →
      Seg (model X.prog X.w) B (gR X pins σ Qe) (gY X pins σ a g stopV Qs) n s₀ (.compLoop (gExp elt tg iter scope gpos) 0 (.ref it) .none (gEnv X scope sB.heap.objs.size code))
        ((model X.prog X.w).den (.compLoop (gExp elt tg iter scope gpos) 0 (.ref it) .none (gEnv X scope sB.heap.objs.size code))) [] s := by
  have back : ∀ {ps : List (Addr × Obj)} {σ' : L2.St} {H' : Hp} {s' : Shared}, Inv (gCx X B scope code sB HB fp [(a, go)]) ps σ' H' s' → Inv X pins σ H' s' := fun {ps σ' H' s'} I' =>
    IB.call' (ch := fp) I'.os I'.base I'.hok I'.bare fun b hb => ⟨(hfp b hb).2.2.2.1, (hfp b hb).2.1, (hfp b hb).2.2.2.2.1, (hfp b hb).2.2.2.2.2⟩
  have stat : ∀ {σ' : L2.St} {H' : Hp} {s' : Shared}, Inv (gCx X B scope code sB HB fp [(a, go)]) [] σ' H' s' → (∀ b ∈ fp, H' b = none) → ∀ b ∈ fp, FpOk (gCx X B scope code sB HB fp [(a, go)]) [] H' b := fun {σ' H' s'} I' hn b hb => by
    refine ⟨hn b hb, (I'.ok.exf b hb).1, I'.ok.exfs b hb, .inl hb, fun x c e => (I'.ok.exf b hb).2 x c e, fun p hp z => ?_⟩
    have hp : p = (a, go) := by simpa using hp
    rw [hp] at z
    have z : a = b := z
    exact haf (z ▸ hb)
  intro m
  induction m using Nat.strongRecOn with
  | ind m ih =>
    intro n i s₀ s H hmn I st fr w
    show Seg _ B _ _ _ s₀ _ ((compTurn (gExp elt tg iter scope gpos) 0 (.ref it) .none (gEnv X scope sB.heap.objs.size code)).onRaise (leaving (gEnv X scope sB.heap.objs.size code))) [] s
    rw [compTurn_gen, Sem.onRaise_eq_wrap]
    refine seg_bind_wrap (wpAny_standAt ?_)
    rcases turn i m H w with ⟨stop, q⟩ | ⟨go', hm0, step⟩
    · refine seg_bind_wrap ?_
      rw [over_loop_gen]
      refine thn (T.done (gCx X B scope code sB HB fp [(a, go)]) rfl rfl rfl rfl i [] s (wipe σ vs) H _ I (stat I fr) st stop) fun r s1 ⟨hr, I1⟩ => ?_
      subst hr
      exact seg_end (.ok .next) ⟨rfl, H, back I1, q⟩
    · refine seg_bind_wrap ?_
      rw [over_loop_gen]
      refine thn (T.item (gCx X B scope code sB HB fp [(a, go)]) rfl rfl rfl rfl i [] s (wipe σ vs) H _ I (stat I fr) st go') fun r s1 ⟨u, hr, h1⟩ => ?_
      subst hr
      refine seg_bind_wrap ?_
      rw [over_loop_gen]
      refine thn h1 fun _ s2 ⟨x, H2, I2, r2, y2, st2, fr2⟩ => ?_
      have I2' := I2.pinned (stat I2 fr2) (T.obj _ _ st2)
      refine seg_bind_wrap ?_
      rw [over_loop_gen]
      refine thnF (pg.run _ s2 (wipe σ vs) H2 x u _ I2' r2 (step x H2 y2)) fun _ s3 ⟨σ3, H3, I3, hw3, q3⟩ => ?_
      refine seg_bind_wrap (wpAny_of_eq (a := true) (by rfl) ?_)
      simp only [if_true]
      have hy : ∀ v, yieldOut (gEnv X scope sB.heap.objs.size code) v = yieldValue v := fun v => by
        have hco' : (gEnv X scope sB.heap.objs.size code).scope.isCoroutine = false := hco
        simp only [yieldOut, hco', Bool.false_eq_true, if_false]
      simp only [hy]
      rw [Sem.bind_eq_wrap', Sem.bind_eq_wrap', Sem.wrap_wrap, Sem.wrap_wrap]
      refine seg_wrap ?_
      rw [over_loop_gen]
      refine thnF (pe.run _ s3 σ3 H3 _ I3 q3) fun yv s4 ⟨y, H4, I4, r4, b, hy4, hs4, hg4⟩ => ?_
      subst hy4
      obtain rfl : yv = Value.bool b := r4
      have ga : s4.heap.IsGen a g := hgo _ (I4.pin (a, go) (List.mem_append_left _ (List.mem_singleton.mpr rfl))).1
      have pin' : ∀ c ∈ fp, ∀ o, s2.heap.get? c = some o → s4.heap.get? c = some o ∧ H4 c = none := fun c hc o e =>
        let z := I4.pin (c, o) (List.mem_append_right _ (List.mem_append_right _ (mem_pinsAt hc e)))
        ⟨z.1, z.2.1⟩
      have hl : (wipe σ vs).length = σ3.length := by rw [← hw3, wipe_length]
      have I5 : Inv (gCx X B scope code sB HB fp [(a, go)]) [] (wipe σ vs) H4 s4 := (I4.unpinned (pins := [])).weak hl fun j v e => by
        rw [← hw3] at e
        exact (wipe_some e).1
      obtain ⟨n, rfl⟩ : ∃ k, n = k + 1 := ⟨n - 1, by omega⟩
      refine seg_at (seg_yield rfl rfl rfl ⟨b, H4, rfl, back I5, ga, hs4, fun hb s5 hr => ?_⟩)
      obtain ⟨m', hm', w'⟩ := hg4 hb
      refine seg_again rfl (ih m' hm' n (i + 1) s5 s5 H4 (by omega) (Dy.Inv.rest I5 hr) (T.keep _ _ _ st2 fun c hc o e => hr.keep _ _ (pin' c hc o e).1) (fun c hc => ?_) w')
      obtain ⟨o, e, _⟩ := T.obj _ _ st2 c hc
      exact (pin' c hc o e).2
end
end Dy
set_option Elab.async false
set_option maxRecDepth 100000
set_option maxHeartbeats 4000000
namespace Dy
open PySem PySem.Spec PyProof.Rows L2 GenW
section
variable {X : Cx} {pins : List (Addr × Obj)} {σ : L2.St} {a : Addr} {g : Nat} {stopV : Bool} {Qe Qs : Hp → Prop}
/-- the generator at a may be asked; n: at most so many items more -/
def GReady (X : Cx) (pins : List (Addr × Obj)) (σ : L2.St) (a : Addr) (g : Nat) (stopV : Bool) (Qe Qs : Hp → Prop) (n : Nat) (s : Shared) : Prop :=
  s.heap.IsGen a g ∧ (∃ H', Inv X pins σ H' s) ∧ ∃ gs, s.gens[g]? = some gs ∧ gs.Goes (model X.prog X.w) X.A.in1.in1 (gR X pins σ Qe) (gY X pins σ a g stopV Qs) n (.send .none) (s.setGen g .running)
theorem rest_setGen {s : Shared} {x : GenState} (h : AllBare s.gens) (hx : x.bare = true) : Rest s (s.setGen g x) :=
  ⟨rfl, allBare_setGen h hx, fun _ _ e => e⟩
theorem next_ready {n : Nat} {s : Shared} (hh : X.A.handled = none) (hd : X.A.depth < recursionLimit) (h : GReady X pins σ a g stopV Qe Qs n s) :
    wpAny (model X.prog X.w) X.A.in1 (pyNext (.ref a)) (fun r s' => (r = none ∧ ∃ H', Inv X pins σ H' s' ∧ Qe H') ∨
      ∃ b, r = some (.bool b) ∧ (b = stopV → ∃ H', Inv X pins σ H' s' ∧ Qs H') ∧ (b ≠ stopV → ∃ n', n' < n ∧ GReady X pins σ a g stopV Qe Qs n' s')) (fun _ _ => False) s := by
  obtain ⟨hg, ⟨H0, I0⟩, gs, hgs, hgo⟩ := h
  have hgl : g < s.gens.size := (Array.getElem?_eq_some_iff.mp hgs).1
  refine wpAny_gsz (n := g + 1) hgl (wpAny_pyNext_genexpQ (P := fun _ _ s1 => ∃ H', Inv X pins σ H' s1 ∧ Qe H') hh I0.nolimit hd hg hgs hgo (fun v s₁ gs' hb hv => ?_) (fun s₁ hp h' hk => ?_))
  · intro hsz
    obtain ⟨b, H', rfl, I1, hg1, hs1, hkap⟩ := hv
    have hsz1 : g < s₁.gens.size := by
      have q : (s₁.setGen g gs').gens.size = s₁.gens.size := setGen_size _ _ _
      omega
    have r1 : Rest s₁ (s₁.setGen g gs') := rest_setGen I1.bare hb
    refine .inr ⟨b, rfl, fun e => ⟨H', Dy.Inv.rest I1 r1, hs1 e⟩, fun e => ?_⟩
    cases n with
    | zero => exact False.elim (hkap e s₁ ⟨rfl, I1.bare, fun _ _ e => e⟩)
    | succ m =>
      refine ⟨m, Nat.lt_succ_self m, hg1, ⟨H', Dy.Inv.rest I1 r1⟩, gs', setGen_at hsz1, ?_⟩
      exact hkap e _ ⟨rfl, allBare_setGen (allBare_setGen I1.bare hb) rfl, fun _ _ e => e⟩
  · intro _
    obtain ⟨H', I1, q⟩ := hp
    exact .inl ⟨rfl, H', Dy.Inv.rest I1 ⟨rfl, allBare_setGen I1.bare rfl, hk⟩, q⟩

theorem all_loop {R : Result → Shared → Prop} (hh : X.A.handled = none) (hd : X.A.depth < recursionLimit)
    (he : ∀ s' H', Inv X pins σ H' s' → Qe H' → R (.ok (.ret (.bool true))) s') (hs : ∀ s' H', Inv X pins σ H' s' → Qs H' → R (.ok (.ret (.bool false))) s') :
    ∀ (n : Nat) (s : Shared), GReady X pins σ a g false Qe Qs n s → codeAny (model X.prog X.w) X.A (.builtin "all.loop" ⟨[.ref a], []⟩) R s := by
  intro n
  induction n using Nat.strongRecOn with
  | ind n ih =>
    intro s h
    refine codeAny_builtin F.entry_all_loop ?_
    rw [Around.under_plainId F.plain_all_loop _]
    show wpAny _ X.A.in1 (pyNext (.ref a) >>= _) _ _ s
    refine wpAny_bind (thnF (next_ready hh hd h) fun r s' hr => ?_)
    rcases hr with ⟨rfl, H', I', q⟩ | ⟨b, rfl, h1, h2⟩
    · exact wpAny_bind (wpAny_rule (wpAny_pure (he s' H' I' q)))
    · refine wpAny_bind (wpAny_holding (wpAny_truthy_bool ?_))
      refine wpAny_bind (wpAny_letGo ?_)
      cases b with
      | true =>
        simp only [if_true]
        obtain ⟨n', hn, hr⟩ := h2 (by decide)
        exact wpAny_pure ⟨plainId_quiet F.plain_all_loop _, ih n' hn s' hr⟩
      | false =>
        simp only [Bool.false_eq_true, if_false]
        obtain ⟨H', I', q⟩ := h1 rfl
        exact wpAny_bind (wpAny_rule (wpAny_pure (hs s' H' I' q)))
theorem any_loop {R : Result → Shared → Prop} (hh : X.A.handled = none) (hd : X.A.depth < recursionLimit)
    (he : ∀ s' H', Inv X pins σ H' s' → Qe H' → R (.ok (.ret (.bool false))) s') (hs : ∀ s' H', Inv X pins σ H' s' → Qs H' → R (.ok (.ret (.bool true))) s') :
    ∀ (n : Nat) (s : Shared), GReady X pins σ a g true Qe Qs n s → codeAny (model X.prog X.w) X.A (.builtin "any.loop" ⟨[.ref a], []⟩) R s := by
  intro n
  induction n using Nat.strongRecOn with
  | ind n ih =>
    intro s h
    refine codeAny_builtin F.entry_any_loop ?_
    rw [Around.under_plainId F.plain_any_loop _]
    show wpAny _ X.A.in1 (pyNext (.ref a) >>= _) _ _ s
    refine wpAny_bind (thnF (next_ready hh hd h) fun r s' hr => ?_)
    rcases hr with ⟨rfl, H', I', q⟩ | ⟨b, rfl, h1, h2⟩
    · exact wpAny_bind (wpAny_rule (wpAny_pure (he s' H' I' q)))
    · refine wpAny_bind (wpAny_holding (wpAny_truthy_bool ?_))
      refine wpAny_bind (wpAny_letGo ?_)
      cases b with
      | false =>
        simp only [Bool.false_eq_true, if_false]
        obtain ⟨n', hn, hr⟩ := h2 (by decide)
        exact wpAny_pure ⟨plainId_quiet F.plain_any_loop _, ih n' hn s' hr⟩
      | true =>
        simp only [if_true]
        obtain ⟨H', I', q⟩ := h1 rfl
        exact wpAny_bind (wpAny_rule (wpAny_pure (hs s' H' I' q)))
end
/-- the code object of a generator expression comes -/
def PCode (X : Cx) (gpos : Pos) (scope : Scope) (tc : Hp → (Value → Hp → Prop) → Prop) : Prop :=
  ∀ (pins : List (Addr × Obj)) (s : Shared) (σ : L2.St) (H : Hp) (R : Value → Hp → Prop), Inv X pins σ H s → tc H R →
    wpAny (model X.prog X.w) X.A (genexprCode X.env gpos (X.env.qual ++ "<genexpr>") scope) (fun code s' => ∃ H', Inv X pins σ H' s' ∧ R code H') X.xe s
/-- all(..), any(..): stopV is what ends it early -/
def tGen (stopV : Bool) (wi : TI) (tc : Hp → (Value → Hp → Prop) → Prop) (gt : TG) (te : Value → TE) (vs : List Nat) : TE := fun σ H Q => wi σ H fun J H1 => tc H1 fun code H2 => ∃ W : Nat → Nat → Hp → Prop, (∃ m, W 0 m H2) ∧
  ∀ i m H, W i m H → (J.stop i H ∧ Q (.bl (!stopV)) H) ∨ (J.go i H ∧ 0 < m ∧ ∀ x H', J.yld i H x H' → gt x (wipe σ vs) H' fun σ2 H2 => wipe σ2 vs = wipe σ vs ∧ te code σ2 H2 fun y H3 =>
    ∃ b, y = .bl b ∧ (b = stopV → Q (.bl stopV) H3) ∧ (b ≠ stopV → ∃ m', m' < m ∧ W (i + 1) m' H3))
section
variable {X : Cx}
theorem gen_make {pins : List (Addr × Obj)} {σ : L2.St} {H : Hp} {s : Shared} {Q : VK} {k : Nat} {P₀ : Addr} {stopV : Bool} {elt tg iter : Expr} {scope : Scope} {gpos : Pos} {own : List (Str × Nat)} {wi : TI} {tc : Hp → (Value → Hp → Prop) → Prop} {gt : TG} {te : Value → TE}
    (hr : Room (k + 3) X.A) (hN : X.N.Nodup) (hi : PI X tg iter wi) (ok : BlkOk X.N X.env.scope scope own) (h0 : scope.names.lookup (".0" : Str) = some NameKind.local) (hco : scope.isCoroutine = false) (BM : X.base.BuiltinsAt X.mg P₀) (hcd : PCode X gpos scope tc)
    (hpg : ∀ (B : Around) (code : Value) (sB : Shared) (HB : Hp) (fp : List Addr) (pn : List (Addr × Obj)), PG (gCx X B scope code sB HB fp pn) tg gt)
    (hpe : ∀ (B : Around) (code : Value) (sB : Shared) (HB : Hp) (fp : List Addr) (pn : List (Addr × Obj)), Room k (B.deeper (gEnv X scope sB.heap.objs.size code)) → PE (gCx X B scope code sB HB fp pn) elt (te code))
    (hs : ∀ v, genFold iter X.env v = pure v) (I : Inv X pins σ H s) (h : tGen stopV wi tc gt te (own.map (·.2)) σ H Q) :
    wpAny (model X.prog X.w) X.A (eval (gExp elt tg iter scope gpos) X.env) (fun u s' => ∃ a g n, u = .ref a ∧ GReady X pins σ a g stopV (Q (.bl (!stopV))) (Q (.bl stopV)) n s') X.xe s := by
  have hfree : ∀ y ∈ scope.names, y.2 = .free → ∃ c, X.env.cells.lookup y.1 = some c := fun y hy e => by
    rcases ok.free y hy e with k | k
    · exact I.ok.has _ (.inl k)
    · exact I.ok.has _ (.inr k)
  unfold gExp
  rw [eval_GeneratorExp1 _ _ _ _ _ _ _ hco, closure_ok hfree]
  refine wpAny_bind (thn (hi.run pins s σ H _ I h) fun xv s1 h1 => ?_)
  refine wpAny_bind (wpAny_standAt ?_)
  refine wpAny_bind (wpAny_of_eq (hs xv) ?_)
  refine wpAny_bind (wpAny_holding (thn h1 fun itv s2 h2 => ?_))
  obtain ⟨it, fp, tn, J, H2, rfl, I2, T, st2, f2, q⟩ := h2
  refine wpAny_bind (wpAny_enterFrame I2.nolimit hr.depth ?_)
  refine wpAny_bind (wpAny_pure ?_)
  have I2' := I2.pinned f2 (T.obj _ _ st2)
  refine wpAny_bind (thn (hcd _ s2 σ H2 _ I2' q) fun code s3 ⟨H3, I3', q3⟩ => ?_)
  have pin' : ∀ c ∈ fp, ∀ o, s2.heap.get? c = some o → s3.heap.get? c = some o ∧ H3 c = none := fun c hc o e =>
    let z := I3'.pin (c, o) (List.mem_append_right _ (List.mem_append_right _ (mem_pinsAt hc e)))
    ⟨z.1, z.2.1⟩
  have I3 : Inv X pins σ H3 s3 := I3'.unpinned
  have st3 : tn 0 s3.heap := T.keep _ _ _ st2 fun c hc o e => (pin' c hc o e).1
  have f3 : ∀ b ∈ fp, FpOk X pins H3 b ∧ b < s3.heap.objs.size := fun b hb => by
    obtain ⟨o, e, _⟩ := T.obj _ _ st2 b hb
    exact ⟨⟨(pin' b hb o e).2, (f2 b hb).2⟩, Heap.lt_size (pin' b hb o e).1⟩
  obtain ⟨bm, ob, e1, e2, e3, e4, e5, e6, e7, e8⟩ := BM
  refine wpAny_bind (wpAny_builtinsFor (m := X.mg) (by rw [I3.ok.glob]; exact I3.mod.glob.keeps I3.bk) e1 e2 (I3.bk _ _ e5) e6 e7 e8 ?_)
  refine wpAny_bind (newEnv_gen ok.kind h0 fun h' hn' hs' => ?_)
  simp only [newGenerator, newFields]
  refine wpAny_bind (wpAny_newGen (wpAny_bind (wpAny_mkText (wpAny_bind (wpAny_mkText (wpAny_newObj_type ?_ (by size_fits)))))))
  obtain ⟨W, ⟨m0, w0⟩, turn⟩ := q3
  have kp : ∀ b o, b ≠ s3.heap.objs.size → (pushCells (s3.heap.push gFr) scope.names).get? b = some o → h'.get? b = some o := fun b o hb e => hs'.extBut b o hb e
  have hszP : s3.heap.objs.size + 1 ≤ (pushCells (s3.heap.push gFr) scope.names).objs.size := by
    have z := pushCells_size scope.names (s3.heap.push gFr)
    rwa [Heap.size_push] at z
  have hsz : s3.heap.objs.size + 1 ≤ h'.objs.size := by rw [hs'.1]; exact hszP
  have k3 : ∀ b o, s3.heap.get? b = some o → h'.get? b = some o := fun b o e => kp b o (Nat.ne_of_lt (Heap.lt_size e)) (pushCells_keeps _ _ _ _ (Heap.get?_push_of_some _ e))
  have hB : X.A.in1.in1.handled = none := hr.hd
  have hBf : X.A.in1.in1.frames = some X.stack := I.ok.frames
  have key : ∀ (go : Obj) (tk : Nat), (∀ h : Heap, h.get? h'.objs.size = some go → h.IsGen h'.objs.size s3.gens.size) → (∀ h : Heap, (h.push go).get? h.objs.size = some go) → (∀ v, go.data ≠ .cell v) →
      GReady X pins σ h'.objs.size s3.gens.size stopV (Q (.bl (!stopV))) (Q (.bl stopV)) m0
        { s3 with heap := h'.push go, gens := s3.gens.push (.fresh (.compStart (gExp elt tg iter scope gpos) 0 (.ref it) .none (gEnv X scope s3.heap.objs.size code))), toks := tk } := by
    intro go tk hgen hpush hdat
    generalize hgs : (GenState.fresh (.compStart (gExp elt tg iter scope gpos) 0 (.ref it) .none (gEnv X scope s3.heap.objs.size code))) = gs
    have hgsb : gs.bare = true := by rw [← hgs]; rfl
    have hg5 : AllBare (s3.gens.push gs) := AllBare.push I3.bare hgsb
    have kp5 : ∀ b o, b ≠ s3.heap.objs.size → (pushCells (s3.heap.push gFr) scope.names).get? b = some o → (h'.push go).get? b = some o := fun b o hb e => Heap.get?_push_of_some _ (kp b o hb e)
    have I5 : Inv X pins σ H3 { s3 with heap := h'.push go, gens := s3.gens.push gs, toks := tk } := Dy.Inv.rest I3 ⟨rfl, hg5, fun b o e => Heap.get?_push_of_some _ (k3 b o e)⟩
    refine ⟨hgen _ (hpush h'), ⟨H3, I5⟩, gs, Array.getElem?_push_size .., ?_⟩
    subst hgs
    refine ⟨rfl, ?_⟩
    have haf : h'.objs.size ∉ fp := fun hb => Nat.lt_irrefl _ (Nat.lt_of_lt_of_le (f3 _ hb).2 (Nat.le_of_succ_le hsz))
    have IG : Inv (gCx X X.A.in1.in1 scope code s3 H3 fp [(h'.objs.size, go)]) [] (wipe σ (own.map (·.2))) H3 (({ s3 with heap := h'.push go, gens := s3.gens.push (.fresh (.compStart (gExp elt tg iter scope gpos) 0 (.ref it) .none (gEnv X scope s3.heap.objs.size code))), toks := tk } : Shared).setGen s3.gens.size .running) := by
      refine gen_start (h5 := h'.push go) (m := fun y => if y = (".0" : Str) then some (.ref it) else none) I3 ok hN hB hBf f3 kp5 (hn'.push go) (fun p hp => ?_) (allBare_setGen (s := { s3 with heap := h'.push go, gens := s3.gens.push (.fresh (.compStart (gExp elt tg iter scope gpos) 0 (.ref it) .none (gEnv X scope s3.heap.objs.size code))), toks := tk }) hg5 rfl)
      rw [List.mem_singleton.mp hp]
      refine ⟨hpush h', I3.hok.fresh (by show s3.heap.objs.size ≤ h'.objs.size; omega), Nat.ne_of_gt (by omega), fun z => ?_, hdat⟩
      rcases List.mem_cons.mp (I3.stkSub _ z) with e | e
      · have h1 := I3.lt
        rw [← e] at h1
        have h1 : h'.objs.size < s3.heap.objs.size := h1
        omega
      · exact I3.nofs (by show s3.heap.objs.size ≤ h'.objs.size; omega) e
    have hroom : Room k (X.A.in1.in1.deeper (gEnv X scope s3.heap.objs.size code)) := ⟨hr.hd, by have := hr.dp; show X.A.depth + 1 + 3 * k + 5 < _; omega, by have := hr.un; show X.A.units + 1 + 1 + 3 + 16 * k + 200 < _; omega⟩
    have st5 : tn 0 (h'.push go) := T.keep _ _ _ st3 fun c hc o e => Heap.get?_push_of_some _ (k3 c o e)
    have loop := seg_gen (X := X) (pins := pins) (σ := σ) (HB := H3) (sB := s3) (B := X.A.in1.in1) (elt := elt) (iter := iter) (scope := scope) (gpos := gpos) (code := code) (fp := fp) (vs := own.map (·.2)) (a := h'.objs.size) (g := s3.gens.size) (go := go) (stopV := stopV)
      (Qe := Q (.bl (!stopV))) (Qs := Q (.bl stopV)) (te := te code) (W := W) I3 (fun b hb => (f3 b hb).1) hco hgen haf T (hpg _ _ _ _ _ _) (hpe _ _ _ _ _ _ hroom) turn m0 m0 0
      (({ s3 with heap := h'.push go, gens := s3.gens.push (.fresh (.compStart (gExp elt tg iter scope gpos) 0 (.ref it) .none (gEnv X scope s3.heap.objs.size code))), toks := tk } : Shared).setGen s3.gens.size .running) (({ s3 with heap := h'.push go, gens := s3.gens.push (.fresh (.compStart (gExp elt tg iter scope gpos) 0 (.ref it) .none (gEnv X scope s3.heap.objs.size code))), toks := tk } : Shared).setGen s3.gens.size .running) H3 (Nat.le_refl _) IG st5 (fun b hb => (f3 b hb).1.1) w0
    show Seg _ X.A.in1.in1 _ _ _ _ _ ((compStart (gExp elt tg iter scope gpos) 0 (.ref it) .none (gEnv X scope s3.heap.objs.size code)).onRaise (leaving (gEnv X scope s3.heap.objs.size code))) [] _
    unfold compStart
    rw [Sem.onRaise_eq_wrap]
    show Seg _ X.A.in1.in1 _ _ _ _ _ ((ask >>= _).wrap _ _ _ _) [] _
    refine seg_bind_wrap (wpAny_askSetting ?_)
    split
    · exact seg_again rfl loop
    · first
        | exact seg_bind_wrap (wpAny_rule (seg_bind_wrap (wpAny_standAt (seg_bind_wrap (T.self _ 0 _ _ _ st5 (seg_again rfl loop))))))
        | (refine seg_bind_wrap (wpAny_rule ?_); show Seg _ X.A.in1.in1 _ _ _ _ _ ((standAt iter.pos >>= _).wrap _ _ _ _) [] _; exact seg_bind_wrap (wpAny_standAt (seg_bind_wrap (T.self _ 0 _ _ _ st5 (seg_again rfl loop)))))
  exact ⟨_, _, _, rfl, key _ _ (fun h e => ⟨_, _, _, e, rfl, rfl, rfl⟩) (fun h => Heap.get?_push_size _ rfl) (fun v q => by cases q)⟩
end
/-! ### the rules -/
section
variable {X : Cx} {k : Nat} {P₀ : Addr} {elt tg iter : Expr} {scope : Scope} {gpos p pos : Pos} {own : List (Str × Nat)} {wi : TI} {tc : Hp → (Value → Hp → Prop) → Prop} {gt : TG} {te : Value → TE}
theorem pe_all (hr : Room (k + 3) X.A) (hg : Gl X "all") (hm : X.mg "all" = none) (hv : bootBuiltins "all" = some (.builtin "all")) (hN : X.N.Nodup) (hi : PI X tg iter wi) (ok : BlkOk X.N X.env.scope scope own) (h0 : scope.names.lookup (".0" : Str) = some NameKind.local) (hco : scope.isCoroutine = false) (BM : X.base.BuiltinsAt X.mg P₀) (hcd : PCode X gpos scope tc)
    (hpg : ∀ (B : Around) (code : Value) (sB : Shared) (HB : Hp) (fp : List Addr) (pn : List (Addr × Obj)), PG (gCx X B scope code sB HB fp pn) tg gt)
    (hpe : ∀ (B : Around) (code : Value) (sB : Shared) (HB : Hp) (fp : List Addr) (pn : List (Addr × Obj)), Room k (B.deeper (gEnv X scope sB.heap.objs.size code)) → PE (gCx X B scope code sB HB fp pn) elt (te code))
    (hs : ∀ v, genFold iter X.env v = pure v := by intro _; rfl) (he : starEach [gExp elt tg iter scope gpos] X.env = (false, eval (gExp elt tg iter scope gpos) X.env) :: starEach [] X.env := by rfl) :
    PE X (.Call (.Name "all" p) [gExp elt tg iter scope gpos] [] pos) (tGen false wi tc gt te (own.map (·.2))) := by
  refine ⟨fun pins s σ H Q I h => ?_⟩
  refine wpAny_Call_Name_kw (ld_blt I hg hm hv ?_)
  refine PyProof.Rows.callWith_builtin1 ?_ he (by rfl)
  rw [he]
  show wpAny _ _ (spliced ((false, eval (gExp elt tg iter scope gpos) X.env) :: backTo pos (starEach [] X.env))) _ _ s
  refine Calls.spliced_cons (thn (gen_make hr hN hi ok h0 hco BM hcd hpg hpe hs I h) fun u s1 ⟨a, g, n, hu, hG⟩ => ?_)
  subst hu
  refine Calls.spliced_nil ?_
  refine call_function_tree F.kind_all F.plain_all F.entry_all (F.args_all1 _) ?_
  unfold Builtin.«all»
  refine wpAny_bind (m := oneArg "all" _) (wpAny_pure ?_)
  refine wpAny_bind (wpAny_pyIter_gen hG.1 ?_)
  exact wpAny_pure ⟨plainId_quiet F.plain_all_loop _, all_loop hr.hd hr.depth (fun s' H' I' q => ⟨.bl true, H', I', rfl, q⟩) (fun s' H' I' q => ⟨.bl false, H', I', rfl, q⟩) n s1 hG⟩
theorem pe_any (hr : Room (k + 3) X.A) (hg : Gl X "any") (hm : X.mg "any" = none) (hN : X.N.Nodup) (hi : PI X tg iter wi) (ok : BlkOk X.N X.env.scope scope own) (h0 : scope.names.lookup (".0" : Str) = some NameKind.local) (hco : scope.isCoroutine = false) (BM : X.base.BuiltinsAt X.mg P₀) (hcd : PCode X gpos scope tc)
    (hpg : ∀ (B : Around) (code : Value) (sB : Shared) (HB : Hp) (fp : List Addr) (pn : List (Addr × Obj)), PG (gCx X B scope code sB HB fp pn) tg gt)
    (hpe : ∀ (B : Around) (code : Value) (sB : Shared) (HB : Hp) (fp : List Addr) (pn : List (Addr × Obj)), Room k (B.deeper (gEnv X scope sB.heap.objs.size code)) → PE (gCx X B scope code sB HB fp pn) elt (te code))
    (hs : ∀ v, genFold iter X.env v = pure v := by intro _; rfl) (he : starEach [gExp elt tg iter scope gpos] X.env = (false, eval (gExp elt tg iter scope gpos) X.env) :: starEach [] X.env := by rfl) :
    PE X (.Call (.Name "any" p) [gExp elt tg iter scope gpos] [] pos) (tGen true wi tc gt te (own.map (·.2))) := by
  refine ⟨fun pins s σ H Q I h => ?_⟩
  refine wpAny_Call_Name_kw (ld_blt I hg hm boot_any ?_)
  refine PyProof.Rows.callWith_builtin1 ?_ he (by rfl)
  rw [he]
  show wpAny _ _ (spliced ((false, eval (gExp elt tg iter scope gpos) X.env) :: backTo pos (starEach [] X.env))) _ _ s
  refine Calls.spliced_cons (thn (gen_make hr hN hi ok h0 hco BM hcd hpg hpe hs I h) fun u s1 ⟨a, g, n, hu, hG⟩ => ?_)
  subst hu
  refine Calls.spliced_nil ?_
  refine call_function_tree F.kind_any F.plain_any F.entry_any (F.args_any1 _) ?_
  unfold Builtin.«any»
  refine wpAny_bind (m := oneArg "any" _) (wpAny_pure ?_)
  refine wpAny_bind (wpAny_pyIter_gen hG.1 ?_)
  exact wpAny_pure ⟨plainId_quiet F.plain_any_loop _, any_loop hr.hd hr.depth (fun s' H' I' q => ⟨.bl false, H', I', rfl, q⟩) (fun s' H' I' q => ⟨.bl true, H', I', rfl, q⟩) n s1 hG⟩
end
end Dy
set_option Elab.async false
set_option maxRecDepth 100000
set_option maxHeartbeats 4000000
namespace Dy
open PySem PySem.Spec PyProof.Rows L2 GenW
/-! ### new objects are tracked; a table may be written -/
section
variable {X : Cx} {pins : List (Addr × Obj)} {σ : L2.St} {H H' : Hp} {s : Shared}
/-- H' tells of the old objects what H tells, but for the table at P -/
theorem inv_new {P : Addr} {ps more : Array Value} {h' : Heap} {t' : Nat} (I : Inv X pins σ H s) (hP : H P = some (.tbl ps))
    (h1 : ∀ b, b ≠ P → b < s.heap.objs.size → H' b = H b) (h2 : H' P = some (.tbl (ps ++ more)))
    (k : ∀ b o, b ≠ P → s.heap.get? b = some o → h'.get? b = some o) (hm : h'.get? P = some { cls := .none, data := .fields (ps ++ more) })
    (nw : ∀ b o, s.heap.objs.size ≤ b → H' b = some o → ObjOk X.prog X.w H' h' b o) : Inv X pins σ H' { s with heap := h', toks := t' } := by
  have nP : ∀ b u, H b = some u → (∀ q, u ≠ .tbl q) → b ≠ P := fun b u e q z => by
    rw [z, hP] at e
    exact q ps (Option.some.inj e).symm
  have nN : ∀ b, H b = none → b ≠ P := fun b e z => by
    rw [z, hP] at e
    cases e
  have lt : ∀ b u, H b = some u → b < s.heap.objs.size := fun b u e => I.hok.lt e
  have at_ : ∀ b u, H b = some u → (∀ q, u ≠ .tbl q) → H' b = some u := fun b u e q => by rw [h1 b (nP b u e q) (lt b u e)]; exact e
  refine I.step (g' := s.gens) (d' := s.drawn) (ch := []) (fun b hb => absurd hb (by simp)) (fun b o _ _ _ e n => k b o (nN b n) e) (fun b o _ _ _ e n => ⟨o.slots, k b o (nN b n) e⟩)
    (fun b o _ e n => by rw [h1 b (nN b n) (Heap.lt_size e)]; exact n) (fun b o _ e => ?_) (fun b xs e => at_ b _ e fun q z => by cases z) (fun b o u e => at_ b _ e fun q z => by cases z) (fun b qs e => ?_) (fun m hn => ?_) (fun b u e => ?_) I.bare
  · by_cases hb : b = P
    · rw [hb]
      exact ⟨_, hm⟩
    · exact ⟨o, k b o hb e⟩
  · by_cases hb : b = P
    · rw [hb, hP] at e
      cases e
      rw [hb, h2]
      exact ⟨more, rfl⟩
    · rw [h1 b hb (lt b _ e), e]
      exact ⟨#[], by simp⟩
  · obtain ⟨ob, es, ep, ho, r⟩ := hn
    exact ⟨ob, es, ep, k _ ob (nN _ I.free) ho, r⟩
  · by_cases hb : b = P
    · rw [hb, h2] at e
      cases e
      rw [hb]
      exact hm
    · by_cases hz : b < s.heap.objs.size
      · rw [h1 b hb hz] at e
        refine (I.hok b u e).stay (fun d v hd q => k d v ?_ q) (fun d q => at_ d _ q fun q z => by cases z) fun d xs q => at_ d _ q fun q z => by cases z
        rcases hd with z | z
        · rw [z]
          exact hb
        · exact nP d _ z (fun q z => by cases z)
      · exact nw b u (Nat.le_of_not_lt hz) e
/-- the same, no table -/
theorem inv_news {h' : Heap} {t' : Nat} (I : Inv X pins σ H s) (h1 : ∀ b, b < s.heap.objs.size → H' b = H b)
    (k : ∀ b o, s.heap.get? b = some o → h'.get? b = some o) (nw : ∀ b o, s.heap.objs.size ≤ b → H' b = some o → ObjOk X.prog X.w H' h' b o) : Inv X pins σ H' { s with heap := h', toks := t' } := by
  have at_ : ∀ b u, H b = some u → H' b = some u := fun b u e => by rw [h1 b (I.hok.lt e)]; exact e
  refine I.step (g' := s.gens) (d' := s.drawn) (ch := []) (fun b hb => absurd hb (by simp)) (fun b o _ _ _ e n => k b o e) (fun b o _ _ _ e n => ⟨o.slots, k b o e⟩)
    (fun b o _ e n => by rw [h1 b (Heap.lt_size e)]; exact n) (fun b o _ e => ⟨o, k b o e⟩) (fun b xs e => at_ b _ e) (fun b o u e => at_ b _ e) (fun b qs e => ⟨#[], by rw [at_ b _ e]; simp⟩) (fun m hn => ?_) (fun b u e => ?_) I.bare
  · obtain ⟨ob, es, ep, ho, r⟩ := hn
    exact ⟨ob, es, ep, k _ ob ho, r⟩
  · by_cases hz : b < s.heap.objs.size
    · rw [h1 b hz] at e
      exact (I.hok b u e).stay (fun d v _ q => k d v q) (fun d q => at_ d _ q) fun d xs q => at_ d _ q
    · exact nw b u (Nat.le_of_not_lt hz) e
end
/-! ### tables of code objects -/
/-- a table of which nothing but its form is told -/
def TabX (P : Addr) : HO := .ext fun h => ∃ ps : Array Value, h.get? P = some { cls := .none, data := .fields ps } ∧ TriplesOk ps.toList
/-- a code object with its table's place -/
def CodeX (c P : Addr) : HO := .ext fun h => PySem.W.CodeHd h c P
theorem tabX_ok {P : Program} {w : World} {H : Hp} {h : Heap} {p : Addr} {ps : Array Value} (e : h.get? p = some { cls := .none, data := .fields ps }) (t : TriplesOk ps.toList) : ObjOk P w H h p (TabX p) :=
  ⟨⟨ps, e, t⟩, ⟨_, e⟩, fun h1 h2 ⟨ps, a, b⟩ st => ⟨ps, st _ a, b⟩⟩
theorem codeX_ok {P : Program} {w : World} {H : Hp} {h : Heap} {c p : Addr} (e : PySem.W.CodeHd h c p) : ObjOk P w H h c (CodeX c p) :=
  ⟨e, (by obtain ⟨o, vs, file, tf, flags, tg, inF, text, tt, e, r⟩ := e; exact ⟨o, e⟩), fun h1 h2 ⟨o, vs, file, tf, flags, tg, inF, text, tt, e, r⟩ st => ⟨o, vs, file, tf, flags, tg, inF, text, tt, st _ e, r⟩⟩
theorem tabX_ne (P : Addr) (ps : Array Value) : TabX P ≠ .tbl ps := fun z => by unfold TabX at z; cases z
theorem codeX_ne (c P : Addr) (ps : Array Value) : CodeX c P ≠ .tbl ps := fun z => by unfold CodeX at z; cases z
/-- a table whose code objects are told, with their own tables -/
def TabN (H : Hp) (P : Addr) : Prop := ∃ ps : Array Value, H P = some (.tbl ps) ∧ TriplesOk ps.toList ∧ ∀ (pos : Pos) (cv : Value), codeAmong pos ps.toList = some cv → ∃ c' P', cv = .ref c' ∧ H c' = some (CodeX c' P') ∧ H P' = some (TabX P')
theorem TabN.nil {H : Hp} {P : Addr} (h : H P = some (.tbl #[])) : TabN H P := ⟨#[], h, True.intro, fun pos cv hc => by
  have z : codeAmong pos [] = some cv := hc
  simp [codeAmong] at z⟩
theorem TabN.same {H H' : Hp} {P : Addr} (t : TabN H P) (e : ∀ b o, H b = some o → H' b = some o) : TabN H' P := by
  obtain ⟨ps, h1, h2, h3⟩ := t
  refine ⟨ps, e _ _ h1, h2, fun pos cv hc => ?_⟩
  obtain ⟨c', P', a, b, d⟩ := h3 pos cv hc
  exact ⟨c', P', a, e _ _ b, e _ _ d⟩
/-- all but the thing at P stays -/
def ExtP (P : Addr) (H H' : Hp) : Prop := ∀ b o, b ≠ P → H b = some o → H' b = some o
theorem ExtP.refl (P : Addr) (H : Hp) : ExtP P H H := fun _ _ _ e => e
theorem ExtP.trans {P : Addr} {H H1 H2 : Hp} (a : ExtP P H H1) (b : ExtP P H1 H2) : ExtP P H H2 := fun c o n e => b c o n (a c o n e)
theorem ExtP.of {P : Addr} {H H' : Hp} (e : ∀ b o, H b = some o → H' b = some o) : ExtP P H H' := fun b o _ h => e b o h
def tcX (code : Value) (okB : Addr → Addr → Prop) : Hp → (Value → Hp → Prop) → Prop := fun H R => ∃ c P, code = .ref c ∧ (okB c P ∨ H c = some (CodeX c P)) ∧ H P = some (TabX P) ∧ ∀ cv, R cv H
def tcN (c P : Addr) : Hp → (Value → Hp → Prop) → Prop := fun H R => TabN H P ∧ ∀ c' P' H', ExtP P H H' → TabN H' P → H' c' = some (CodeX c' P') → H' P' = some (TabX P') → R (.ref c') H'
section
variable {X : Cx} {gpos : Pos} {scope : Scope}
theorem pcode_x {okB : Addr → Addr → Prop} (hB : ∀ c P, okB c P → PySem.W.CodeHd X.base c P) : PCode X gpos scope (tcX X.env.code okB) := by
  intro pins s σ H R I h
  obtain ⟨c, P, hcode, hC, hP, hR⟩ := h
  have C : PySem.W.CodeHd s.heap c P := by
    rcases hC with z | z
    · exact (hB c P z).keeps I.bk
    · exact (I.hok c _ z).1
  obtain ⟨⟨ps, e, t⟩, _, _⟩ := I.hok P _ hP
  cases hf : codeAmong gpos ps.toList with
  | none =>
    refine wpAny_genexprCodeX hcode (C.code e t) (C.tab e) hf fun c' h' tk hx hge hlt hco' _ htab' _ => ⟨H, ?_, hR _⟩
    obtain ⟨o1, vs, f1, tf, fl, tg, inF, tx, tt, op, _, _, _, _, _, _, _, _, _, htr, _⟩ := hco'
    have z := I.write (x := P) (e := P) (o := TabX P) (h' := h') (t' := tk) (by rw [hP]; trivial) (.inl rfl) (fun b u hb q => hx b u hb q) ⟨_, htab'.2⟩ (tabX_ok htab'.2 htr)
    have eH : upd H P (TabX P) = H := by
      funext b
      by_cases hb : b = P
      · rw [hb, upd_same, hP]
      · rw [upd_ne hb]
    rw [eH] at z
    exact z
  | some cv => exact wpAny_genexprCode_hit hcode (C.code e t) hf ⟨H, I, hR _⟩
theorem pcode_n {c P : Addr} (hcode : X.env.code = .ref c) (C0 : PySem.W.CodeHd X.base c P) : PCode X gpos scope (tcN c P) := by
  intro pins s σ H R I h
  obtain ⟨⟨ps, hP, t, hall⟩, hR⟩ := h
  have C := C0.keeps I.bk
  have e : s.heap.get? P = some { cls := .none, data := .fields ps } := I.hok P _ hP
  cases hf : codeAmong gpos ps.toList with
  | none =>
    refine wpAny_genexprCodeX hcode (C.code e t) (C.tab e) hf fun c' h' tk hx hge hlt hco' _ htab' hnew => ?_
    obtain ⟨P', hge', hic, hta⟩ := hnew
    obtain ⟨o1, vs, f1, tf, fl, tg, inF, tx, tt, op, _, _, _, _, _, _, _, _, _, htr, _⟩ := hco'
    have hcd : PySem.W.CodeHd h' c' P' := PySem.W.CodeHd.of hic hta
    have nC : H c' = none := I.hok.fresh hge
    have nP : H P' = none := I.hok.fresh hge'
    have hne : c' ≠ P' := by obtain ⟨_, _, _, _, _, _, _, _, _, _, _, _, _, _, _, _, _, _, n⟩ := hcd; exact n
    have hPc : P ≠ c' := ne_of_none hP nC
    have hPP : P ≠ P' := ne_of_none hP nP
    let H' : Hp := upd (upd (upd H P (.tbl (ps ++ #[rawInt gpos.line, rawInt gpos.col, .ref c']))) c' (CodeX c' P')) P' (TabX P')
    have a1 : H' c' = some (CodeX c' P') := by show upd (upd (upd H P _) c' _) P' _ c' = _; rw [upd_ne hne, upd_same]
    have a2 : H' P' = some (TabX P') := upd_same
    have a3 : H' P = some (.tbl (ps ++ #[rawInt gpos.line, rawInt gpos.col, .ref c'])) := by show upd (upd (upd H P _) c' _) P' _ P = _; rw [upd_ne hPP, upd_ne hPc, upd_same]
    have a4 : ∀ b, b ≠ P → b ≠ c' → b ≠ P' → H' b = H b := fun b h1 h2 h3 => by show upd (upd (upd H P _) c' _) P' _ b = _; rw [upd_ne h3, upd_ne h2, upd_ne h1]
    have I1 : Inv X pins σ H' { s with heap := h', toks := tk } := by
      refine inv_new I hP (fun b hb hz => a4 b hb (fun q => Nat.lt_irrefl _ (Nat.lt_of_lt_of_le (q ▸ hz) hge)) fun q => Nat.lt_irrefl _ (Nat.lt_of_lt_of_le (q ▸ hz) hge')) a3 (fun b o hb q => hx b o hb q) htab'.2 fun b o hz q => ?_
      by_cases h1 : b = c'
      · rw [h1, a1] at q
        cases q
        rw [h1]
        exact codeX_ok hcd
      · by_cases h2 : b = P'
        · rw [h2, a2] at q
          cases q
          rw [h2]
          exact tabX_ok hta.2 True.intro
        · by_cases h3 : b = P
          · exact absurd (Heap.lt_size e) (Nat.not_lt_of_le (h3 ▸ hz))
          · rw [a4 b h3 h1 h2] at q
            exact absurd (I.hok.lt q) (Nat.not_lt_of_le hz)
    have ex : ExtP P H H' := fun b o hb q => by rw [a4 b hb (ne_of_none q nC) (ne_of_none q nP)]; exact q
    have eL : (ps ++ #[rawInt gpos.line, rawInt gpos.col, Value.ref c']).toList = ps.toList ++ [rawInt gpos.line, rawInt gpos.col, .ref c'] := by simp
    refine ⟨H', I1, hR c' P' H' ex ⟨_, a3, htr, fun p' cv hcv => ?_⟩ a1 a2⟩
    rw [eL] at hcv
    rcases LamX.among_app _ t hcv with z | z
    · obtain ⟨c0, P0, e1, e2, e3⟩ := hall p' cv z
      have n0 : c0 ≠ P := fun q => codeX_ne c0 P0 ps (by rw [q, hP] at e2; exact (Option.some.inj e2).symm ▸ q ▸ rfl)
      have n1 : P0 ≠ P := fun q => tabX_ne P0 ps (by rw [q, hP] at e3; exact (Option.some.inj e3).symm ▸ q ▸ rfl)
      exact ⟨c0, P0, e1, ex _ _ n0 e2, ex _ _ n1 e3⟩
    · exact ⟨c', P', z, a1, a2⟩
  | some cv =>
    obtain ⟨c', P', e1, e2, e3⟩ := hall gpos cv hf
    subst e1
    exact wpAny_genexprCode_hit hcode (C.code e t) hf ⟨H, I, hR c' P' H (ExtP.refl P H) ⟨ps, hP, t, hall⟩ e2 e3⟩
end
end Dy
set_option Elab.async false
set_option maxRecDepth 100000
set_option maxHeartbeats 4000000
namespace Dy
open PySem PySem.Spec PyProof.Rows L2 GenW
/-! ### lambdas as values -/
def LamO (f : Addr) (q : Str) (params : Arguments) (body : Expr) (scope : Scope) (clo : List (Str × Addr)) (c' : Addr) : HO :=
  .ext fun h => ∃ pm ctv : Value, h.get? f = some (PySem.W.kla_obj "<lambda>" q params body scope clo pm c' ctv)
def CellO (c : Addr) (v : V) : HO := .ext fun h => ∃ u, L2.RelV v u ∧ h.IsCell c (some u)
theorem lamO_ok {P : Program} {w : World} {H : Hp} {h : Heap} {f c' : Addr} {q : Str} {params : Arguments} {body : Expr} {scope : Scope} {clo : List (Str × Addr)} {pm ctv : Value}
    (e : h.get? f = some (PySem.W.kla_obj "<lambda>" q params body scope clo pm c' ctv)) : ObjOk P w H h f (LamO f q params body scope clo c') :=
  ⟨⟨pm, ctv, e⟩, ⟨_, e⟩, fun _ _ ⟨pm, ctv, a⟩ st => ⟨pm, ctv, st _ a⟩⟩
theorem codeO_ok {P : Program} {w : World} {H : Hp} {h : Heap} {c : Addr} {q : Str} {oc : Obj} {vs : Array Value} {t : Tok} (e : h.get? c = some oc) (d : oc.data = .fields vs) (n : vs[1]? = some (.str q t)) : ObjOk P w H h c (LamX.CodeO c q) :=
  ⟨⟨oc, vs, t, e, d, n⟩, ⟨_, e⟩, fun _ _ ⟨oc, vs, t, a, b, c⟩ st => ⟨oc, vs, t, st _ a, b, c⟩⟩
theorem cellO_ok {P : Program} {w : World} {H : Hp} {h : Heap} {c : Addr} {v : V} {u : Value} (r : L2.RelV v u) (e : h.IsCell c (some u)) : ObjOk P w H h c (CellO c v) :=
  ⟨⟨u, r, e⟩, (by obtain ⟨o, ho, _⟩ := e; exact ⟨o, ho⟩), fun _ _ ⟨u, r, o, a, b⟩ st => ⟨u, r, o, st _ a, b⟩⟩
theorem lamO_ne {f c' : Addr} {q : Str} {params : Arguments} {body : Expr} {scope : Scope} {clo : List (Str × Addr)} (ps : Array Value) : LamO f q params body scope clo c' ≠ .tbl ps := fun z => by unfold LamO at z; cases z
/-- a lambda is made -/
def tLam (P : Addr) (q : Str) (params : Arguments) (body : Expr) (scope : Scope) (clo : List (Str × Addr)) : TE := fun _ H Q => LamX.TabS H P q ∧ ∀ (f c' : Addr) (H' : Hp), ExtP P H H' → LamX.TabS H' P q → H f = none → f ≠ c' →
  H' f = some (LamO f q params body scope clo c') → H' c' = some (LamX.CodeO c' q) → Q (.ref f) H'
section
variable {X : Cx}
theorem pe_lam {c P : Addr} {params : Arguments} {body : Expr} {scope : Scope} {pos : Pos} (C0 : PySem.W.CodeHd X.base c P) (BM : X.base.BuiltinsAt X.mg P) (gP : mainGlobals ≠ P) (hcode : X.env.code = .ref c) (hdef : defaultsOf params X.env = ([], []))
    (hfree : ∀ y ∈ scope.names, y.2 = .free → X.env.scope.names.lookup y.1 = some .cell ∨ X.env.scope.names.lookup y.1 = some .free) :
    PE X (.Lambda params body scope pos) (tLam P (X.env.qual ++ "<lambda>") params body scope (cloFrom X.env.cells scope.names [])) := by
  refine ⟨fun pins s σ H Q I h => ?_⟩
  obtain ⟨⟨ps, hP, ht, ha⟩, h⟩ := h
  have hfr : ∀ y ∈ scope.names, y.2 = .free → ∃ c, X.env.cells.lookup y.1 = some c := fun y hy e => by
    rcases hfree y hy e with k | k
    · exact I.ok.has _ (.inl k)
    · exact I.ok.has _ (.inr k)
  refine PySem.W.kla_eval hdef ?_
  have bP : s.heap.BuiltinsAt X.mg P := by
    obtain ⟨bm, o, e1, e2, e3, e4, e5, r⟩ := BM
    exact ⟨bm, o, e1, e2, e3, e4, I.bk _ _ e5, r⟩
  have hP' : s.heap.get? P = some { cls := .none, data := .fields ps } := I.hok P _ hP
  cases hc : codeAmong pos ps.toList with
  | none =>
    refine PySem.W.kla_makeFunction (mg := X.mg) (c := c) (P := P) (ps := ps) (closure_ok hfr) I.ok.glob (I.mod.glob.keeps I.bk) hcode (C0.keeps I.bk) hP' ht hc gP bP fun c' ctv h' tk hx hge hlt hrec htb => ?_
    obtain ⟨c2, oc, vs, t, e2, hoc, hd, hv⟩ := hrec
    cases e2
    have hsz : s.heap.objs.size ≤ h'.objs.size := Nat.le_trans hge (Nat.le_of_lt hlt)
    have nC : H c' = none := I.hok.fresh hge
    have nF : H h'.objs.size = none := I.hok.fresh hsz
    have hne : h'.objs.size ≠ c' := Nat.ne_of_gt hlt
    have hPc : P ≠ c' := ne_of_none hP nC
    have hPf : P ≠ h'.objs.size := ne_of_none hP nF
    let H' : Hp := upd (upd (upd H P (.tbl (ps ++ #[rawInt pos.line, rawInt pos.col, .ref c']))) c' (LamX.CodeO c' (X.env.qual ++ "<lambda>"))) h'.objs.size (LamO h'.objs.size (X.env.qual ++ "<lambda>") params body scope (cloFrom X.env.cells scope.names []) c')
    have a1 : H' c' = some (LamX.CodeO c' (X.env.qual ++ "<lambda>")) := by show upd (upd (upd H P _) c' _) _ _ c' = _; rw [upd_ne hne.symm, upd_same]
    have a2 : H' h'.objs.size = some (LamO h'.objs.size (X.env.qual ++ "<lambda>") params body scope (cloFrom X.env.cells scope.names []) c') := upd_same
    have a3 : H' P = some (.tbl (ps ++ #[rawInt pos.line, rawInt pos.col, .ref c'])) := by show upd (upd (upd H P _) c' _) _ _ P = _; rw [upd_ne hPf, upd_ne hPc, upd_same]
    have a4 : ∀ b, b ≠ P → b ≠ c' → b ≠ h'.objs.size → H' b = H b := fun b h1 h2 h3 => by show upd (upd (upd H P _) c' _) _ _ b = _; rw [upd_ne h3, upd_ne h2, upd_ne h1]
    have I1 := inv_new (H' := H') (t' := tk) (h' := h'.push (PySem.W.kla_obj "<lambda>" (X.env.qual ++ "<lambda>") params body scope (cloFrom X.env.cells scope.names []) ((X.mg "__name__").getD .none) c' ctv)) I hP
      (fun b hb hz => a4 b hb (fun q => Nat.lt_irrefl _ (Nat.lt_of_lt_of_le (q ▸ hz) hge)) fun q => Nat.lt_irrefl _ (Nat.lt_of_lt_of_le (q ▸ hz) hsz)) a3
      (fun b o hb e => Heap.get?_push_of_some _ (hx b o hb e)) (Heap.get?_push_of_some _ htb) fun b o hz q => ?_
    · have ex : ExtP P H H' := fun b o hb q => by rw [a4 b hb (ne_of_none q nC) (ne_of_none q nF)]; exact q
      have eL : (ps ++ #[rawInt pos.line, rawInt pos.col, Value.ref c']).toList = ps.toList ++ [rawInt pos.line, rawInt pos.col, .ref c'] := by simp
      refine ⟨.ref h'.objs.size, H', I1, rfl, h h'.objs.size c' H' ex ⟨_, a3, by rw [eL]; exact TriplesOk_snoc _ _ _ _ ht, fun p' cv hcv => ?_⟩ nF hne a2 a1⟩
      rw [eL] at hcv
      rcases LamX.among_app _ ht hcv with z | z
      · obtain ⟨c0, e1, e2⟩ := ha p' cv z
        have n0 : c0 ≠ P := fun q => LamX.codeO_ne (c := c0) (q := X.env.qual ++ "<lambda>") ps (by rw [q, hP] at e2; exact (Option.some.inj e2).symm ▸ q ▸ rfl)
        exact ⟨c0, e1, ex _ _ n0 e2⟩
      · exact ⟨c', z, a1⟩
    · by_cases h1 : b = c'
      · rw [h1, a1] at q
        cases q
        rw [h1]
        exact codeO_ok (Heap.get?_push_of_some _ hoc) hd hv
      · by_cases h2 : b = h'.objs.size
        · rw [h2, a2] at q
          cases q
          rw [h2]
          exact lamO_ok (Heap.get?_push_size _ rfl)
        · by_cases h3 : b = P
          · exact absurd (Heap.lt_size hP') (Nat.not_lt_of_le (h3 ▸ hz))
          · rw [a4 b h3 h1 h2] at q
            exact absurd (I.hok.lt q) (Nat.not_lt_of_le hz)
  | some cv =>
    obtain ⟨c', e, hco⟩ := ha pos cv hc
    subst e
    refine PySem.W.kla_makeFunctionHit (mg := X.mg) (c := c) (P := P) (ps := ps) (closure_ok hfr) I.ok.glob (I.mod.glob.keeps I.bk) hcode (C0.keeps I.bk) hP' ht hc bP fun ctv h' tk hx hsz => ?_
    have nF : H h'.objs.size = none := I.hok.fresh hsz
    have hne : h'.objs.size ≠ c' := fun z => by rw [← z, nF] at hco; cases hco
    let H' : Hp := upd H h'.objs.size (LamO h'.objs.size (X.env.qual ++ "<lambda>") params body scope (cloFrom X.env.cells scope.names []) c')
    have I1 : Inv X pins σ H' { s with heap := h'.push (PySem.W.kla_obj "<lambda>" (X.env.qual ++ "<lambda>") params body scope (cloFrom X.env.cells scope.names []) ((X.mg "__name__").getD .none) c' ctv), toks := tk } :=
      I.laid (a := h'.objs.size) (o := LamO h'.objs.size (X.env.qual ++ "<lambda>") params body scope (cloFrom X.env.cells scope.names []) c') (fun b o e => Heap.get?_push_of_some _ (hx b o e)) hsz (lamO_ok (Heap.get?_push_size _ rfl))
    have st : ∀ b o, H b = some o → H' b = some o := fun b o e => by show upd H _ _ b = _; rw [upd_ne (ne_of_none e nF)]; exact e
    exact ⟨.ref h'.objs.size, H', I1, rfl, h h'.objs.size c' H' (ExtP.of st) (LamX.TabS.ext ⟨ps, hP, ht, ha⟩ st) nF hne upd_same (st _ _ hco)⟩
end
end Dy
set_option Elab.async false
set_option maxRecDepth 100000
set_option maxHeartbeats 4000000
namespace Dy
open PySem PySem.Spec PyProof.Rows L2 GenW
/-! ### a part of the tracked heap is hidden while code runs that may not touch it -/
def hideH (cs : List Addr) (H : Hp) : Hp := fun b => if b ∈ cs then none else H b
def showH (cs : List Addr) (H H' : Hp) : Hp := fun b => if b ∈ cs then H b else H' b
theorem hide_in {cs : List Addr} {H : Hp} {b : Addr} (h : b ∈ cs) : hideH cs H b = none := if_pos h
theorem hide_out {cs : List Addr} {H : Hp} {b : Addr} (h : b ∉ cs) : hideH cs H b = H b := if_neg h
theorem show_in {cs : List Addr} {H H' : Hp} {b : Addr} (h : b ∈ cs) : showH cs H H' b = H b := if_pos h
theorem show_out {cs : List Addr} {H H' : Hp} {b : Addr} (h : b ∉ cs) : showH cs H H' b = H' b := if_neg h
theorem hide_none {cs : List Addr} {H : Hp} {b : Addr} (h : H b = none) : hideH cs H b = none := by
  by_cases hb : b ∈ cs
  · exact hide_in hb
  · rw [hide_out hb]; exact h
/-- all that stands at cs is told by its own object alone -/
def AllExt (cs : List Addr) (H : Hp) : Prop := ∀ c ∈ cs, ∃ φ, H c = some (.ext φ)
section
variable {P : Program} {w : World} {cs : List Addr} {H H' : Hp} {h h' : Heap}
theorem AllExt.own (a : AllExt cs H) {b c : Addr} (e : H b = some (.own c)) : b ∉ cs := fun hb => by
  obtain ⟨φ, z⟩ := a b hb
  rw [e] at z; cases z
theorem AllExt.tup (a : AllExt cs H) {b : Addr} {xs : List V} (e : H b = some (.tup xs)) : b ∉ cs := fun hb => by
  obtain ⟨φ, z⟩ := a b hb
  rw [e] at z; cases z
theorem HOk.hide (x : HOk P w H h) (a : AllExt cs H) : HOk P w (hideH cs H) h := fun b o e => by
  have hb : b ∉ cs := fun hb => by rw [hide_in hb] at e; cases e
  rw [hide_out hb] at e
  exact (x b o e).stay (fun _ _ _ q => q) (fun d q => by rw [hide_out (a.own q)]; exact q) fun d xs q => by rw [hide_out (a.tup q)]; exact q
theorem HOk.shown (x : HOk P w H h) (a : AllExt cs H) (y : HOk P w H' h') (k : ∀ c ∈ cs, ∀ o, h.get? c = some o → h'.get? c = some o) (n : ∀ c ∈ cs, H' c = none) : HOk P w (showH cs H H') h' := fun b o e => by
  by_cases hb : b ∈ cs
  · rw [show_in hb] at e
    obtain ⟨φ, z⟩ := a b hb
    rw [e] at z
    cases z
    obtain ⟨p, ⟨ob, eo⟩, st⟩ := x b _ e
    exact ⟨st _ _ p fun o q => k b hb o q, ⟨ob, k b hb ob eo⟩, st⟩
  · rw [show_out hb] at e
    have out : ∀ d o, H' d = some o → d ∉ cs := fun d o q hd => by rw [n d hd] at q; cases q
    exact (y b o e).stay (fun _ _ _ q => q) (fun d q => by rw [show_out (out d _ q)]; exact q) fun d xs q => by rw [show_out (out d _ q)]; exact q
theorem un_show {fs : List Addr} (u : Un fs [] (hideH cs H) H' h h') (a : AllExt cs H) : Un fs [] H (showH cs H H') h h' where
  keep := fun b o e n hb hx => u.keep b o e (hide_none n) hb hx
  slot := fun b o e n hb hx => u.slot b o e (hide_none n) hb hx
  free := fun b o e n hx => by
    by_cases hb : b ∈ cs
    · rw [show_in hb]; exact n
    · rw [show_out hb]; exact u.free b o e (hide_none n) hx
  there := u.there
  tups := fun b xs e => by
    have hb := a.tup e
    rw [show_out hb]
    exact u.tups b xs (by rw [hide_out hb]; exact e)
  frzs := fun b o x e => by
    have hb : b ∉ cs := fun hb => by obtain ⟨φ, z⟩ := a b hb; rw [e] at z; cases z
    rw [show_out hb]
    exact u.frzs b o x (by rw [hide_out hb]; exact e)
  tbls := fun b ps e => by
    have hb : b ∉ cs := fun hb => by obtain ⟨φ, z⟩ := a b hb; rw [e] at z; cases z
    rw [show_out hb]
    exact u.tbls b ps (by rw [hide_out hb]; exact e)
theorem hide_freed {fs : List Addr} (x : HOk P w H h) (a : AllExt cs H) (hf : ∀ c ∈ cs, c ∉ fs) (u : Un fs [] (hideH cs H) H' h h') : (∀ c ∈ cs, ∀ o, h.get? c = some o → h'.get? c = some o) ∧ ∀ c ∈ cs, H' c = none := by
  refine ⟨fun c hc o e => u.keep c o e (hide_in hc) (hf c hc) (by simp), fun c hc => ?_⟩
  obtain ⟨φ, z⟩ := a c hc
  obtain ⟨_, ⟨o, e⟩, _⟩ := x c _ z
  exact u.free c o e (hide_in hc) (by simp)
/-- a call that ran with cs hidden -/
theorem CR.shown {outer : List Env} {s s' : Shared} {Q0 Q : VK} {E0 E : XK} {r : Result} (x : HOk P w H s.heap) (a : AllExt cs H) (hf : ∀ c ∈ cs, c ∉ frs outer) (hQ : ∀ v H', (∀ c ∈ cs, H' c = none) → Q0 v H' → Q v (showH cs H H')) (hE : ∀ cls d H', (∀ c ∈ cs, H' c = none) → E0 cls d H' → E cls d (showH cs H H'))
    (c : CR (L2.CX P w) outer P w (hideH cs H) s Q0 E0 r s') : CR (L2.CX P w) outer P w H s Q E r s' := by
  cases r with
  | ok fl =>
    cases fl with
    | ret u =>
      obtain ⟨v, H', os, bare, un, hok, r, q⟩ := c
      obtain ⟨k, n⟩ := hide_freed x a hf un
      exact ⟨v, showH cs H H', os, bare, un_show un a, HOk.shown x a hok k n, r, hQ v H' n q⟩
    | next => exact c
    | brk => exact c
    | cont => exact c
  | error e =>
    obtain ⟨ea, B, H', cls, d, rfl, fl, hok, ub, na, os, ag, hE0⟩ := c
    have kB : ∀ c ∈ cs, ∀ o, s.heap.get? c = some o → B.get? c = some o := fun c hc o e => ub.keep c o e (hide_in hc) (hf c hc)
    have nB : ∀ c ∈ cs, H' c = none := fun c hc => by
      obtain ⟨φ, z⟩ := a c hc
      obtain ⟨_, ⟨o, e⟩, _⟩ := x c _ z
      exact ub.free c o e (hide_in hc)
    have nea : ea ∉ cs := fun hc => by
      obtain ⟨φ, z⟩ := a ea hc
      obtain ⟨_, ⟨o, e⟩, _⟩ := x ea _ z
      have := kB ea hc o e
      rw [fl.2.1] at this; cases this
    refine ⟨ea, B, showH cs H H', cls, d, rfl, fl, HOk.shown x a hok kB nB, ⟨fun b o e n hb => ub.keep b o e (hide_none n) hb, ub.slot, fun b o e n => ?_, ub.there, fun b xs e => ?_, fun b o xs e => ?_, fun b ps e => ?_⟩, by rw [show_out nea]; exact na, os, ag, hE cls d H' nB hE0⟩
    · by_cases hb : b ∈ cs
      · rw [show_in hb]; exact n
      · rw [show_out hb]; exact ub.free b o e (hide_none n)
    · have hb := a.tup e
      rw [show_out hb]
      exact ub.tups b xs (by rw [hide_out hb]; exact e)
    · have hb : b ∉ cs := fun hb => by obtain ⟨φ, z⟩ := a b hb; rw [e] at z; cases z
      rw [show_out hb]
      exact ub.frzs b o xs (by rw [hide_out hb]; exact e)
    · have hb : b ∉ cs := fun hb => by obtain ⟨φ, z⟩ := a b hb; rw [e] at z; cases z
      rw [show_out hb]
      exact ub.tbls b ps (by rw [hide_out hb]; exact e)
end
/-! ### a thing that is called without arguments -/
structure LamOk (P : Program) (w : World) (K : PySem.W.Frag) (mg : Str → Option Value) (base : Heap) (k : Nat) (f : Addr) (sp : Hp → VK → XK → Prop) : Prop where
  isF : ∀ (H : Hp) (h : Heap) (Q : VK) (E : XK), HOk P w H h → sp H Q E → PySem.W.FnAt f h
  run : ∀ (A : Around) (outer : List Env) (s : Shared) (H : Hp) (Q : VK) (E : XK), Room k A → Env0 P w K mg base A outer s H → sp H Q E → codeAny (model P w) A (.call (.ref f) ⟨[], []⟩) (CR (L2.CX P w) outer P w H s Q E) s
def tDyn (P : Program) (w : World) (K : PySem.W.Frag) (mg : Str → Option Value) (base : Heap) (k i : Nat) (E : L2.St → XK) : TE := fun σ H Q => ∃ (f : Addr) (sp : Hp → VK → XK → Prop), σ[i]? = some (some (.ref f)) ∧ LamOk P w K mg base k f sp ∧ sp H Q (E σ)
theorem pe_dyn {X : Cx} {k i : Nat} {E : L2.St → XK} {a : Str} {p1 p2 : Pos} (hr : Room k X.A) (hN : X.N[i]? = some a) (hv : Vis X.env.scope a) (hx : ∀ σ, PassesAt (L2.CX X.prog X.w) X σ (E σ)) (hd : (a == ("__debug__" : Str)) = false := by decide) (hcd : (a == ("__classdict__" : Str)) = false := by decide) :
    PE X (.Call (.Name a p1) [] [] p2) (tDyn X.prog X.w X.K X.mg X.base k i E) := by
  refine ⟨fun pins s σ H Q I h => ?_⟩
  obtain ⟨f, sp, hs, hL, hsp⟩ := h
  refine wpAny_Call_Name_kw (thn ((pe_var (pos := p1) (i := i) hN hv hd hcd).run pins s σ H (fun v H1 => v = .ref f ∧ H1 = H) I ⟨.ref f, hs, rfl, rfl⟩) fun u s1 ⟨v, H1, I1, r1, q1⟩ => ?_)
  obtain ⟨ev, eH⟩ := q1
  subst ev
  subst eH
  obtain rfl : u = Value.ref f := r1
  refine PySem.W.callWith_F0 (hL.isF H1 s1.heap Q (E σ) I1.hok hsp) ?_
  refine wpAny_call (codeAny_mono (hL.run X.A X.stack s1 H1 Q (E σ) hr I1.env0 hsp) fun r s' hq => ?_)
  cases r with
  | error e => exact hx σ pins H1 s1 e s' I1 hq
  | ok fl =>
    cases fl with
    | ret u => exact I1.after hq
    | next => exact False.elim hq
    | brk => exact False.elim hq
    | cont => exact False.elim hq
/-! ### a lambda without parameters: its body -/
abbrev laEnv (q : Str) (scope : Scope) (L f c' : Addr) (clo : List (Str × Addr)) : Env := PySem.W.envX q scope L f (.ref c') clo
def laCx (P : Program) (w : World) (K : PySem.W.Frag) (mg : Str → Option Value) (base : Heap) (N : List Str) (q : Str) (scope : Scope) (f c' : Addr) (clo : List (Str × Addr)) (A : Around) (outer : List Env) (s : Shared) (H : Hp) (E : XK) : Cx where
  prog := P
  w := w
  K := K
  mg := mg
  base := base
  A := A.deeper (laEnv q scope s.heap.objs.size f c' clo)
  N := N
  s_0 := s
  H_0 := H
  env := laEnv q scope s.heap.objs.size f c' clo
  outer := outer
  stack := laEnv q scope s.heap.objs.size f c' clo :: outer
  ex := []
  fn := fun _ => false
  calm := true
  pn := []
  xe := fun e s' => wpAny (model P w) (A.deeper (laEnv q scope s.heap.objs.size f c' clo)) (leaving (laEnv q scope s.heap.objs.size f c' clo) e) (fun _ s'' => L2.CX P w outer H s E e s'') (fun e' s'' => L2.CX P w outer H s E e' s'') s'
/-- only captured names and globals -/
structure LaS (scope : Scope) : Prop where
  kind : scope.kind = .function
  co : scope.isCoroutine = false
  gen : scope.isGenerator = false
  own : ∀ y ∈ scope.names, y.2 ≠ .local ∧ y.2 ≠ .cell
/-- the captured cells, tracked: each of a name of N, holding its slot's value -/
structure CloAt (N : List Str) (σ : L2.St) (scope : Scope) (clo : List (Str × Addr)) (H : Hp) : Prop where
  at_ : ∀ (y : Str) (c : Addr), clo.lookup y = some c → ∃ (i : Nat) (v : V), N[i]? = some y ∧ σ[i]? = some (some v) ∧ H c = some (CellO c v)
  has : ∀ y : Str, scope.names.lookup y = some NameKind.free → ∃ c : Addr, clo.lookup y = some c
  inj : ∀ (x y : Str) (c : Addr), clo.lookup x = some c → clo.lookup y = some c → x = y
  mem : ∀ p ∈ clo, clo.lookup p.1 = some p.2
section
variable {P : Program} {w : World} {K : PySem.W.Frag} {mg : Str → Option Value} {base : Heap} {N : List Str} {q : Str} {scope : Scope} {f c' : Addr} {clo : List (Str × Addr)} {σ : L2.St}
theorem CloAt.ext {H : Hp} (x : CloAt N σ scope clo H) : AllExt (clo.map (·.2)) H := fun c hc => by
  obtain ⟨p, hp, e⟩ := List.mem_map.mp hc
  obtain ⟨i, v, _, _, h⟩ := x.at_ p.1 p.2 (x.mem p hp)
  rw [← e]
  exact ⟨_, h⟩
theorem la_start {A : Around} {outer : List Env} {s : Shared} {H : Hp} {E : XK} {h₁ : Heap} {tk : Nat} (hN : N.Nodup) (hl : σ.length = N.length) (L : LaS scope) (e0 : Env0 P w K mg base A outer s H) (C : CloAt N σ scope clo H) (hd : A.handled = none) (hns : h₁.Ns s.heap.objs.size fun y => ([] : List (Str × Value)).reverse.lookup y)
    (kp : ∀ b o, s.heap.get? b = some o → h₁.get? b = some o) :
    Inv (laCx P w K mg base N q scope f c' clo A outer s (hideH (clo.map (·.2)) H) E) [] σ (hideH (clo.map (·.2)) H) { s with heap := h₁, toks := tk } := by
  have ax := C.ext
  have cellIn : ∀ {y c}, clo.lookup y = some c → c ∈ clo.map (·.2) := fun {y c} e => List.mem_map.mpr ⟨(y, c), PySem.mem_of_lookup e, rfl⟩
  have val : ∀ {y c}, clo.lookup y = some c → ∃ i v u, N[i]? = some y ∧ σ[i]? = some (some v) ∧ L2.RelV v u ∧ h₁.IsCell c (some u) := fun {y c} e => by
    obtain ⟨i, v, h1, h2, h3⟩ := C.at_ y c e
    obtain ⟨⟨u, r, o, ho, hdt⟩, _, _⟩ := e0.hok c _ h3
    exact ⟨i, v, u, h1, h2, r, o, kp _ _ ho, hdt⟩
  have noA : ∀ b : Addr, b ∉ (laCx P w K mg base N q scope f c' clo A outer s (hideH (clo.map (·.2)) H) E).ex := fun b z => absurd (show b ∈ ([] : List Addr) from z) (by simp)
  refine ⟨⟨e0.mod, L.kind, rfl, rfl, Nat.le_refl _, fun x y c e1 e2 => C.inj x y c e1 e2, fun y hy => ?_, fun y c z _ => ?_, fun _ => hd, Around.frames_deeper e0.frames, .inr ⟨rfl, rfl⟩, fun b z => absurd z (noA b), fun b o e => ⟨(e0.bs b o e).1, hide_none (e0.bs b o e).2⟩, e0.bsz, fun b _ _ => noA b,
      fun b z => absurd z (noA b), e0.funs, fun b hb => hide_none (e0.frf b hb)⟩,
    rfl, e0.bare, Un.kept kp, ⟨_, hns, fun i y v e1 e2 e3 => ?_⟩, fun y c e => ?_, hide_none (e0.hok.fresh (Nat.le_refl _)), fun y c e => hide_in (cellIn e), fun p hp => absurd (show p ∈ ([] : List (Addr × Obj)) ++ [] from hp) (by simp), (HOk.hide e0.hok ax).kept kp, hl⟩
  · have hy : scope.names.lookup y = some .cell ∨ scope.names.lookup y = some .free := hy
    rcases hy with hy | hy
    · exact absurd rfl (L.own _ (PySem.mem_of_lookup hy)).2
    · exact C.has y hy
  · have z : false = true := z
    cases z
  · have e3 : Vis scope y := e3
    rcases e3 with k | k | k
    · exact absurd rfl (L.own _ (PySem.mem_of_lookup k)).1
    · exact absurd rfl (L.own _ (PySem.mem_of_lookup k)).2
    · obtain ⟨c, hc⟩ := C.has y k
      obtain ⟨j, v', u, h1, h2, r, z⟩ := val hc
      have e1 : N[i]? = some y := e1
      have ej : j = i := nodup_ix hN h1 e1
      subst ej
      rw [h2] at e2
      cases e2
      exact ⟨u, r, .inr ⟨.inr k, c, hc, z⟩⟩
  · obtain ⟨_, _, u, _, _, _, z⟩ := val (y := y) (c := c) e
    exact ⟨_, z⟩
/-- THE RULE: calling a lambda, by its body -/
theorem lam_ok {params : Arguments} {body : Expr} {k : Nat} {sp : Hp → VK → XK → Prop} (hN : N.Nodup) (L : LaS scope) (hbind : ∀ (cl : List (Str × Addr)) (pm cv ctv : Value), bindArgs (PySem.W.kla_fn "<lambda>" q params body scope cl pm cv ctv) ⟨[], []⟩ = pure [])
    (hsp : ∀ H Q E, sp H Q E → ∃ (c' : Addr) (clo : List (Str × Addr)) (σ : L2.St) (t : XK → TE), H f = some (LamO f q params body scope clo c') ∧ H c' = some (LamX.CodeO c' q) ∧ CloAt N σ scope clo H ∧ σ.length = N.length ∧
      (∀ (A : Around) (outer : List Env) (s : Shared) (H0 : Hp) (E0 : XK), Room k (A.deeper (laEnv q scope s.heap.objs.size f c' clo)) → PE (laCx P w K mg base N q scope f c' clo A outer s H0 E0) body (t E0)) ∧
      t (fun cls d H' => (∀ c ∈ clo.map (·.2), H' c = none) → E cls d (showH (clo.map (·.2)) H H')) σ (hideH (clo.map (·.2)) H) (fun v H' => (∀ c ∈ clo.map (·.2), H' c = none) → Q v (showH (clo.map (·.2)) H H'))) :
    LamOk P w K mg base (k + 1) f sp := by
  refine ⟨fun H h Q E hok h1 => ?_, fun A outer s H Q E hr e0 h1 => ?_⟩
  · obtain ⟨c', clo, σ, t, hf, _⟩ := hsp H Q E h1
    obtain ⟨⟨pm, ctv, e⟩, _, _⟩ := hok f _ hf
    exact ⟨_, _, _, _, e⟩
  · obtain ⟨c', clo, σ, t, hf, hc, C, hl, hb, ht⟩ := hsp H Q E h1
    obtain ⟨⟨pm, ctv, of1⟩, _, _⟩ := e0.hok f _ hf
    obtain ⟨⟨oc, vs, tq, hoc, hdc, hvc⟩, _, _⟩ := e0.hok c' _ hc
    have hfr : ∀ c ∈ clo.map (·.2), c ∉ frs outer := fun c hm z => by
      obtain ⟨φ, e⟩ := C.ext c hm
      rw [e0.frf c z] at e; cases e
    have lim : s.heap.NoLimit := e0.mod.nolimit.keeps fun b o e => (e0.bs b o e).1
    refine codeAny_mono (R := CR (L2.CX P w) outer P w (hideH (clo.map (·.2)) H) s (fun v H' => (∀ c ∈ clo.map (·.2), H' c = none) → Q v (showH (clo.map (·.2)) H H')) fun cls d H' => (∀ c ∈ clo.map (·.2), H' c = none) → E cls d (showH (clo.map (·.2)) H H')) ?_ fun r s' h => CR.shown e0.hok C.ext hfr (fun _ _ n q => q n) (fun _ _ _ n q => q n) h
    refine PySem.W.kla_callFunE hr.depth of1 rfl L.co L.gen rfl ⟨c', oc, vs, tq, rfl, hoc, hdc, hvc⟩ ?_
    rw [hbind]
    refine wpAny_pure (wpAny_newFunctionEnv (fun y hy => (L.own y hy).2) (fun y hy => absurd hy (by simp)) (fun h₁ hns hsb => ⟨lim.fresh _ hsb, ?_⟩) L.kind)
    show codeAny _ _ (.expr body (laEnv q scope s.heap.objs.size f c' clo)) _ _
    have kp : ∀ b o, s.heap.get? b = some o → h₁.get? b = some o := fun b o e => hsb.extBut b o (Nat.ne_of_lt (Heap.lt_size e)) (Heap.get?_push_of_some _ e)
    have J := la_start (f := f) (c' := c') (q := q) (E := fun cls d H' => (∀ c ∈ clo.map (·.2), H' c = none) → E cls d (showH (clo.map (·.2)) H H')) (h₁ := h₁) (tk := s.toks + ([] : List (Str × Value)).length) hN hl L e0 C hr.hd hns kp
    refine PySem.W.kla_codeExpr (wpAny_mono ((hb A outer s _ _ (hr.deeper _)).run [] _ _ _ (fun v H' => (∀ c ∈ clo.map (·.2), H' c = none) → Q v (showH (clo.map (·.2)) H H')) J ht) (fun v s' hq => ?_) fun e s' hq => hq)
    obtain ⟨w', H', J', rv, q⟩ := hq
    exact ⟨w', H', J'.os, J'.bare, J'.base, J'.hok, rv, q⟩
end
end Dy
set_option Elab.async false
set_option maxRecDepth 100000
set_option maxHeartbeats 4000000
namespace Dy
open PySem PySem.Spec PyProof.Rows L2 GenW
/-! ### a def that hands out closures: its cells are tracked when it is left -/
def trkC (cs : List (Addr × V)) (H : Hp) : Hp := fun b => match cs.lookup b with
  | some v => some (CellO b v)
  | none => H b
theorem trkC_some {cs : List (Addr × V)} {H : Hp} {b : Addr} {v : V} (h : cs.lookup b = some v) : trkC cs H b = some (CellO b v) := by unfold trkC; rw [h]
theorem trkC_none {cs : List (Addr × V)} {H : Hp} {b : Addr} (h : cs.lookup b = none) : trkC cs H b = H b := by unfold trkC; rw [h]
theorem fin_cells {X : Cx} {σ : L2.St} {H1 : Hp} {s' : Shared} {cs : List (Addr × V)} (I1 : Inv X [] σ H1 s') (hex : X.ex = []) (hok0 : HOk X.prog X.w X.H_0 X.s_0.heap)
    (hcs : ∀ (c : Addr) (v : V), cs.lookup c = some v → ∃ (i : Nat) (y : Str), X.N[i]? = some y ∧ σ[i]? = some (some v) ∧ X.env.scope.names.lookup y = some NameKind.cell ∧ X.env.cells.lookup y = some c ∧ X.s_0.heap.objs.size ≤ c) :
    Un X.fs [] X.H_0 (trkC cs H1) X.s_0.heap s'.heap ∧ HOk X.prog X.w (trkC cs H1) s'.heap := by
  have old : ∀ b, b < X.s_0.heap.objs.size → trkC cs H1 b = H1 b := fun b hb => by
    cases e : cs.lookup b with
    | none => exact trkC_none e
    | some v =>
      obtain ⟨_, _, _, _, _, _, h⟩ := hcs b v e
      exact absurd hb (Nat.not_lt_of_le h)
  have lt0 : ∀ b u, X.H_0 b = some u → b < X.s_0.heap.objs.size := fun b u e => hok0.lt e
  have nx : ∀ b, b ∉ X.ex := fun b hb => by rw [hex] at hb; cases hb
  have u := I1.base
  refine ⟨⟨fun b o e n hb _ => u.keep b o e n hb (nx b), fun b o e n hb _ => u.slot b o e n hb (nx b), fun b o e n _ => by rw [old b (Heap.lt_size e)]; exact u.free b o e n (nx b), fun b o e _ => u.there b o e (nx b),
    fun b xs e => by rw [old b (lt0 b _ e)]; exact u.tups b xs e, fun b o x e => by rw [old b (lt0 b _ e)]; exact u.frzs b o x e, fun b ps e => by rw [old b (lt0 b _ e)]; exact u.tbls b ps e⟩, fun b o e => ?_⟩
  have out : ∀ d o, H1 d = some o → trkC cs H1 d = some o := fun d o q => by
    cases e : cs.lookup d with
    | none => rw [trkC_none e]; exact q
    | some v =>
      obtain ⟨_, y, _, _, _, h, _⟩ := hcs d v e
      rw [I1.freeC y d h] at q; cases q
  cases hl : cs.lookup b with
  | none =>
    rw [trkC_none hl] at e
    exact (I1.hok b o e).stay (fun _ _ _ q => q) (fun d q => out d _ q) fun d xs q => out d _ q
  | some v =>
    rw [trkC_some hl] at e
    cases e
    obtain ⟨i, y, h1, h2, h3, h4, _⟩ := hcs b v hl
    obtain ⟨m, _, hlk⟩ := I1.loc
    obtain ⟨u, r, q⟩ := hlk i y v h1 h2 (.inr (.inl h3))
    rcases q with ⟨k, _⟩ | ⟨_, c, e2, z⟩
    · have k : X.env.scope.names.lookup y = some .local := k
      rw [h3] at k; cases k
    · rw [h4] at e2
      cases e2
      exact cellO_ok r z
theorem execs_step {X : Cx} {st : Stmt} {rest : List Stmt} {t : TS} {σ : L2.St} {H : Hp} {s : Shared} {R : L2.St → Hp → Prop} {Qf : Flow → Shared → Prop} (h : PS X st t) (I : Inv X [] σ H s) (ht : t { nx := R, rt := fun _ _ => False } σ H)
    (hn : ∀ s' σ' H', Inv X [] σ' H' s' → R σ' H' → wpAny (model X.prog X.w) X.A (execs rest X.env) Qf X.xe s') : wpAny (model X.prog X.w) X.A (execs (st :: rest) X.env) Qf X.xe s := by
  refine wpAny_execs_cons (thn (h.run [] s σ H _ I ht) fun f s1 q => ?_)
  cases f with
  | next =>
    obtain ⟨σ', H', I', q⟩ := q
    exact hn s1 σ' H' I' q
  | ret v => obtain ⟨_, _, _, _, _, q⟩ := q; exact False.elim q
  | brk => obtain ⟨_, _, _, q⟩ := q; exact False.elim q
  | cont => obtain ⟨_, _, _, q⟩ := q; exact False.elim q
/-- a def whose body is run by hand -/
theorem fn_by {CX : CXT} {P : Program} {w : World} {K : PySem.W.Frag} {mg : Str → Option Value} {base : Heap} {k : Nat} {f : Addr} {name qual : Str} {params : Arguments} {body : List Stmt} {scope : Scope} {dV kV doc pm cdv ct oc : Value} {an od : Option Addr}
    {osl : Array (Option Value)} {N ps : List Str} {sp : Sp} (lk : K.lookup f = some ⟨oc, od, .func (PySem.W.fnOf name qual params body scope dV kV doc pm an cdv ct), osl⟩) (hcd : PySem.W.codeIn K cdv qual = true) (S : FnScope N ps scope)
    (len : ∀ vs H Q E, sp vs H Q E → vs.length = ps.length)
    (hbody : ∀ (A : Around) (outer : List Env) (s s1 : Shared) (H : Hp) (vs : List V) (Q : VK) (E : XK), Room k (A.deeper (envOfC qual scope s.heap.objs.size f cdv)) → sp vs H Q E → HOk P w H s.heap → Inv (cxOf CX P w K mg base N qual scope f cdv A outer s H E) [] (L2.start N vs) H s1 →
      wpAny (model P w) (A.deeper (envOfC qual scope s.heap.objs.size f cdv)) (execs body (envOfC qual scope s.heap.objs.size f cdv)) (fun fl s' => ∃ u, fl = .ret u ∧ CE outer P w H s Q u s') (cxOf CX P w K mg base N qual scope f cdv A outer s H E).xe s1) :
    FnOk P w K mg base CX (k + 1) f (PySem.W.fnOf name qual params body scope dV kV doc pm an cdv ct) ps sp := by
  refine ⟨len, fun A outer s H args us vs Q E hr e0 hb r hsp => ?_⟩
  have hl := len _ _ _ _ hsp
  have KX : K.In s.heap := e0.mod.kin.keeps fun b o e => (e0.bs b o e).1
  have lim : s.heap.NoLimit := e0.mod.nolimit.keeps fun b o e => (e0.bs b o e).1
  have hkind : ∀ y ∈ ps.zip us, scope.names.lookup y.1 = some .local ∨ (scope.names.lookup y.1 = some .cell ∧ ((cellsFrom (s.heap.objs.size + 1) scope.names []).lookup y.1).isSome = true) := fun ⟨n, v⟩ hy => by
    rcases S.par n (List.of_mem_zip hy).1 with q | q
    · exact .inl q
    · exact .inr ⟨q, PySem.W.cellsFrom_some _ _ _ (.inl q)⟩
  refine codeAny_call_function hr.depth (KX _ _ lk) rfl S.co S.gen rfl (PySem.W.codeRec_of KX hcd) (hb _ _ _ _ ?_)
  refine wpAny_newFunctionEnv_cells S.kind hkind fun env he s1 x => ?_
  subst he
  refine ⟨lim.keeps x.toInCall.keep, codeAny_func ?_⟩
  have I : Inv (cxOf CX P w K mg base N qual scope f cdv A outer s H E) [] (L2.start N vs) H s1 := inv_start S hr.hd e0 hl r x
  refine wpAny_mono (hbody A outer s s1 H vs Q E (hr.deeper _) hsp e0.hok I) (fun fl s' hs => ?_) fun e s' hs => hs
  obtain ⟨u, rfl, h⟩ := hs
  exact h
end Dy
set_option Elab.async false
set_option maxRecDepth 100000
set_option maxHeartbeats 4000000
namespace Dy
open PySem PySem.Spec PyProof.Rows L2 GenW
/-! ### set(..) of a list or tuple of ints, sorted -/
section
variable {P : Program} {w : World} {A : Around} {E : Value → Shared → Prop} {s : Shared}
set_option maxHeartbeats 8000000 in
theorem set_listI {l : Addr} {items : Array Value} (ns : List Int) {Q : Value → Shared → Prop} (hh : A.handled = none) (hl : s.heap.IsList l items) (hit : IntsAre items.toList ns) (hb : ns.length + 1 < scanBound)
    (h : ∀ (h' : Heap) (tk c : Nat), SetR w h' s.heap.objs.size (fun j => decide (j ∈ ns)) c → c ≤ ns.length → (∀ b o, s.heap.get? b = some o → h'.get? b = some o) → Q (.ref s.heap.objs.size) { s with heap := h', toks := tk }) :
    wpAny (model P w) A (call (.type "set") [.ref l]) Q E s := by
  have hisz : items.size = ns.length := by
    have q := IntsAre.length hit
    rw [Array.length_toList] at q
    exact q
  obtain ⟨c, tl, hmro⟩ := F.called_set.mro
  have hmade := F.called_set.made
  have hsub := F.called_set.sub
  refine wpAny_call (codeAny_of_tree ?_)
  show wpAny _ _ (callAny (.type "set") _) _ _ _
  refine wpAny_pure ⟨Code.quiet_builtin _ (by decide +kernel), codeAny_builtin F.entry_type_call ?_⟩
  rw [Around.under_plain (weight_type_call_type "set" [.ref l] []) rfl]
  have h1 := F.called_set.notType
  have h2 := F.called_set.canCreate
  have hct := F.typeCall_set_1 (.ref l)
  repeat (any_goals (first | assumption | wp_step))

  refine codeAny_mono (code_set_led1 (.ref l) (E := E) (Q₁ := fun obj s₁ => obj = .ref s.heap.objs.size ∧ s₁ = { s with heap := s.heap.push { cls := .type "set", dict := none, data := .set #[] 0 (.fresh 0 0 (!w.params.followText "set-order")) } }) ⟨rfl, rfl⟩) fun r s₁ hr => ?_
  cases r with
  | error e => exact hr
  | ok fl =>
    cases fl with
    | ret obj =>
      obtain ⟨rfl, rfl⟩ := hr
      have hS : (s.heap.push { cls := .type "set", dict := none, data := .set #[] 0 (.fresh 0 0 (!w.params.followText "set-order")) }).get? s.heap.objs.size = some { cls := .type "set", dict := none, data := .set #[] 0 (.fresh 0 0 (!w.params.followText "set-order")) } := Heap.get?_push_size _ rfl
      have hT : Shared.TypeIs { s with heap := s.heap.push { cls := .type "set", dict := none, data := .set #[] 0 (.fresh 0 0 (!w.params.followText "set-order")) } } (.ref s.heap.objs.size) "set" := ⟨_, hS, rfl⟩
      have hli := F.called_set.init.lookup
      have hbi := F.called_set.init.bind (.ref s.heap.objs.size)
      repeat (any_goals (first | assumption | wp_step))

      refine codeAny_mono (codeAny_call_builtin (R := wants (fun r s₂ => r = .none ∧ ∃ h' tk c, s₂ = { s with heap := h', toks := tk } ∧ SetR w h' s.heap.objs.size (fun j => decide (j ∈ ns)) c ∧ c ≤ ns.length ∧
          (∀ b o, s.heap.get? b = some o → h'.get? b = some o)) E) F.called_set.init.plain F.entry_set_init (check_set_init_1 hT ?_)) fun r₂ s₂ hr₂ => ?_
      · obtain ⟨ol, hol, hcl, nl, hdl⟩ := hl
        obtain ⟨ocls, odict, odata, oslots⟩ := ol
        simp only at hcl hdl
        subst hcl; subst hdl
        have hol' : (s.heap.push { cls := .type "set", dict := none, data := .set #[] 0 (.fresh 0 0 (!w.params.followText "set-order")) }).get? l = some { cls := .type "list", dict := odict, data := .seq items nl, slots := oslots } := Heap.get?_push_of_some _ hol
        have hsls := F.sub_list_set
        have hslf := F.sub_list_frozenset
        have hne : (Value.type "list" == Value.type "dict") = false := by decide
        have hl1 : (s.heap.push { cls := .type "set", dict := none, data := .set #[] 0 (.fresh 0 0 (!w.params.followText "set-order")) }).IsList l items := ⟨_, hol', rfl, nl, rfl⟩
        unfold Builtin.«set.__init__» noKeywords Builtin.Frozenset.updateFrom
        generalize hPI : pyIter = PI
        wp_walk
        subst hPI

        refine wpAny_pyIter_list hl1 ?_
        refine wpAny_bind (wpAny_runValue ?_)
        have hlS : l < s.heap.objs.size := Heap.lt_size hol
        have hh3 : A.in1.in1.in1.handled = none := by simp [hh]
        have hz1 : (s.heap.push { cls := .type "set", dict := none, data := .set #[] 0 (.fresh 0 0 (!w.params.followText "set-order")) }).objs.size = s.heap.objs.size + 1 := Heap.size_push ..
        have hneI : l ≠ (s.heap.push { cls := .type "set", dict := none, data := .set #[] 0 (.fresh 0 0 (!w.params.followText "set-order")) }).objs.size := by
          rw [Heap.size_push]; exact Nat.ne_of_lt (Nat.lt_succ_of_lt hlS)
        have hSf : s.heap.objs.size ∉ [(s.heap.push { cls := .type "set", dict := none, data := .set #[] 0 (.fresh 0 0 (!w.params.followText "set-order")) }).objs.size, l] := by
          rw [Heap.size_push]; simp only [List.mem_cons, List.mem_singleton, List.not_mem_nil, or_false, not_or]
          exact ⟨Nat.ne_of_lt (Nat.lt_succ_self _), Nat.ne_of_gt hlS⟩
        have hval : ∀ (i : Nat) (v : Value), items[i]? = some v → ∃ k t, ns[i]? = some k ∧ v = .int k t := fun i v hv => by
          have hi : i < ns.length := by rw [← hisz]; exact (Array.getElem?_eq_some_iff.mp hv).1
          obtain ⟨t, e⟩ := PyProof.Rows.IntsAre.int_at hit i v (by rw [Array.getElem?_toList]; exact hv)
          refine ⟨ns[i], t, List.getElem?_eq_getElem hi, ?_⟩
          rw [e, List.getD_eq_getElem?_getD, List.getElem?_eq_getElem hi] <;> rfl
        refine set_update_ints ((Walks.list hh3 _ l hneI items).toS) s.heap.objs.size
          hSf ns hisz hb hval (items.size - 0) 0 _ (by omega) (Nat.zero_le _)
          ⟨⟨_, Heap.get?_push_size _ rfl, rfl, rfl⟩, (hl1.push _)⟩ ?hS0 ?hR
        case hS0 =>
          have hget : ((s.heap.push { cls := .type "set", dict := none, data := .set #[] 0 (.fresh 0 0 (!w.params.followText "set-order")) }).push { cls := .type "list_iterator", data := .fields #[.ref l, .int 0 0] }).get? s.heap.objs.size
              = some { cls := .type "set", dict := none, data := .set #[] 0 (.fresh 0 0 (!w.params.followText "set-order")) } := Heap.get?_push_of_some _ hS
          exact ⟨0, Nat.le_refl 0, setR_new_at hget⟩
        case hR =>
          intro s' c' hm hc' hS'
          obtain ⟨h', g2, d', tk', os'⟩ := s'
          have eg : g2 = s.gens := hm.gens
          have ed : d' = s.drawn := hm.drawn
          have eo : os' = s.os := hm.os
          subst eg; subst ed; subst eo
          show wpAny _ _ _ _ _ _
          refine wpAny_pure ?_
          show wpAny _ _ (ret Value.none) _ _ _
          rw [hisz] at hc'
          refine wpAny_pure ⟨rfl, h', tk', c', rfl, hS', hc', fun b o e => ?_⟩
          have hb0 : b < s.heap.objs.size := Heap.lt_size e
          have hb1 : b ≠ s.heap.objs.size := Nat.ne_of_lt hb0
          have hb2 : b ≠ (s.heap.push { cls := .type "set", dict := none, data := .set #[] 0 (.fresh 0 0 (!w.params.followText "set-order")) }).objs.size := by
            rw [Heap.size_push]; exact Nat.ne_of_lt (Nat.lt_succ_of_lt hb0)
          exact hm.heap b o (by simp only [List.mem_cons, List.mem_singleton, List.not_mem_nil, or_false, not_or]; exact ⟨hb1, hb2⟩) (Heap.get?_push_of_some _ (Heap.get?_push_of_some _ e))

      · cases r₂ with
        | error e => exact hr₂
        | ok fl₂ =>
          cases fl₂ with
          | ret r =>
            obtain ⟨rfl, h', tk, c', rfl, hS', hc', hk'⟩ := hr₂
            repeat (any_goals (first | assumption | wp_step))
            exact h _ _ _ hS' hc' hk'
          | _ => exact hr₂.elim
    | _ => exact hr.elim

end
section
variable {X : Cx}
def rSetI (K : PySem.W.Frag) (w : World) : List V → Hp → VK → Prop := fun xs H Q => ∃ (l : Addr) (ns : List Int), xs = [V.ref l] ∧ (SqL K H l (ns.map V.int) ∨ SqT K H l (ns.map V.int)) ∧ ns.length + 1 < scanBound ∧
  ∀ (p : Addr) (c : Nat), c ≤ ns.length → H p = none → Q (.ref p) (upd H p (SetO w p (fun j => decide (j ∈ ns)) c))
theorem cr_setI (hc : X.calm = true) : CallR X (.type "set") (rSetI X.K X.w) := by
  intro pins s σ H xs us Q I r h
  obtain ⟨l, ns, rfl, hs, hb, q⟩ := h
  obtain ⟨u, rfl, ru⟩ := vals1 r
  cases ru
  have fin : ∀ (h' : Heap) (tk c : Nat), SetR X.w h' s.heap.objs.size (fun j => decide (j ∈ ns)) c → c ≤ ns.length → (∀ b o, s.heap.get? b = some o → h'.get? b = some o) →
      EP X pins σ Q (.ref s.heap.objs.size) { s with heap := h', toks := tk } := fun h' tk c hR hc' hk =>
    ⟨.ref s.heap.objs.size, _, I.laid (t' := tk) (o := SetO X.w s.heap.objs.size (fun j => decide (j ∈ ns)) c) hk (Nat.le_refl _) (setO_new hR), rfl, q _ c hc' (I.hok.fresh (Nat.le_refl _))⟩
  rcases hs with hs | hs
  · obtain ⟨its, rv, hl, hlen⟩ := I.list hs
    exact set_listI ns (I.ok.hd hc) hl.isList (by simpa using intsAre_of rv) hb fin
  · obtain ⟨its, rv, ht, hlen⟩ := I.tuple hs
    exact call_set_tupI ns (I.ok.hd hc) ht (by simpa using intsAre_of rv) hb fin
/-- list.count(True) -/
def eqB (k : Bool) (v : Value) : Bool := match v with
  | .bool b => b == k
  | _ => false
def rCntB (K : PySem.W.Frag) : V → List V → Hp → VK → Prop := fun x xs H Q => ∃ (p : Addr) (bs : List Bool) (k : Bool), x = .ref p ∧ xs = [.bl k] ∧ SqL K H p (bs.map V.bl) ∧ Q (.int (bs.count k : Nat)) H
theorem bools_of : ∀ {bs : List Bool} {us : List Value}, Vals (bs.map V.bl) us → us = bs.map Value.bool
  | [], _, .nil => rfl
  | b :: bs, _, .cons r t => by
    have e := bools_of t
    have r : _ = Value.bool b := r
    rw [e, r]
    rfl
theorem eqB_count (k : Bool) : ∀ bs : List Bool, (bs.map Value.bool).countP (eqB k) = bs.count k
  | [] => rfl
  | b :: bs => by
    rw [List.map_cons, List.countP_cons, eqB_count k bs, List.count_cons]
    rfl
theorem mt_countB : MtR X "list.count" (rCntB X.K) := by
  intro pins s σ H x xs v us Q I rx rxs h
  obtain ⟨p, bs, k, rfl, rfl, hs, q⟩ := h
  cases rx
  obtain ⟨u, rfl, ru⟩ := rxs.one
  have ru : u = Value.bool k := ru
  subst ru
  obtain ⟨its, rv, ⟨⟨cls, dd, data, sl⟩, n, ho, hc, hdn, hd⟩, hlen⟩ := I.list hs
  simp only at hc hd
  subst hc hd
  have hi := bools_of rv
  refine call_meets PySem.F.slot_list_count ⟨_, ho, rfl⟩ PySem.F.entry_list_count (PySem.F.args_list_count_2 _ _)
    (SeqAt.list_countAt p its.toArray n dd sl (.bool k) (eqB k)) ⟨ho, fun y hy => ?_, ?_⟩
  · have hy : y ∈ its := by simpa using hy
    rw [hi] at hy
    obtain ⟨b, _, rfl⟩ := List.mem_map.mp hy
    exact SeqAt.EqAt.bool_bool b k
  · have ec : its.toArray.toList.countP (eqB k) = bs.count k := by
      rw [List.toList_toArray, hi]
      exact eqB_count k bs
    refine ⟨.int (bs.count k : Nat), H, I.tok _, ⟨s.toks, ?_⟩, q⟩
    show Value.int ((its.toArray.toList.countP (eqB k) : Nat) : Int) s.toks = Value.int ((bs.count k : Nat) : Int) s.toks
    rw [ec]
end
end Dy
set_option Elab.async false
set_option maxRecDepth 100000
set_option maxHeartbeats 4000000
namespace Dy
open PySem PySem.Spec PyProof.Rows L2 GenW
section
variable {X : Cx}
/-! ### o.f as one of several targets -/
def gFld (K : PySem.W.Frag) (to : TE) (f : Str) : TG := fun v σ H Q => to σ H fun x H1 => ∃ (a C dx : Addr) (fs : List (Str × V)), x = .ref a ∧ H1 a = some (.ins C dx fs) ∧ Cls K C ∧ NoAttr K C f ∧ fs.length < 1000 ∧ Q σ (upd H1 a (.ins C dx (putF f v fs)))
theorem pg_fld {o : Expr} {to : TE} {f : Str} {pos : Pos} (ho : PE X o to) : PG X (.Attribute o f pos) (gFld X.K to f) := by
  refine ⟨fun pins s σ H v u Q I r h => ?_⟩
  rw [assign_Attribute]
  refine wpAny_bind (wpAny_holding (thn (ho.run pins s σ H _ I h) fun ov s1 ⟨x, H1, I1, r1, q1⟩ => ?_))
  obtain ⟨a, C, dx, fs, ex, ea, c, n, l, q⟩ := q1
  subst ex
  obtain rfl : ov = Value.ref a := r1
  refine wpAny_bind (wpAny_standAt (wpAny_bind (wpAny_holding ?_)))
  exact setattr_ok I1 ea c n l r fun s3 I3 => wpAny_release ⟨σ, _, I3, q⟩
/-! ### X(), X an own exception class without own __init__ -/
theorem pmk_own0 {C : Addr} {bmB : List Value} {B newId initId : String} {x : Str} {p pos : Pos} (F : ExcBaseFacts B newId initId bmB) (q : PySem.W.excIn X.K C bmB newId = true) (gC : X.mg x = some (.ref C))
    (kC : PySem.W.keepIn X.K (.ref C) = true) (r : Raises X (.ref C)) (hg : Gl X x) (hdb : (x == ("__debug__" : Str)) = false := by decide) :
    PMk X (.Call (.Name x p) [] [] pos) (fun _ H Q => Q (.ref C) none H) := by
  intro pins s σ H Q I h
  refine wpAny_Call_Name_kw (ld_glob I hg gC ?_ hdb)
  refine PySem.W.callWith_K0 I.kIn kC ?_
  show wpAny _ _ (call (.ref C) []) _ _ _
  obtain ⟨bm, N, nm, qn, bs, hdct, sn, sub, ab, col, dd, k0, k1, k2, k3, k5, mN, hC, hN, hni, T⟩ := exc_obj I.kIn q
  refine wpAny_call_exc_subT F T hC hN hni (fun h' e hm => ?_) (by show 0 ≤ sizeLine; omega)
  exact mk_of I hm r h (I.hok.gone hm.new)
/-! ### isinstance(e, c), e the exception that the suite holds; its class with an own dict -/
end
/-- isinstance(e, c), e the caught exception of the class at D with its dict at dx -/
def rIsD (K : PySem.W.Frag) (D a dx : Addr) : List V → Hp → VK → Prop := fun xs H Q => ∃ (c : V) (cv : Value) (b : Bool) (fs : List (Str × V)), xs = [.ref a, c] ∧ (∀ u, RelV c u → u = cv) ∧ PySem.W.kitOne K (.ref D) cv = some b ∧ H dx = some (.xd fs) ∧ Q (.bl b) H
theorem call_isD {X : Cx} {a D dx : Addr} {oe : Obj} {pn : List (Addr × Obj)} (C : ExcC X.K D) (hz : Zc (.ref D) (some dx) oe) (hf : ∃ vs, oe.data = .fields vs) : CallR (X.suite a ((a, oe) :: pn)) (.builtin "isinstance") (rIsD X.K D a dx) := by
  intro pins s σ H xs us Q I r h
  obtain ⟨c, cv, b, fs, rfl, hcv, e, hdx, q⟩ := h
  cases r with
  | cons rx rr =>
    cases rr with
    | cons rt rr =>
      cases rr
      cases rx
      have ec := hcv _ rt
      subst ec
      obtain ⟨hget, _⟩ := I.pin (a, oe) (List.mem_append.mpr (.inl List.mem_cons_self))
      obtain ⟨vs, hv⟩ := hf
      have hx : ObjOk X.prog X.w H s.heap dx (.xd fs) := I.hok dx _ hdx
      obtain ⟨mA, hns, hrel⟩ := hx
      obtain ⟨od, ho, hl⟩ := lookIn_ns hns
      have J : PySem.W.InstAt s.heap a oe D (some od) := ⟨hget, hz.1, by unfold PySem.W.notCls; rw [hv] <;> rfl, by rw [hz.2]; exact ho⟩
      have hcl : (PySem.W.clsIn X.K D).isSome = true := by
        obtain ⟨cd, hc, _⟩ := PySem.W.any_some C.hd
        rw [hc]; rfl
      exact PySem.W.kia_one (PySem.W.kitx_exc hcl C.hg C.hk C.hs C.ha C.hn C.ht C.hm) I.kIn J e (fun z => nomatch z) fun tk => ⟨.bl b, H, I.kept (t' := tk) fun _ _ z => z, rfl, q⟩
/-- both: with and without a dict -/
def rIsX (K : PySem.W.Frag) (a : Addr) (cls : Value) (d : Option Addr) : List V → Hp → VK → Prop := fun xs H Q => ∃ (D : Addr), cls = .ref D ∧ ExcC K D ∧ ∃ (c : V) (cv : Value) (b : Bool), xs = [.ref a, c] ∧ (∀ u, RelV c u → u = cv) ∧ PySem.W.kitOne K (.ref D) cv = some b ∧ (∀ dx, d = some dx → ∃ fs, H dx = some (.xd fs)) ∧ Q (.bl b) H
theorem call_isX {X : Cx} {a : Addr} {cls : Value} {d : Option Addr} {oe : Obj} {pn : List (Addr × Obj)} (hz : Zc cls d oe) (hf : ∃ vs, oe.data = .fields vs) : CallR (X.suite a ((a, oe) :: pn)) (.builtin "isinstance") (rIsX X.K a cls d) := by
  intro pins s σ H xs us Q I r h
  obtain ⟨D, rfl, C, c, cv, b, e1, h1, h2, h3, q⟩ := h
  cases d with
  | none => exact call_isE C hz hf pins s σ H xs us Q I r ⟨c, cv, b, e1, h1, h2, q⟩
  | some dx =>
    obtain ⟨fs, hx⟩ := h3 dx rfl
    exact call_isD C hz hf pins s σ H xs us Q I r ⟨c, cv, b, fs, e1, h1, h2, hx, q⟩
end Dy
set_option Elab.async false
set_option maxRecDepth 100000
set_option maxHeartbeats 4000000
namespace Dy
open PySem PySem.Spec PyProof.Rows L2 GenW
/-! ### plain mathematics: ascending lists -/
def insA (x : Int) : List Int → List Int
  | [] => [x]
  | y :: ys => if x < y then x :: y :: ys else if x = y then y :: ys else y :: insA x ys
def uni (l : List Int) : List Int := l.foldr insA []
def Asc (l : List Int) : Prop := l.Pairwise (· < ·)
theorem mem_insA {x y : Int} : ∀ {l : List Int}, y ∈ insA x l ↔ y = x ∨ y ∈ l
  | [] => by simp [insA]
  | z :: l => by
    unfold insA
    by_cases h1 : x < z
    · rw [if_pos h1]; simp
    · rw [if_neg h1]
      by_cases h2 : x = z
      · rw [if_pos h2]
        subst h2
        simp
      · rw [if_neg h2, List.mem_cons, mem_insA, List.mem_cons]
        constructor
        · rintro (h | h | h)
          · exact .inr (.inl h)
          · exact .inl h
          · exact .inr (.inr h)
        · rintro (h | h | h)
          · exact .inr (.inl h)
          · exact .inl h
          · exact .inr (.inr h)
theorem asc_insA {x : Int} : ∀ {l : List Int}, Asc l → Asc (insA x l)
  | [], _ => by unfold insA Asc; simp
  | z :: l, h => by
    obtain ⟨h1, h2⟩ := List.pairwise_cons.mp h
    unfold insA
    by_cases c1 : x < z
    · rw [if_pos c1]
      refine List.pairwise_cons.mpr ⟨fun y hy => ?_, h⟩
      rcases List.mem_cons.mp hy with e | e
      · rw [e]; exact c1
      · exact Int.lt_trans c1 (h1 y e)
    · rw [if_neg c1]
      by_cases c2 : x = z
      · rw [if_pos c2]; exact h
      · rw [if_neg c2]
        refine List.pairwise_cons.mpr ⟨fun y hy => ?_, asc_insA h2⟩
        rcases mem_insA.mp hy with e | e
        · rw [e]; omega
        · exact h1 y e
theorem mem_uni {y : Int} : ∀ {l : List Int}, y ∈ uni l ↔ y ∈ l
  | [] => by simp [uni]
  | z :: l => by
    show y ∈ insA z (uni l) ↔ _
    rw [mem_insA, mem_uni, List.mem_cons]
theorem asc_uni : ∀ l : List Int, Asc (uni l)
  | [] => List.Pairwise.nil
  | z :: l => asc_insA (asc_uni l)
theorem asc_ext : ∀ {l m : List Int}, Asc l → Asc m → (∀ x, x ∈ l ↔ x ∈ m) → l = m
  | [], [], _, _, _ => rfl
  | [], y :: m, _, _, h => absurd ((h y).mpr List.mem_cons_self) (by simp)
  | x :: l, [], _, _, h => absurd ((h x).mp List.mem_cons_self) (by simp)
  | x :: l, y :: m, hl, hm, h => by
    obtain ⟨l1, l2⟩ := List.pairwise_cons.mp hl
    obtain ⟨m1, m2⟩ := List.pairwise_cons.mp hm
    have e : x = y := by
      rcases List.mem_cons.mp ((h x).mp List.mem_cons_self) with a | a
      · exact a
      · rcases List.mem_cons.mp ((h y).mpr List.mem_cons_self) with b | b
        · exact b.symm
        · have := m1 x a
          have := l1 y b
          omega
    subst e
    rw [asc_ext l2 m2 fun z => ?_]
    constructor
    · intro hz
      rcases List.mem_cons.mp ((h z).mp (List.mem_cons_of_mem _ hz)) with a | a
      · have := l1 z hz
        omega
      · exact a
    · intro hz
      rcases List.mem_cons.mp ((h z).mpr (List.mem_cons_of_mem _ hz)) with a | a
      · have := m1 z hz
        omega
      · exact a
theorem uni_of {l ns : List Int} (h : Asc ns) (m : ∀ x, x ∈ ns ↔ x ∈ l) : ns = uni l := asc_ext h (asc_uni l) fun x => (m x).trans mem_uni.symm
/-- a lot: ascending, within [0, n) -/
structure Lot (n : Int) (l : List Int) : Prop where
  asc : Asc l
  lo : ∀ x ∈ l, 0 ≤ x
  hi : ∀ x ∈ l, x < n
theorem asc_len : ∀ {l : List Int} {a b : Int}, Asc l → (∀ x ∈ l, a ≤ x) → (∀ x ∈ l, x < b) → (l.length : Int) ≤ b - a ∨ l = []
  | [], _, _, _, _, _ => .inr rfl
  | x :: l, a, b, h, lo, hi => by
    obtain ⟨h1, h2⟩ := List.pairwise_cons.mp h
    have hx := lo x List.mem_cons_self
    have hx2 := hi x List.mem_cons_self
    refine .inl ?_
    rcases asc_len (a := x + 1) (b := b) h2 (fun y hy => by have := h1 y hy; omega) (fun y hy => hi y (List.mem_cons_of_mem _ hy)) with e | e
    · rw [List.length_cons]; omega
    · rw [e]; simp; omega
theorem Lot.len {n : Int} {l : List Int} (h : Lot n l) (hn : n ≤ 4) : l.length ≤ 4 := by
  rcases asc_len h.asc h.lo h.hi with e | e
  · omega
  · rw [e]; simp
theorem Lot.nil (n : Int) : Lot n [] := ⟨List.Pairwise.nil, fun x h => absurd h (by simp), fun x h => absurd h (by simp)⟩
theorem Lot.uni {n : Int} {l : List Int} (h : ∀ x ∈ l, 0 ≤ x ∧ x < n) : Lot n (uni l) := ⟨asc_uni l, fun x hx => (h x (mem_uni.mp hx)).1, fun x hx => (h x (mem_uni.mp hx)).2⟩
theorem Lot.mem {n : Int} {l : List Int} (h : Lot n l) {x : Int} (hx : x ∈ l) : 0 ≤ x ∧ x < n := ⟨h.lo x hx, h.hi x hx⟩
/-! ### plain mathematics: works, kinds, passes -/
structure KindD where
  wants : List Int
  bars : List Int
  routes : List (List Int)
structure WorksD where
  dyes : Int
  vats : List (List Int)
  kinds : List KindD
structure KindOk (w : Int) (n : Nat) (k : KindD) : Prop where
  wants : Lot w k.wants
  bars : Lot w k.bars
  r1 : 1 ≤ k.routes.length
  r4 : k.routes.length ≤ 4
  route : ∀ r ∈ k.routes, 1 ≤ r.length ∧ r.length ≤ 3 ∧ ∀ v ∈ r, 0 ≤ v ∧ v < (n : Int)
structure WorksOk (w : WorksD) : Prop where
  d1 : 1 ≤ w.dyes
  d4 : w.dyes ≤ 4
  v1 : 1 ≤ w.vats.length
  v4 : w.vats.length ≤ 4
  k1 : 1 ≤ w.kinds.length
  k3 : w.kinds.length ≤ 3
  vat : ∀ l ∈ w.vats, Lot w.dyes l
  kind : ∀ k ∈ w.kinds, KindOk w.dyes w.vats.length k
/-- one vat of a route -/
def stepD (tr : List (List Int)) (c : List Int) (v : Int) : List (List Int) × List Int := (tr.set v.toNat (uni (c ++ tr.getD v.toNat [])), uni (c ++ tr.getD v.toNat []))
def passD : List Int → List (List Int) → List Int → List (List Int) × List Int
  | [], tr, c => (tr, c)
  | v :: r, tr, c => passD r (stepD tr c v).1 (stepD tr c v).2
/-- a stand: so many lots as vats -/
structure StandOk (w : WorksD) (tr : List (List Int)) : Prop where
  len : tr.length = w.vats.length
  lot : ∀ l ∈ tr, Lot w.dyes l
theorem getD_mem {α : Type} {l : List α} {i : Nat} {d : α} (h : i < l.length) : l.getD i d ∈ l := by
  rw [List.getD_eq_getElem?_getD, List.getElem?_eq_getElem h]
  exact List.getElem_mem h
theorem step_ok {w : WorksD} {tr : List (List Int)} {c : List Int} {v : Int} (h : StandOk w tr) (hc : Lot w.dyes c) (hv : 0 ≤ v ∧ v < (w.vats.length : Int)) : StandOk w (stepD tr c v).1 ∧ Lot w.dyes (stepD tr c v).2 := by
  have hi : v.toNat < tr.length := by rw [h.len]; omega
  have hl : Lot w.dyes (uni (c ++ tr.getD v.toNat [])) := Lot.uni fun x hx => by
    rcases List.mem_append.mp hx with e | e
    · exact hc.mem e
    · exact (h.lot _ (getD_mem hi)).mem e
  refine ⟨⟨by show (tr.set _ _).length = _; rw [List.length_set, h.len], fun l hm => ?_⟩, hl⟩
  rcases List.mem_or_eq_of_mem_set hm with e | e
  · exact h.lot l e
  · rw [e]; exact hl
theorem pass_ok {w : WorksD} : ∀ {r : List Int} {tr : List (List Int)} {c : List Int}, StandOk w tr → Lot w.dyes c → (∀ v ∈ r, 0 ≤ v ∧ v < (w.vats.length : Int)) → StandOk w (passD r tr c).1 ∧ Lot w.dyes (passD r tr c).2
  | [], _, _, h, hc, _ => ⟨h, hc⟩
  | v :: r, tr, c, h, hc, hv => by
    obtain ⟨a, b⟩ := step_ok h hc (hv v List.mem_cons_self)
    show StandOk w (passD r (stepD tr c v).1 (stepD tr c v).2).1 ∧ Lot w.dyes (passD r (stepD tr c v).1 (stepD tr c v).2).2
    exact pass_ok (r := r) (tr := (stepD tr c v).1) (c := (stepD tr c v).2) a b fun x hx => hv x (List.mem_cons_of_mem _ hx)
theorem passD_snoc : ∀ (r : List Int) (v : Int) (tr : List (List Int)) (c : List Int), passD (r ++ [v]) tr c = stepD (passD r tr c).1 (passD r tr c).2 v
  | [], _, _, _ => rfl
  | x :: r, v, tr, c => passD_snoc r v _ _
/-- wants met, bars missed -/
def hasD (vats : List (List Int)) (wants route : List Int) : Bool := wants.all fun d => route.any fun v => decide (d ∈ vats.getD v.toNat [])
def cleanD (bars carried : List Int) : Bool := !carried.any fun d => decide (d ∈ bars)
def ownsD (vats : List (List Int)) (route : List Int) : List Int := route.flatMap fun v => vats.getD v.toNat []
def badD (vats : List (List Int)) (k : KindD) (route carried : List Int) : List Int := (k.wants.filter fun d => !decide (d ∈ ownsD vats route)) ++ carried.filter fun d => decide (d ∈ k.bars)
theorem good_eq (vats : List (List Int)) (k : KindD) (route carried : List Int) : decide (badD vats k route carried = []) = (hasD vats k.wants route && cleanD k.bars carried) := by
  rw [Bool.eq_iff_iff]
  simp only [badD, hasD, cleanD, ownsD, decide_eq_true_eq, Bool.and_eq_true, List.append_eq_nil_iff, List.filter_eq_nil_iff, Bool.not_eq_true', decide_eq_false_iff_not, List.all_eq_true, List.any_eq_true, List.any_eq_false, List.mem_flatMap, Classical.not_not]
/-! ### what stands in the heap -/
/-- tuples stay -/
def Tk (H H' : Hp) : Prop := ∀ a xs, H a = some (.tup xs) → H' a = some (.tup xs)
theorem Tk.refl (H : Hp) : Tk H H := fun _ _ e => e
theorem Tk.trans {H H1 H2 : Hp} (a : Tk H H1) (b : Tk H1 H2) : Tk H H2 := fun c xs e => b c xs (a c xs e)
theorem Tk.same {H H' : Hp} (s : Same H H') : Tk H H' := fun c _ e => s c _ e
/-- all but the places of S stays -/
def Ex (S : List Addr) (H H' : Hp) : Prop := ∀ b o, b ∉ S → H b = some o → H' b = some o
theorem Ex.refl (S : List Addr) (H : Hp) : Ex S H H := fun _ _ _ e => e
theorem Ex.trans {S : List Addr} {H H1 H2 : Hp} (a : Ex S H H1) (b : Ex S H1 H2) : Ex S H H2 := fun c o n e => b c o n (a c o n e)
theorem Ex.same {S : List Addr} {H H' : Hp} (s : Same H H') : Ex S H H' := fun c o _ e => s c o e
theorem Ex.nil {H H' : Hp} (s : Ex [] H H') : Same H H' := fun c o e => s c o (by simp) e
theorem Ex.mono {S T : List Addr} {H H' : Hp} (s : Ex S H H') (h : ∀ x ∈ S, x ∈ T) : Ex T H H' := fun c o n e => s c o (fun z => n (h c z)) e
theorem Ex.extP {P : Addr} {H H' : Hp} (s : ExtP P H H') : Ex [P] H H' := fun c o n e => s c o (fun z => n (by simp [z])) e
theorem Ex.upd {S : List Addr} {H : Hp} {p : Addr} {o : HO} (h : p ∈ S ∨ H p = none) : Ex S H (upd H p o) := fun c u n e => by
  rw [upd_ne (fun z => ?_)]
  · exact e
  · rcases h with h | h
    · exact n (z ▸ h)
    · rw [z, h] at e; cases e
theorem same_upd {H : Hp} {p : Addr} {o : HO} (h : H p = none) : Same H (upd H p o) := fun c u e => by rw [upd_ne (ne_of_none e h)]; exact e
theorem Ex.tk {S : List Addr} {H H' : Hp} (s : Ex S H H') (h : ∀ a ∈ S, ∀ xs, H a ≠ some (.tup xs)) : Tk H H' := fun a xs e => s a _ (fun z => h a z xs e) e
/-- items one by one -/
structure AllAt {α : Type} (R : V → α → Prop) (xs : List V) (as : List α) : Prop where
  len : xs.length = as.length
  at_ : ∀ (i : Nat) (a : α), as[i]? = some a → ∃ x, xs[i]? = some x ∧ R x a
section
variable {α : Type} {R R' : V → α → Prop} {xs : List V} {as : List α} {x : V} {a : α}
theorem AllAt.mono (h : AllAt R xs as) (m : ∀ x a, R x a → R' x a) : AllAt R' xs as := ⟨h.len, fun i a e => by
  obtain ⟨x, h1, h2⟩ := h.at_ i a e
  exact ⟨x, h1, m x a h2⟩⟩
theorem AllAt.nil : AllAt R [] [] := ⟨rfl, fun i a e => by simp at e⟩
theorem AllAt.cons (h : R x a) (t : AllAt R xs as) : AllAt R (x :: xs) (a :: as) := ⟨by simp [t.len], fun i b e => by
  cases i with
  | zero =>
    have e : a = b := by simpa using e
    subst e
    exact ⟨x, rfl, h⟩
  | succ i => exact t.at_ i b (by simpa using e)⟩
theorem AllAt.snoc (t : AllAt R xs as) (h : R x a) : AllAt R (xs ++ [x]) (as ++ [a]) := ⟨by simp [t.len], fun i b e => by
  by_cases hi : i < as.length
  · rw [List.getElem?_append_left hi] at e
    obtain ⟨y, h1, h2⟩ := t.at_ i b e
    exact ⟨y, by rw [List.getElem?_append_left (by rw [t.len]; exact hi)]; exact h1, h2⟩
  · rw [List.getElem?_append_right (Nat.le_of_not_lt hi)] at e
    rw [List.getElem?_append_right (by rw [t.len]; exact Nat.le_of_not_lt hi), t.len]
    cases hj : i - as.length with
    | zero =>
      rw [hj] at e
      have e : a = b := by simpa using e
      subst e
      exact ⟨x, rfl, h⟩
    | succ j => rw [hj] at e; simp at e⟩
theorem AllAt.back (h : AllAt R xs as) {i : Nat} (e : xs[i]? = some x) : ∃ a, as[i]? = some a ∧ R x a := by
  have hi : i < as.length := by rw [← h.len]; exact (List.getElem?_eq_some_iff.mp e).1
  obtain ⟨y, h1, h2⟩ := h.at_ i as[i] (List.getElem?_eq_getElem hi)
  rw [e] at h1
  cases h1
  exact ⟨as[i], List.getElem?_eq_getElem hi, h2⟩
theorem AllAt.set (h : AllAt R xs as) (i : Nat) (r : R x a) : AllAt R (xs.set i x) (as.set i a) := ⟨by simp [h.len], fun j b e => by
  rw [List.getElem?_set] at e ⊢
  rw [h.len]
  by_cases hj : i = j
  · rw [if_pos hj] at e ⊢
    by_cases hl : i < as.length
    · rw [if_pos hl] at e ⊢
      cases e
      exact ⟨x, rfl, r⟩
    · rw [if_neg hl] at e; cases e
  · rw [if_neg hj] at e ⊢
    exact h.at_ j b e⟩
theorem AllAt.take (h : AllAt R xs as) (n : Nat) : AllAt R (xs.take n) (as.take n) := ⟨by simp [h.len], fun j b e => by
  rw [List.getElem?_take] at e ⊢
  by_cases hj : j < n
  · rw [if_pos hj] at e ⊢
    exact h.at_ j b e
  · rw [if_neg hj] at e; cases e⟩
theorem AllAt.drop (h : AllAt R xs as) (n : Nat) : AllAt R (xs.drop n) (as.drop n) := ⟨by simp [h.len], fun j b e => by
  rw [List.getElem?_drop] at e ⊢
  exact h.at_ _ b e⟩
theorem AllAt.append {ys : List V} {bs : List α} (h : AllAt R xs as) (g : AllAt R ys bs) : AllAt R (xs ++ ys) (as ++ bs) := ⟨by simp [h.len, g.len], fun i b e => by
  by_cases hi : i < as.length
  · rw [List.getElem?_append_left hi] at e
    rw [List.getElem?_append_left (by rw [h.len]; exact hi)]
    exact h.at_ i b e
  · rw [List.getElem?_append_right (Nat.le_of_not_lt hi)] at e
    rw [List.getElem?_append_right (by rw [h.len]; exact Nat.le_of_not_lt hi), h.len]
    exact g.at_ _ b e⟩
end
/-- a tuple of ints -/
def TI (H : Hp) (v : V) (ns : List Int) : Prop := ∃ a, v = .ref a ∧ H a = some (.tup (ns.map V.int))
/-- a tuple of things -/
def TL {α : Type} (R : Hp → V → α → Prop) (H : Hp) (v : V) (as : List α) : Prop := ∃ a xs, v = .ref a ∧ H a = some (.tup xs) ∧ AllAt (R H) xs as
def TT : Hp → V → List (List Int) → Prop := TL TI
def KindAt (H : Hp) (v : V) (k : KindD) : Prop := ∃ a v1 v2 v3, v = .ref a ∧ H a = some (.tup [v1, v2, v3]) ∧ TI H v1 k.wants ∧ TI H v2 k.bars ∧ TT H v3 k.routes
def WorksAt (H : Hp) (v : V) (w : WorksD) : Prop := ∃ a v2 v3, v = .ref a ∧ H a = some (.tup [.int w.dyes, v2, v3]) ∧ TT H v2 w.vats ∧ TL KindAt H v3 w.kinds
inductive DeedD where
  | dye (k r : Int)
  | wash (v : Int)
def DeedAt (H : Hp) (v : V) : DeedD → Prop
  | .dye k r => ∃ a, v = .ref a ∧ H a = some (.tup [.str "dye", .int k, .int r])
  | .wash x => ∃ a, v = .ref a ∧ H a = some (.tup [.str "wash", .int x])
section
variable {H H' : Hp} {v : V}
theorem TI.tk {ns : List Int} (h : TI H v ns) (t : Tk H H') : TI H' v ns := by
  obtain ⟨a, e, x⟩ := h
  exact ⟨a, e, t a _ x⟩
theorem TL.tk {α : Type} {R : Hp → V → α → Prop} {as : List α} (h : TL R H v as) (t : Tk H H') (m : ∀ x a, R H x a → R H' x a) : TL R H' v as := by
  obtain ⟨a, xs, e, x, r⟩ := h
  exact ⟨a, xs, e, t a _ x, r.mono m⟩
theorem TT.tk {ns : List (List Int)} (h : TT H v ns) (t : Tk H H') : TT H' v ns := TL.tk h t fun _ _ r => r.tk t
theorem KindAt.tk {k : KindD} (h : KindAt H v k) (t : Tk H H') : KindAt H' v k := by
  obtain ⟨a, v1, v2, v3, e, x, r1, r2, r3⟩ := h
  exact ⟨a, v1, v2, v3, e, t a _ x, r1.tk t, r2.tk t, r3.tk t⟩
theorem WorksAt.tk {w : WorksD} (h : WorksAt H v w) (t : Tk H H') : WorksAt H' v w := by
  obtain ⟨a, v2, v3, e, x, r2, r3⟩ := h
  exact ⟨a, v2, v3, e, t a _ x, r2.tk t, TL.tk r3 t fun _ _ r => r.tk t⟩
theorem DeedAt.tk {d : DeedD} (h : DeedAt H v d) (t : Tk H H') : DeedAt H' v d := by
  cases d with
  | dye k r =>
    obtain ⟨a, e, x⟩ := h
    exact ⟨a, e, t a _ x⟩
  | wash z =>
    obtain ⟨a, e, x⟩ := h
    exact ⟨a, e, t a _ x⟩
def DeedsAt : Hp → V → List DeedD → Prop := TL DeedAt
theorem DeedsAt.tk {ds : List DeedD} (h : DeedsAt H v ds) (t : Tk H H') : DeedsAt H' v ds := TL.tk h t fun _ _ r => r.tk t
end
end Dy
set_option Elab.async false
set_option maxRecDepth 100000
set_option maxHeartbeats 4000000
namespace Dy
open PySem PySem.Spec PyProof.Rows L2 GenW
/-! ### the text by places -/
def top (i : Nat) : Stmt := PySem.Challenge.pw_dyeworks_k08_whole_benches.main.body.getD i (.Pass ⟨0, 0, 0, 0⟩)
abbrev sIsNum : Stmt := top 11
abbrev sNeedNum : Stmt := top 12
abbrev sIsLot : Stmt := top 13
abbrev sIsRoute : Stmt := top 14
abbrev sIsKind : Stmt := top 15
abbrev sNeedWorks : Stmt := top 16
abbrev sJoined : Stmt := top 17
abbrev sBehind : Stmt := top 18
abbrev sHasWants : Stmt := top 19
abbrev sIsClean : Stmt := top 20
abbrev sDyed : Stmt := top 21
/-- a def of the module: it stands at f, under its name, its arguments bind -/
structure Dn (K : PySem.W.Frag) (mg : Str → Option Value) (x : Str) (st : Stmt) (ps : List Str) (f : Addr) (fd : FuncData) : Prop where
  F : Fun K x x st f fd
  g : mg x = some (.ref f)
  b : Binds K fd ps []
/-- .. whose code object is known to stand at c -/
structure FunC (K : PySem.W.Frag) (x qual : Str) (st : Stmt) (f : Addr) (fd : FuncData) (c : Addr) : Prop where
  ex : ∃ (oc : Value) (od : Option Addr) (kV doc pm : Value) (an : Option Addr) (ct : Value) (osl : Array (Option Value)),
    fd = PySem.W.fnOf x qual (defArgs st) (defBody st) (defScope st) .none kV doc pm an (.ref c) ct ∧ K.lookup f = some ⟨oc, od, .func fd, osl⟩ ∧ PySem.W.codeIn K (.ref c) qual = true
structure Dc (K : PySem.W.Frag) (mg : Str → Option Value) (x : Str) (st : Stmt) (ps : List Str) (f : Addr) (fd : FuncData) (c : Addr) : Prop where
  C : FunC K x x st f fd c
  g : mg x = some (.ref f)
  kp : PySem.W.keepIn K (.ref f) = true
  b : Binds K fd ps []
section
variable {P : Program} {w : World} {K : PySem.W.Frag} {mg : Str → Option Value} {base : Heap}
theorem FunC.okG {CX : CXT} {x qual : Str} {st : Stmt} {f c : Addr} {fd : FuncData} {N ps : List Str} {k : Nat} {sp : Sp} (F : FunC K x qual st f fd c) (S : FnScope N ps (defScope st)) (len : ∀ vs H Q E, sp vs H Q E → vs.length = ps.length)
    (hbody : ∀ (A : Around) (outer : List Env) (s : Shared) (H : Hp) (vs : List V) (Q : VK) (E : XK), Room k (A.deeper (envOfC qual (defScope st) s.heap.objs.size f (.ref c))) → sp vs H Q E →
      ∃ t, PSs (cxOf CX P w K mg base N qual (defScope st) f (.ref c) A outer s H E) (defBody st) t ∧ t { nx := fun _ H' => Q .non H', rt := Q } (start N vs) H) : FnOk P w K mg base CX (k + 1) f fd ps sp := by
  obtain ⟨oc, od, kV, doc, pm, an, ct, osl, rfl, lk, hcd⟩ := F.ex
  exact fn_of lk hcd S len fun A outer s H vs Q E hr hsp => hbody A outer s H vs Q E hr hsp
theorem FunC.ok {x qual : Str} {st : Stmt} {f c : Addr} {fd : FuncData} {N ps : List Str} {k : Nat} {sp : Sp} (F : FunC K x qual st f fd c) (S : FnScope N ps (defScope st)) (len : ∀ vs H Q E, sp vs H Q E → vs.length = ps.length)
    (hbody : ∀ (A : Around) (outer : List Env) (s : Shared) (H : Hp) (vs : List V) (Q : VK) (E : XK), Room k (A.deeper (envOfC qual (defScope st) s.heap.objs.size f (.ref c))) → sp vs H Q E →
      ∃ t, PSs (cxOf CX0 P w K mg base N qual (defScope st) f (.ref c) A outer s H E).nox (defBody st) t ∧ t { nx := fun _ H' => Q .non H', rt := Q } (start N vs) H) : FnOk P w K mg base CX0 (k + 1) f fd ps sp := by
  obtain ⟨oc, od, kV, doc, pm, an, ct, osl, rfl, lk, hcd⟩ := F.ex
  refine fn_of lk hcd S len fun A outer s H vs Q E hr hsp => ?_
  obtain ⟨t, h, q⟩ := hbody A outer s H vs Q E hr hsp
  exact ⟨t, h.nox, q⟩
end
/-- no def of the module hides a builtin -/
structure Blt (mg : Str → Option Value) : Prop where
  len : mg "len" = none
  isi : mg "isinstance" = none
  int : mg "int" = none
  bool : mg "bool" = none
  str : mg "str" = none
  tuple : mg "tuple" = none
  list : mg "list" = none
  all : mg "all" = none
  any : mg "any" = none
  zip : mg "zip" = none
  sorted : mg "sorted" = none
  set : mg "set" = none
  range : mg "range" = none
/-- the constants -/
structure Cst (mg : Str → Option Value) : Prop where
  dyes : ∃ t, mg "MOST_DYES" = some (.int 5 t)
  vats : ∃ t, mg "MOST_VATS" = some (.int 5 t)
  kinds : ∃ t, mg "MOST_KINDS" = some (.int 4 t)
  routes : ∃ t, mg "MOST_ROUTES" = some (.int 8 t)
  long : ∃ t, mg "MOST_LONG" = some (.int 6 t)
/-- what isinstance says of a value and a built-in type -/
theorem isiB {K : PySem.W.Frag} {H : Hp} {x : V} {t n : String} {b : Bool} {Q : VK} (ty : TyX K H x (.type t)) (h : kitB t n = some b) (q : Q (.bl b) H) : rIsi K [x, .ty n] H Q :=
  ⟨x, .ty n, .type t, .type n, b, rfl, .ty n, ty, kit_ty h, q⟩
theorem tyTup {K : PySem.W.Frag} {H : Hp} {a : Addr} {xs : List V} (h : H a = some (.tup xs)) : TyX K H (.ref a) (.type "tuple") := .base (.tup h)
/-! ### is_number -/
/-- a value that is no int, with what type() says -/
inductive NoInt (H : Hp) : V → Prop where
  | non : NoInt H .non
  | bl (b : Bool) : NoInt H (.bl b)
  | str (x : Str) : NoInt H (.str x)
  | tup {a : Addr} {xs : List V} (h : H a = some (.tup xs)) : NoInt H (.ref a)
def spIsNum : Sp := fun vs H Q _ => ∃ (v : V) (lo hi : Int), vs = [v, .int lo, .int hi] ∧ ((∃ i, v = .int i ∧ Q (.bl (decide (lo ≤ i ∧ i ≤ hi))) H) ∨ (NoInt H v ∧ Q (.bl false) H))
section
variable {P : Program} {w : World} {K : PySem.W.Frag} {mg : Str → Option Value} {base : Heap}
theorem scIsNum : FnScope ["value", "low", "high"] ["value", "low", "high"] (defScope sIsNum) := ⟨rfl, rfl, rfl, by decide +kernel, rfl, by decide +kernel, by decide +kernel⟩
theorem ok_isnum {f : Addr} {fd : FuncData} (F : Fun K "is_number" "is_number" sIsNum f fd) (B : Blt mg) : FnOk P w K mg base CX0 1 f fd ["value", "low", "high"] spIsNum := by
  refine F.ok scIsNum (fun vs H Q E h => ?_) (fun cdv A outer s H vs Q E hr h => ?_)
  · obtain ⟨v, lo, hi, rfl, _⟩ := h
    rfl
  · obtain ⟨v, lo, hi, rfl, h⟩ := h
    refine ⟨_, pss_one (ps_ret (pe_and
      (pe_callB call_isi (by rfl) B.isi boot_isinstance (pa_cons (pv 0) (pa_cons (pe_bltn (v := .ty "int") (by rfl) B.int boot_int rfl) pa_nil)))
      (pe_and (pe_not (pe_callB call_isi (by rfl) B.isi boot_isinstance (pa_cons (pv 0) (pa_cons (pe_bltn (v := .ty "bool") (by rfl) B.bool boot_bool rfl) pa_nil))))
        (pe_one (pe_chain op_le op_le (pv 1) (pv 0) (pv 2)))))), ?_⟩
    rcases h with ⟨i, rfl, q⟩ | ⟨n, q⟩
    · refine ⟨_, rfl, _, _, _, _, true, rfl, .ty _, .base (.int i), kit_ty (by decide +kernel), true, rfl, iteT ⟨_, rfl, _, _, _, _, false, rfl, .ty _, .base (.int i), kit_ty (by decide +kernel), _, rfl, true, rfl, iteT ?_⟩⟩
      refine ⟨_, rfl, _, rfl, _, _, rfl, rfl, _, rfl, ?_⟩
      by_cases c : lo ≤ i
      · rw [decide_eq_true c]
        refine iteT ⟨_, rfl, _, _, rfl, rfl, ?_⟩
        have e : decide (lo ≤ i ∧ i ≤ hi) = decide (i ≤ hi) := by simp [c]
        rw [e] at q
        exact q
      · rw [decide_eq_false c]
        refine iteF ?_
        have e : decide (lo ≤ i ∧ i ≤ hi) = false := by simp [c]
        rw [e] at q
        exact q
    · cases n with
      | non => exact ⟨_, rfl, _, _, _, _, false, rfl, .ty _, .base .non, kit_ty (by decide +kernel), _, rfl, iteF q⟩
      | bl b => exact ⟨_, rfl, _, _, _, _, true, rfl, .ty _, .base (.bl b), kit_ty (by decide +kernel), _, rfl, iteT ⟨_, rfl, _, _, _, _, true, rfl, .ty _, .base (.bl b), kit_ty (by decide +kernel), _, rfl, _, rfl, iteF q⟩⟩
      | str x => exact ⟨_, rfl, _, _, _, _, false, rfl, .ty _, .base (.str x), kit_ty (by decide +kernel), _, rfl, iteF q⟩
      | tup h => exact ⟨_, rfl, _, _, _, _, false, rfl, .ty _, tyTup h, kit_ty (by decide +kernel), _, rfl, iteF q⟩
end
end Dy
set_option Elab.async false
set_option maxRecDepth 100000
set_option maxHeartbeats 4000000
namespace Dy
open PySem PySem.Spec PyProof.Rows L2 GenW RZ
/-! ### all, any: the loop by an invariant -/
section
variable {K : PySem.W.Frag} {vs : List Nat} {σ : L2.St} {gt : TG} {te : TE} {stopV : Bool} {Qe Qs : Hp → Prop}
theorem gen_tup {a : Addr} {xs : List V} {H0 : Hp} (Pv : Nat → Hp → Prop) (h0 : Pv 0 H0) (hl : ∀ i H, i ≤ xs.length → Pv i H → SqT K H a xs)
    (hs : ∀ (i : Nat) (x : V) (H : Hp) (Nx : Hp → Prop), (∀ H', Pv (i + 1) H' → Nx H') → xs[i]? = some x → Pv i H → gt x (wipe σ vs) H fun σ2 H2 => wipe σ2 vs = wipe σ vs ∧ te σ2 H2 fun y H3 => ∃ b, y = .bl b ∧ (b = stopV → Qs H3) ∧ (b ≠ stopV → Nx H3)) (hd : ∀ H, Pv xs.length H → Qe H) :
    ∃ W : Nat → Nat → Hp → Prop, (∃ m, W 0 m H0) ∧ ∀ i m H, W i m H → ((Itt K a).stop i H ∧ Qe H) ∨ ((Itt K a).go i H ∧ 0 < m ∧ ∀ x H', (Itt K a).yld i H x H' → gt x (wipe σ vs) H' fun σ2 H2 => wipe σ2 vs = wipe σ vs ∧ te σ2 H2 fun y H3 =>
      ∃ b, y = .bl b ∧ (b = stopV → Qs H3) ∧ (b ≠ stopV → ∃ m', m' < m ∧ W (i + 1) m' H3)) := by
  refine ⟨fun i m H => m = xs.length - i ∧ i ≤ xs.length ∧ Pv i H, ⟨xs.length, by simp, Nat.zero_le _, h0⟩, ?_⟩
  rintro i m H ⟨rfl, hi, p⟩
  have q := hl i H hi p
  by_cases hlt : i < xs.length
  · refine .inr ⟨⟨xs, xs[i], q, by simp [hlt]⟩, by omega, fun x H' y => ?_⟩
    obtain ⟨e, y⟩ := y
    subst e
    exact hs i x _ (fun H3 => ∃ m', m' < xs.length - i ∧ m' = xs.length - (i + 1) ∧ i + 1 ≤ xs.length ∧ Pv (i + 1) H3) (fun H' p' => ⟨xs.length - (i + 1), by omega, rfl, hlt, p'⟩) (y xs q) p
  · have e : i = xs.length := by omega
    subst e
    exact .inl ⟨⟨xs, q, Nat.le_refl _⟩, hd H p⟩
theorem gen_zip {a b : Addr} {xs ys : List V} {H0 : Hp} (hlen : ys.length ≤ xs.length) (Pv : Nat → Hp → Prop) (h0 : Pv 0 H0) (hl : ∀ i H, Pv i H → SqT K H a xs ∧ SqT K H b ys)
    (hs : ∀ (i : Nat) (x y : V) (T : Addr) (H : Hp) (Nx : Hp → Prop), (∀ H', Pv (i + 1) H' → Nx H') → xs[i]? = some x → ys[i]? = some y → Pv i H → H T = none → gt (.ref T) (wipe σ vs) (upd H T (.tup [x, y])) fun σ2 H2 => wipe σ2 vs = wipe σ vs ∧ te σ2 H2 fun y H3 => ∃ b, y = .bl b ∧ (b = stopV → Qs H3) ∧ (b ≠ stopV → Nx H3)) (hd : ∀ H, Pv ys.length H → Qe H) :
    ∃ W : Nat → Nat → Hp → Prop, (∃ m, W 0 m H0) ∧ ∀ i m H, W i m H → ((ItzT K a b).stop i H ∧ Qe H) ∨ ((ItzT K a b).go i H ∧ 0 < m ∧ ∀ x H', (ItzT K a b).yld i H x H' → gt x (wipe σ vs) H' fun σ2 H2 => wipe σ2 vs = wipe σ vs ∧ te σ2 H2 fun y H3 =>
      ∃ b, y = .bl b ∧ (b = stopV → Qs H3) ∧ (b ≠ stopV → ∃ m', m' < m ∧ W (i + 1) m' H3)) := by
  refine ⟨fun i m H => m = ys.length - i ∧ i ≤ ys.length ∧ Pv i H, ⟨ys.length, by simp, Nat.zero_le _, h0⟩, ?_⟩
  rintro i m H ⟨rfl, hi, p⟩
  obtain ⟨q, q2⟩ := hl i H p
  by_cases hlt : i < ys.length
  · refine .inr ⟨⟨xs, ys, xs[i], ys[i], q, q2, by rw [List.getElem?_eq_getElem], by simp [hlt]⟩, by omega, fun x H' y => ?_⟩
    obtain ⟨T, x1, y1, e, hT, eH, k1, k2⟩ := y
    subst e
    subst eH
    exact hs i x1 y1 T _ (fun H3 => ∃ m', m' < ys.length - i ∧ m' = ys.length - (i + 1) ∧ i + 1 ≤ ys.length ∧ Pv (i + 1) H3) (fun H' p' => ⟨ys.length - (i + 1), by omega, rfl, hlt, p'⟩) (k1 xs q) (k2 ys q2) p hT
  · have e : i = ys.length := by omega
    subst e
    exact .inl ⟨⟨xs, ys, q, q2, .inr (Nat.le_refl _)⟩, hd H p⟩
end
/-! ### own exception classes without own __init__ -/
abbrev veTl : List Value := [.type "ValueError", .type "Exception", .type "BaseException", .type "object"]
structure Own (K : PySem.W.Frag) (mg : Str → Option Value) (x : Str) (C : Addr) : Prop where
  g : mg x = some (.ref C)
  ex : PySem.W.excIn K C veTl "ValueError.__new__" = true
  kp : PySem.W.keepIn K (.ref C) = true
  b : PySem.W.subIn K (.ref C) (.type "BaseException") = some true
  t : PySem.W.typeIn K (.ref C) = some (.type "type")
/-! ### need_number -/
def spNeed (C : Addr) : Sp := fun vs H Q E => ∃ (v : V) (lo hi : Int), vs = [v, .int lo, .int hi] ∧
  ((∃ i, v = .int i ∧ lo ≤ i ∧ i ≤ hi ∧ Q .non H) ∨ (((∃ i, v = .int i ∧ ¬ (lo ≤ i ∧ i ≤ hi)) ∨ NoInt H v) ∧ E (.ref C) none H))
section
variable {P : Program} {w : World} {K : PySem.W.Frag} {mg : Str → Option Value} {base : Heap}
theorem scNeed : FnScope ["value", "low", "high"] ["value", "low", "high"] (defScope sNeedNum) := ⟨rfl, rfl, rfl, by decide +kernel, rfl, by decide +kernel, by decide +kernel⟩
theorem ok_need {f f1 C : Addr} {fd fd1 : FuncData} (F : Fun K "need_number" "need_number" sNeedNum f fd) (B : Blt mg) (D1 : Dn K mg "is_number" sIsNum ["value", "low", "high"] f1 fd1) (O : Own K mg "BadNumber" C) :
    FnOk P w K mg base (L2.CX P w) 2 f fd ["value", "low", "high"] (spNeed C) := by
  have G1 : FnOk P w K mg base CX0 1 f1 fd1 ["value", "low", "high"] spIsNum := ok_isnum D1.F B
  refine F.okX scNeed (fun vs H Q E h => ?_) (fun cdv A outer s H vs Q E hr h => ?_)
  · obtain ⟨v, lo, hi, rfl, _⟩ := h
    rfl
  · obtain ⟨v, lo, hi, rfl, h⟩ := h
    refine ⟨_, pss_one (ps_if (pt_not (pt_val (pe_call G1 hr (by rfl) D1.g D1.F.kp D1.b .nil pass0 (pa_cons (pv 0) (pa_cons (pv 1) (pa_cons (pv 2) pa_nil))))))
      (pss_one (ps_raise rfl (takes_of rfl rfl rfl rfl) (pmk_own0 PySem.F.excBase_ValueError O.ex O.g O.kp (raises_own O.b O.t) (by rfl)))) pss_nil), ?_⟩
    rcases h with ⟨i, rfl, h1, h2, q⟩ | ⟨h1, q⟩
    · refine ⟨_, rfl, _, rfl, _, rfl, _, lo, hi, rfl, .inl ⟨i, rfl, true, ?_, iteF q⟩⟩
      rw [decide_eq_true ⟨h1, h2⟩]
    · rcases h1 with ⟨i, rfl, h1⟩ | h1
      · refine ⟨_, rfl, _, rfl, _, rfl, _, lo, hi, rfl, .inl ⟨i, rfl, false, ?_, iteT q⟩⟩
        rw [decide_eq_false h1]
      · exact ⟨_, rfl, _, rfl, _, rfl, _, lo, hi, rfl, .inr ⟨h1, false, rfl, iteT q⟩⟩
end
end Dy
set_option Elab.async false
set_option maxRecDepth 100000
set_option maxHeartbeats 4000000
namespace Dy
open PySem PySem.Spec PyProof.Rows L2 GenW RZ
/-- a lot is handed to is_lot: True -/
def spIsLot (T : Addr) : Sp := fun vs H Q _ => ∃ (v : V) (n : Int) (ns : List Int), vs = [v, .int n] ∧ TI H v ns ∧ Lot n ns ∧ ns.length ≤ 4 ∧ H T = some (TabX T) ∧ ∀ H', Same H H' → Q (.bl true) H'
/-- one < other of a lot's neighbours -/
theorem lot_zip {K : PySem.W.Frag} {a b : Addr} {ns ys : List Int} {H1 : Hp} {x1 x2 : V} {Qe Qs : Hp → Prop} (ha : H1 a = some (.tup (ns.map V.int))) (hb : H1 b = some (.tup (ys.map V.int))) (hy : ys = ns.drop 1) (hA : Asc ns) (q : ∀ H', Same H1 H' → Qe H') :
    ∃ W : Nat → Nat → Hp → Prop, (∃ m, W 0 m H1) ∧ ∀ i m H, W i m H → ((ItzT K a b).stop i H ∧ Qe H) ∨ ((ItzT K a b).go i H ∧ 0 < m ∧ ∀ x H', (ItzT K a b).yld i H x H' → gTup K 2 (gCons (gName 3) (gCons (gName 4) gNil)) x (wipe [some x1, some x2, none, none, none] [3, 4]) H' fun σ2 H2 => wipe σ2 [3, 4] = wipe [some x1, some x2, none, none, none] [3, 4] ∧
      tOp (rI0 fun i j => .bl (decide (i < j))) (tVar 3) (tVar 4) σ2 H2 fun y H3 => ∃ b, y = .bl b ∧ (b = false → Qs H3) ∧ (b ≠ false → ∃ m', m' < m ∧ W (i + 1) m' H3)) := by
  subst hy
  refine gen_zip (K := K) (a := a) (b := b) (xs := ns.map V.int) (ys := (ns.drop 1).map V.int) (by simp) (fun _ H' => Same H1 H') (Same.refl _) (fun i H s => ⟨SqT.of (s _ _ ha), SqT.of (s _ _ hb)⟩) (fun i x y T H Nx hN hx hy s hT => ?_) fun H s => q H s
  have hx := List.getElem?_map .. ▸ hx
  have hy := List.getElem?_map .. ▸ hy
  rw [List.getElem?_drop] at hy
  obtain ⟨z, hz, rfl⟩ : ∃ z, ns[i]? = some z ∧ x = V.int z := by
    cases e : ns[i]? with
    | none => rw [e] at hx; cases hx
    | some z => rw [e] at hx; exact ⟨z, rfl, (Option.some.inj hx).symm⟩
  obtain ⟨z2, hz2, rfl⟩ : ∃ z, ns[1 + i]? = some z ∧ y = V.int z := by
    cases e : ns[1 + i]? with
    | none => rw [e] at hy; cases hy
    | some z => rw [e] at hy; exact ⟨z, rfl, (Option.some.inj hy).symm⟩
  have lt : z < z2 := by
    obtain ⟨h1, e1⟩ := List.getElem?_eq_some_iff.mp hz
    obtain ⟨h2, e2⟩ := List.getElem?_eq_some_iff.mp hz2
    have := List.pairwise_iff_getElem.mp hA i (1 + i) h1 h2 (by omega)
    rw [e1, e2] at this
    exact this
  refine ⟨T, _, rfl, SqT.of upd_same, rfl, _, _, rfl, _, _, rfl, rfl, rfl, _, rfl, _, rfl, _, _, rfl, rfl, true, ?_, fun e => (by cases e), fun _ => hN _ (s.trans (same_upd hT))⟩
  show V.bl (decide (z < z2)) = V.bl true
  rw [decide_eq_true lt]
section
variable {P : Program} {w : World} {K : PySem.W.Frag} {mg : Str → Option Value} {base : Heap}
abbrev okB1 (c T : Addr) : Addr → Addr → Prop := fun c' P' => c' = c ∧ P' = T
theorem okB1_hd {c T : Addr} (TB : LamX.TabB base mg c T) : ∀ c' P', okB1 c T c' P' → PySem.W.CodeHd base c' P' := fun c' P' h => by
  rw [h.1, h.2]
  exact TB.code
theorem scIsLot : FnScope ["value", "many", "part", "one", "other"] ["value", "many"] (defScope sIsLot) := ⟨rfl, rfl, rfl, by decide +kernel, rfl, by decide +kernel, by decide +kernel⟩
theorem ok_islot {f f1 c T : Addr} {fd fd1 : FuncData} (F : FunC K "is_lot" "is_lot" sIsLot f fd c) (B : Blt mg) (TB : LamX.TabB base mg c T) (D1 : Dn K mg "is_number" sIsNum ["value", "low", "high"] f1 fd1) :
    FnOk P w K mg base CX0 5 f fd ["value", "many"] (spIsLot T) := by
  have G1 : FnOk P w K mg base CX0 1 f1 fd1 ["value", "low", "high"] spIsNum := ok_isnum D1.F B
  refine F.ok scIsLot (fun vs H Q E h => ?_) (fun A outer s H vs Q E hr h => ?_)
  · obtain ⟨v, n, ns, rfl, _⟩ := h
    rfl
  · obtain ⟨v, n, ns, rfl, ⟨a, rfl, ha⟩, hL, hlen, hT, q⟩ := h
    refine ⟨_, pss_cons (ps_if (PW.pt (pw_or (pt_not (pt_val (pe_callB call_isi (by rfl) B.isi boot_isinstance (pa_cons (pv 0) (pa_cons (pe_bltn (v := .ty "tuple") (by rfl) B.tuple boot_tuple rfl) pa_nil)))))
        (pw_or1 (pt_not (pt_val (pe_all (k := 1) (own := [("part", 2)]) (gt := gName 2) hr (by rfl) B.all boot_all scIsLot.nd (pi_tup (pv 0)) (blkOk_by (N := ["value", "many", "part", "one", "other"]) (sc := defScope sIsLot) (by decide +kernel)) (by rfl) (by rfl) TB.bm (pcode_x (okB1_hd TB))
          (fun _ _ _ _ _ _ => pg_name (i := 2) scIsLot.nd rfl (Or.inl rfl))
          (fun _ _ _ _ _ _ hrG => pe_call G1 hrG (by rfl) D1.g D1.F.kp D1.b .nil pass0 (pa_cons (pv 2) (pa_cons pe_int (pa_cons (pe_op op_sub (pv 1) pe_int) pa_nil)))))))))) (pss_one (ps_ret pe_bl)) pss_nil)
      (pss_one (ps_ret (pe_all (k := 1) (own := [("one", 3), ("other", 4)]) (gt := gTup K 2 (gCons (gName 3) (gCons (gName 4) gNil))) hr (by rfl) B.all boot_all scIsLot.nd (pi_zipA (by rfl) B.zip (pa_cons (pv 0) (pa_cons (pe_slice sl_tupA (pv 0) (po_some pe_int) po_none) pa_nil)))
        (blkOk_by (N := ["value", "many", "part", "one", "other"]) (sc := defScope sIsLot) (by decide +kernel)) (by rfl) (by rfl) TB.bm (pcode_x (okB1_hd TB))
          (fun _ _ _ _ _ _ => pg_tup (by rfl) (pgs_cons (pg_name (i := 3) scIsLot.nd rfl (Or.inl rfl)) (pgs_cons (pg_name (i := 4) scIsLot.nd rfl (Or.inl rfl)) pgs_nil)))
          (fun _ _ _ _ _ _ hrG => pe_cmpR op_lt (pv 3) (pv 4) (nomark _))))), ?_⟩
    refine ⟨_, rfl, _, _, _, _, true, rfl, .ty _, tyTup ha, kit_ty (by decide +kernel), _, rfl, iteF ?_⟩
    refine ⟨_, rfl, a, rfl, ⟨_, SqT.of ha⟩, c, T, rfl, .inl ⟨rfl, rfl⟩, hT, fun cv => ?_⟩
    refine gen_tup (K := K) (a := a) (xs := ns.map V.int) (fun _ H' => H' = H) rfl (fun i H' _ e => by rw [e]; exact SqT.of ha) (fun i x H' Nx hN hx e => ?_) fun H' e => ?_
    · subst e
      have hx := List.getElem?_map .. ▸ hx
      obtain ⟨z, hz, rfl⟩ : ∃ z, ns[i]? = some z ∧ x = V.int z := by
        cases e : ns[i]? with
        | none => rw [e] at hx; cases hx
        | some z => rw [e] at hx; exact ⟨z, rfl, (Option.some.inj hx).symm⟩
      have hm := hL.mem (List.mem_of_getElem? hz)
      refine ⟨rfl, _, rfl, _, rfl, _, _, rfl, rfl, _, 0, n - 1, rfl, .inl ⟨z, rfl, true, ?_, fun e => (by cases e), fun _ => hN _ rfl⟩⟩
      rw [decide_eq_true ⟨hm.1, by omega⟩]
    · subst e
      refine ⟨_, rfl, iteF ?_⟩
      -- zip(value, value[1:])
      refine ⟨_, rfl, _, rfl, _, rfl, a, _, rfl, SqT.of ha, fun hw => ?_, fun hw p hp => ?_⟩
      · have e0 : ns = [] := by
          have h1 := hw.1
          cases ns with
          | nil => rfl
          | cons y ys =>
            exfalso
            have : HT.sIx (List.map V.int (y :: ys)).length 0 (some 1) = min 1 (List.map V.int (y :: ys)).length := HT.sIx_nat _ _ 1
            rw [this] at h1
            simp at h1
        refine ⟨a, a, _, _, rfl, .inr ⟨SqT.of ha, SqT.of ha, c, T, rfl, .inl ⟨rfl, rfl⟩, hT, fun cv => ?_⟩⟩
        exact lot_zip ha ha (by rw [e0]; rfl) hL.asc fun H2 s2 => q H2 s2
      · have ha2 := (same_upd (o := .tup (cutV (ns.map V.int) (some 1) none)) hp) a _ ha
        have e0 : cutV (ns.map V.int) (some 1) none = (ns.drop 1).map V.int := by
          unfold cutV
          have e1 : HT.sIx (ns.map V.int).length 0 (some 1) = min 1 (ns.map V.int).length := HT.sIx_nat _ _ 1
          have e2 : HT.sIx (ns.map V.int).length (ns.map V.int).length none = (ns.map V.int).length := rfl
          rw [e1, e2]
          cases ns with
          | nil => rfl
          | cons y ys =>
            simp
            exact List.take_of_length_le (by simp)
        refine ⟨a, p, _, _, rfl, .inr ⟨SqT.of ha2, SqT.of upd_same, c, T, rfl, .inl ⟨rfl, rfl⟩, same_upd hp _ _ hT, fun cv => ?_⟩⟩
        rw [e0] at ha2 ⊢
        exact lot_zip ha2 upd_same rfl hL.asc fun H2 s2 => q H2 ((same_upd hp).trans s2)
end
end Dy
set_option Elab.async false
set_option maxRecDepth 100000
set_option maxHeartbeats 4000000
namespace Dy
open PySem PySem.Spec PyProof.Rows L2 GenW RZ
theorem map_get {α : Type} {f : α → V} {ns : List α} {i : Nat} {x : V} (h : (ns.map f)[i]? = some x) : ∃ z, ns[i]? = some z ∧ x = f z := by
  rw [List.getElem?_map] at h
  cases e : ns[i]? with
  | none => rw [e] at h; cases h
  | some z => rw [e] at h; exact ⟨z, rfl, (Option.some.inj h).symm⟩
/-- a route -/
structure RouteOk (n : Int) (r : List Int) : Prop where
  l1 : 1 ≤ r.length
  l3 : r.length ≤ 3
  vat : ∀ v ∈ r, 0 ≤ v ∧ v < n
def spIsRoute (T : Addr) : Sp := fun vs H Q _ => ∃ (v : V) (n : Int) (r : List Int), vs = [v, .int n] ∧ TI H v r ∧ RouteOk n r ∧ H T = some (TabX T) ∧ ∀ H', Same H H' → Q (.bl true) H'
def spIsKind (TL TR TK : Addr) : Sp := fun vs H Q _ => ∃ (v : V) (d : Int) (n : Nat) (k : KindD), vs = [v, .int d, .int n] ∧ KindAt H v k ∧ KindOk d n k ∧ d ≤ 4 ∧ H TL = some (TabX TL) ∧ H TR = some (TabX TR) ∧ H TK = some (TabX TK) ∧ ∀ H', Same H H' → Q (.bl true) H'
section
variable {P : Program} {w : World} {K : PySem.W.Frag} {mg : Str → Option Value} {base : Heap}
theorem scIsRoute : FnScope ["value", "vats", "vat"] ["value", "vats"] (defScope sIsRoute) := ⟨rfl, rfl, rfl, by decide +kernel, rfl, by decide +kernel, by decide +kernel⟩
theorem ok_isroute {f f1 c T : Addr} {fd fd1 : FuncData} (F : FunC K "is_route" "is_route" sIsRoute f fd c) (B : Blt mg) (S : Cst mg) (TB : LamX.TabB base mg c T) (D1 : Dn K mg "is_number" sIsNum ["value", "low", "high"] f1 fd1) :
    FnOk P w K mg base CX0 5 f fd ["value", "vats"] (spIsRoute T) := by
  have G1 : FnOk P w K mg base CX0 1 f1 fd1 ["value", "low", "high"] spIsNum := ok_isnum D1.F B
  obtain ⟨tl, hML⟩ := S.long
  refine F.ok scIsRoute (fun vs H Q E h => ?_) (fun A outer s H vs Q E hr h => ?_)
  · obtain ⟨v, n, ns, rfl, _⟩ := h
    rfl
  · obtain ⟨v, n, ns, rfl, ⟨a, rfl, ha⟩, hR, hT, q⟩ := h
    refine ⟨_, pss_cons (ps_if (PW.pt (pw_or (pt_not (pt_val (pe_callB call_isi (by rfl) B.isi boot_isinstance (pa_cons (pv 0) (pa_cons (pe_bltn (v := .ty "tuple") (by rfl) B.tuple boot_tuple rfl) pa_nil)))))
        (pw_or1 (pt_not (pt_chain op_le op_le pe_int (pe_callB call_len_seq (by rfl) B.len PySem.boot_len (pa_cons (pv 0) pa_nil)) (pe_glob (v := .int 6) rfl hML ⟨_, rfl⟩)))))) (pss_one (ps_ret pe_bl)) pss_nil)
      (pss_one (ps_ret (pe_all (k := 1) (own := [("vat", 2)]) (gt := gName 2) hr (by rfl) B.all boot_all scIsRoute.nd (pi_tup (pv 0)) (blkOk_by (N := ["value", "vats", "vat"]) (sc := defScope sIsRoute) (by decide +kernel)) (by rfl) (by rfl) TB.bm (pcode_x (okB1_hd TB))
          (fun _ _ _ _ _ _ => pg_name (i := 2) scIsRoute.nd rfl (Or.inl rfl))
          (fun _ _ _ _ _ _ hrG => pe_call G1 hrG (by rfl) D1.g D1.F.kp D1.b .nil pass0 (pa_cons (pv 2) (pa_cons pe_int (pa_cons (pe_op op_sub (pv 1) pe_int) pa_nil))))))), ?_⟩
    refine ⟨_, rfl, _, _, _, _, true, rfl, .ty _, tyTup ha, kit_ty (by decide +kernel), _, rfl, iteF ?_⟩
    have h1 : (1 : Int) ≤ ((ns.map V.int).length : Int) := by have := hR.l1; simp; omega
    have h2 : ((ns.map V.int).length : Int) ≤ 6 := by have := hR.l3; simp; omega
    refine ⟨_, rfl, _, _, rfl, .inr (SqT.of ha), _, _, rfl, rfl, true, ?_, iteT ⟨_, _, rfl, rfl, true, ?_, iteF ?_⟩⟩
    · show V.bl (decide ((1 : Int) ≤ ((ns.map V.int).length : Int))) = V.bl true
      rw [decide_eq_true h1]
    · show V.bl (decide (((ns.map V.int).length : Int) ≤ 6)) = V.bl true
      rw [decide_eq_true h2]
    refine ⟨_, rfl, a, rfl, ⟨_, SqT.of ha⟩, c, T, rfl, .inl ⟨rfl, rfl⟩, hT, fun cv => ?_⟩
    refine gen_tup (K := K) (a := a) (xs := ns.map V.int) (fun _ H' => H' = H) rfl (fun i H' _ e => by rw [e]; exact SqT.of ha) (fun i x H' Nx hN hx e => ?_) fun H' e => ?_
    · subst e
      obtain ⟨z, hz, rfl⟩ := map_get hx
      have hm := hR.vat z (List.mem_of_getElem? hz)
      refine ⟨rfl, _, rfl, _, rfl, _, _, rfl, rfl, _, 0, n - 1, rfl, .inl ⟨z, rfl, true, ?_, fun e => (by cases e), fun _ => hN _ rfl⟩⟩
      rw [decide_eq_true ⟨hm.1, by omega⟩]
    · subst e
      exact q H' (Same.refl _)
theorem scIsKind : FnScope ["value", "dyes", "vats", "routes", "route"] ["value", "dyes", "vats"] (defScope sIsKind) := ⟨rfl, rfl, rfl, by decide +kernel, rfl, by decide +kernel, by decide +kernel⟩
theorem ok_iskind {f f1 f2 c TL TR TK : Addr} {fd fd1 fd2 : FuncData} (F : FunC K "is_kind" "is_kind" sIsKind f fd c) (B : Blt mg) (S : Cst mg) (TB : LamX.TabB base mg c TK) {c1 c2 : Addr} (D1 : Dc K mg "is_lot" sIsLot ["value", "many"] f1 fd1 c1) (D2 : Dc K mg "is_route" sIsRoute ["value", "vats"] f2 fd2 c2)
    (G1 : FnOk P w K mg base CX0 5 f1 fd1 ["value", "many"] (spIsLot TL)) (G2 : FnOk P w K mg base CX0 5 f2 fd2 ["value", "vats"] (spIsRoute TR)) :
    FnOk P w K mg base CX0 9 f fd ["value", "dyes", "vats"] (spIsKind TL TR TK) := by
  obtain ⟨tl, hML⟩ := S.routes
  refine F.ok scIsKind (fun vs H Q E h => ?_) (fun A outer s H vs Q E hr h => ?_)
  · obtain ⟨v, d, n, k, rfl, _⟩ := h
    rfl
  · obtain ⟨v, d, n, k, rfl, ⟨a, v1, v2, v3, rfl, ha, hw, hb, a3, xs3, rfl, ha3, hx3⟩, hK, hd4, hTL, hTR, hTK, q⟩ := h
    have hr5 : Room 5 (A.deeper (envOfC "is_kind" (defScope sIsKind) s.heap.objs.size f (.ref c))) := hr.mono (by decide)
    refine ⟨_, pss_cons (ps_if (PW.pt (pw_or (pt_not (pt_val (pe_callB call_isi (by rfl) B.isi boot_isinstance (pa_cons (pv 0) (pa_cons (pe_bltn (v := .ty "tuple") (by rfl) B.tuple boot_tuple rfl) pa_nil)))))
        (pw_or (pt_cmpR op_ne (pe_callB call_len_seq (by rfl) B.len PySem.boot_len (pa_cons (pv 0) pa_nil)) pe_int (nomark _))
        (pw_or (pt_not (pt_val (pe_call G1 hr5 (by rfl) D1.g D1.kp D1.b .nil pass0 (pa_cons (pe_ix ix_tup (pv 0) pe_int (fun _ _ => rfl)) (pa_cons (pv 1) pa_nil)))))
        (pw_or1 (pt_not (pt_val (pe_call G1 hr5 (by rfl) D1.g D1.kp D1.b .nil pass0 (pa_cons (pe_ix ix_tup (pv 0) pe_int (fun _ _ => rfl)) (pa_cons (pv 1) pa_nil)))))))))) (pss_one (ps_ret pe_bl)) pss_nil)
      (pss_cons (ps_set (i := 3) scIsKind.nd rfl (Or.inl rfl) (pe_ix ix_tup (pv 0) pe_int (fun _ _ => rfl)))
      (pss_cons (ps_if (PW.pt (pw_or (pt_not (pt_val (pe_callB call_isi (by rfl) B.isi boot_isinstance (pa_cons (pv 3) (pa_cons (pe_bltn (v := .ty "tuple") (by rfl) B.tuple boot_tuple rfl) pa_nil)))))
        (pw_or1 (pt_not (pt_chain op_le op_le pe_int (pe_callB call_len_seq (by rfl) B.len PySem.boot_len (pa_cons (pv 3) pa_nil)) (pe_glob (v := .int 8) rfl hML ⟨_, rfl⟩)))))) (pss_one (ps_ret pe_bl)) pss_nil)
      (pss_one (ps_ret (pe_all (k := 5) (own := [("route", 4)]) (gt := gName 4) hr (by rfl) B.all boot_all scIsKind.nd (pi_tup (pv 3)) (blkOk_by (N := ["value", "dyes", "vats", "routes", "route"]) (sc := defScope sIsKind) (by decide +kernel)) (by rfl) (by rfl) TB.bm (pcode_x (okB1_hd TB))
          (fun _ _ _ _ _ _ => pg_name (i := 4) scIsKind.nd rfl (Or.inl rfl))
          (fun _ _ _ _ _ _ hrG => pe_call G2 hrG (by rfl) D2.g D2.kp D2.b .nil pass0 (pa_cons (pv 4) (pa_cons (pv 2) pa_nil)))))))), ?_⟩
    refine ⟨_, rfl, _, _, _, _, true, rfl, .ty _, tyTup ha, kit_ty (by decide +kernel), _, rfl, iteF ?_⟩
    refine ⟨_, rfl, _, _, rfl, .inr (SqT.of ha), rfl, _, rfl, iteF ?_⟩
    refine ⟨_, rfl, _, _, _, _, rfl, rfl, SqT.of ha, rfl, _, rfl, _, d, k.wants, rfl, hw, hK.wants, hK.wants.len hd4, hTL, fun H1 s1 => ⟨_, rfl, iteF ?_⟩⟩
    have ha1 := s1 _ _ ha
    refine ⟨_, rfl, _, _, _, _, rfl, rfl, SqT.of ha1, rfl, _, rfl, _, d, k.bars, rfl, hb.tk (Tk.same s1), hK.bars, hK.bars.len hd4, s1 _ _ hTL, fun H2 s2 => ⟨_, rfl, iteF ?_⟩⟩
    have ha2 := s2 _ _ ha1
    have s12 := s1.trans s2
    refine ⟨_, rfl, _, _, _, _, rfl, rfl, SqT.of ha2, rfl, ?_⟩
    have hb3 := s12 _ _ ha3
    have hx3' : AllAt (TI H2) xs3 k.routes := hx3.mono fun x r h => h.tk (Tk.same s12)
    have h1 : (1 : Int) ≤ (xs3.length : Int) := by have := hK.r1; rw [hx3.len]; omega
    have h2 : (xs3.length : Int) ≤ 8 := by have := hK.r4; rw [hx3.len]; omega
    refine ⟨_, rfl, _, _, _, _, true, rfl, .ty _, tyTup hb3, kit_ty (by decide +kernel), _, rfl, iteF ?_⟩
    refine ⟨_, rfl, _, _, rfl, .inr (SqT.of hb3), _, _, rfl, rfl, true, ?_, iteT ⟨_, _, rfl, rfl, true, ?_, iteF ?_⟩⟩
    · show V.bl (decide ((1 : Int) ≤ (xs3.length : Int))) = V.bl true
      rw [decide_eq_true h1]
    · show V.bl (decide ((xs3.length : Int) ≤ 8)) = V.bl true
      rw [decide_eq_true h2]
    refine ⟨_, rfl, a3, rfl, ⟨_, SqT.of hb3⟩, c, TK, rfl, .inl ⟨rfl, rfl⟩, s12 _ _ hTK, fun cv => ?_⟩
    refine gen_tup (K := K) (a := a3) (xs := xs3) (fun _ H' => Same H2 H') (Same.refl _) (fun i H' _ e => SqT.of (e _ _ hb3)) (fun i x H' Nx hN hx e => ?_) fun H' e => q H' (s12.trans e)
    obtain ⟨r, hr1, hti⟩ := hx3'.back hx
    obtain ⟨r1, r2, r3⟩ := hK.route r (List.mem_of_getElem? hr1)
    exact ⟨rfl, _, rfl, _, rfl, _, n, r, rfl, hti.tk (Tk.same e), ⟨r1, r2, r3⟩, e _ _ (s12 _ _ hTR), fun H3 s3 => ⟨true, rfl, fun e => (by cases e), fun _ => hN _ (e.trans s3)⟩⟩
end
end Dy
set_option Elab.async false
set_option maxRecDepth 100000
set_option maxHeartbeats 4000000
namespace Dy
open PySem PySem.Spec PyProof.Rows L2 GenW RZ
abbrev sBWInit : Stmt := inClass (top 2) 0
/-- len(a list or tuple), its reading by K -/
def rLenK (K : PySem.W.Frag) : List V → Hp → VK → Prop := fun xs H Q => ∃ p ys, xs = [V.ref p] ∧ (SqL K H p ys ∨ SqT K H p ys) ∧ Q (V.int (ys.length : Nat)) H
theorem call_lenK {X : Cx} {K : PySem.W.Frag} (e : X.K = K) : CallR X (.builtin "len") (rLenK K) := by
  subst e
  exact call_len_seq
/-! ### BadWorks -/
structure Bw (K : PySem.W.Frag) (mg : Str → Option Value) (C fI : Addr) (fd : FuncData) : Prop where
  T : OexC K C
  g : mg "BadWorks" = some (.ref C)
  iC : PySem.W.findIn K (.ref C) "__init__" = some (some (.ref fI))
  tI : PySem.W.typeIn K (.ref fI) = some (.type "function")
  no : PySem.W.findIn K (.ref C) "part" = some none
  F : Fun K "__init__" "BadWorks.__init__" sBWInit fI fd
  b : Binds K fd ["self", "part"] []
def spBWI (K : PySem.W.Frag) : Sp := fun vs H Q _ => ∃ (a C : Addr) (y : V), vs = [.ref a, y] ∧ OexC K C ∧ PySem.W.findIn K (.ref C) "part" = some none ∧ H a = some (exo a C none) ∧ ∀ dx, H dx = none → dx ≠ a → Q .non (upd (upd H dx (exd dx [("part", y)])) a (exo a C (some dx)))
section
variable {P : Program} {w : World} {K : PySem.W.Frag} {mg : Str → Option Value} {base : Heap}
theorem scBWI : FnScope ["self", "part"] ["self", "part"] (defScope sBWInit) := ⟨rfl, rfl, rfl, by decide +kernel, rfl, by decide +kernel, by decide +kernel⟩
theorem ok_bwi {f : Addr} {fd : FuncData} (F : Fun K "__init__" "BadWorks.__init__" sBWInit f fd) : FnOk P w K mg base CX0 1 f fd ["self", "part"] (spBWI K) := by
  refine F.ok scBWI (fun vs H Q E h => ?_) (fun cdv A outer s H vs Q E hr h => ?_)
  · obtain ⟨a, C, y, rfl, _⟩ := h
    rfl
  · obtain ⟨a, C, y, rfl, T, no, ha, q⟩ := h
    refine ⟨_, pss_one (ps_ost (pv 0) (pv 1)), ?_⟩
    exact ⟨_, rfl, _, rfl, a, C, rfl, T, no, .inl ⟨ha, fun dx h1 h2 => q dx h1 h2⟩⟩
/-- the parts of BadWorks('..') -/
theorem pmk_bw {X : Cx} {C fI : Addr} {fd : FuncData} {m : Str} {j : Nat} {p p2 pos : Pos} (W : Bw X.K X.mg C fI fd) (hr : Room 2 X.A) (hg : Gl X "BadWorks") :
    PMk X (.Call (.Name "BadWorks" p) [.Constant (.str m) j p2] [] pos) (fun _ H Q => ∀ (d : Addr) (H' : Hp), Same H H' → H' d = some (.xd [("part", .str m)]) → Q (.ref C) (some d) H') := by
  have G : FnOk X.prog X.w X.K X.mg X.base CX0 1 fI fd ["self", "part"] (spBWI X.K) := ok_bwi W.F
  have ha : PA X [.Constant (.str m) j p2] (tCons (tC (.str m)) tNil) := pa_cons pe_str pa_nil
  have z := pmk_oex (X := X) (x := "BadWorks") (p := p) (pos := pos) (e := .Constant (.str m) j p2) (es := []) W.T W.iC W.tI G hr W.b .nil pass0 hg W.g ha
  intro pins s σ H Q I h
  refine z pins s σ H Q I ?_
  refine ⟨by show 1 ≤ 1000; omega, fun a ha => ⟨a, C, .str m, rfl, W.T, W.no, upd_same, fun dx h1 h2 => ⟨rfl, dx, [("part", .str m)], upd_same, ?_, ?_, h dx _ (fun b o e => ?_) upd_same⟩⟩⟩
  · rw [upd_ne h2, upd_same]
  · rw [upd_ne h2] at h1
    exact h1
  · have hdx : H dx = none := by
      rw [upd_ne h2] at h1
      exact h1
    have n1 : b ≠ dx := ne_of_none e hdx
    have n2 : b ≠ a := ne_of_none e ha
    rw [upd_ne n1, del_ne n2, upd_ne n2, upd_ne n1, upd_ne n2]
    exact e
/-- the tables of the defs that hold generator expressions, but has_wants -/
structure Tbs (TL TR TK TN TC : Addr) (H : Hp) : Prop where
  l : H TL = some (TabX TL)
  r : H TR = some (TabX TR)
  k : H TK = some (TabX TK)
  n : H TN = some (TabX TN)
  c : H TC = some (TabX TC)
theorem Tbs.same {TL TR TK TN TC : Addr} {H H' : Hp} (t : Tbs TL TR TK TN TC H) (s : Same H H') : Tbs TL TR TK TN TC H' := ⟨s _ _ t.l, s _ _ t.r, s _ _ t.k, s _ _ t.n, s _ _ t.c⟩
/-- what need_works refuses here -/
inductive NoWorks (H : Hp) : V → Prop where
  | non : NoWorks H .non
  | tup {a : Addr} (h : H a = some (.tup [])) : NoWorks H (.ref a)
  | lst {a : Addr} {xs : List V} (h : H a = some (.lst xs)) : NoWorks H (.ref a)
def spNeedW (TL TR TK TN TC C : Addr) : Sp := fun vs H Q E => ∃ v, vs = [v] ∧
  ((∃ W, WorksAt H v W ∧ WorksOk W ∧ Tbs TL TR TK TN TC H ∧ ∀ H', Same H H' → Q .non H') ∨ (NoWorks H v ∧ ∀ (d : Addr) (H' : Hp), Same H H' → H' d = some (.xd [("part", .str "works")]) → E (.ref C) (some d) H'))
theorem scNeedW : FnScope ["value", "dyes", "vats", "kinds", "own", "kind"] ["value"] (defScope sNeedWorks) := ⟨rfl, rfl, rfl, by decide +kernel, rfl, by decide +kernel, by decide +kernel⟩
theorem ok_needw {f f0 f1 f2 fI c c1 c2 TL TR TK TN TC C : Addr} {fd fd0 fd1 fd2 fdI : FuncData} (F : FunC K "need_works" "need_works" sNeedWorks f fd c) (B : Blt mg) (S : Cst mg) (TB : LamX.TabB base mg c TN) (W : Bw K mg C fI fdI)
    (D0 : Dn K mg "is_number" sIsNum ["value", "low", "high"] f0 fd0) (D1 : Dc K mg "is_lot" sIsLot ["value", "many"] f1 fd1 c1) (D2 : Dc K mg "is_kind" sIsKind ["value", "dyes", "vats"] f2 fd2 c2)
    (G1 : FnOk P w K mg base CX0 5 f1 fd1 ["value", "many"] (spIsLot TL)) (G2 : FnOk P w K mg base CX0 9 f2 fd2 ["value", "dyes", "vats"] (spIsKind TL TR TK)) :
    FnOk P w K mg base (L2.CX P w) 13 f fd ["value"] (spNeedW TL TR TK TN TC C) := by
  have G0 : FnOk P w K mg base CX0 1 f0 fd0 ["value", "low", "high"] spIsNum := ok_isnum D0.F B
  obtain ⟨t1, hMD⟩ := S.dyes
  obtain ⟨t2, hMV⟩ := S.vats
  obtain ⟨t3, hMK⟩ := S.kinds
  refine F.okG scNeedW (fun vs H Q E h => ?_) (fun A outer s H vs Q E hr h => ?_)
  · obtain ⟨v, rfl, _⟩ := h
    rfl
  · obtain ⟨v, rfl, h⟩ := h
    have hr1 : Room 1 (A.deeper (envOfC "need_works" (defScope sNeedWorks) s.heap.objs.size f (.ref c))) := hr.mono (by decide)
    have hr2 : Room 2 (A.deeper (envOfC "need_works" (defScope sNeedWorks) s.heap.objs.size f (.ref c))) := hr.mono (by decide)
    have hr8 : Room 8 (A.deeper (envOfC "need_works" (defScope sNeedWorks) s.heap.objs.size f (.ref c))) := hr.mono (by decide)
    refine ⟨_, pss_cons (ps_if (PW.pt (pw_or (pt_not (pt_val (pe_callB call_isi (by rfl) B.isi boot_isinstance (pa_cons (pv 0) (pa_cons (pe_bltn (v := .ty "tuple") (by rfl) B.tuple boot_tuple rfl) pa_nil)))))
        (pw_or1 (pt_cmpR op_ne (pe_callB call_len_seq (by rfl) B.len PySem.boot_len (pa_cons (pv 0) pa_nil)) pe_int (nomark _)))))
        (pss_one (ps_raise rfl (takes_of rfl rfl rfl rfl) (pmk_bw W hr2 (by rfl)))) pss_nil)
      (pss_cons (ps_asg (pv 0) (pg_tup (by rfl) (pgs_cons (pg_name (i := 1) scNeedW.nd rfl (Or.inr rfl)) (pgs_cons (pg_name (i := 2) scNeedW.nd rfl (Or.inr rfl)) (pgs_cons (pg_name (i := 3) scNeedW.nd rfl (Or.inl rfl)) pgs_nil)))))
      (pss_cons (ps_if (pt_not (pt_val (pe_call G0 hr1 (by rfl) D0.g D0.F.kp D0.b .nil pass0 (pa_cons (pv 1) (pa_cons pe_int (pa_cons (pe_glob (v := .int 5) rfl hMD ⟨_, rfl⟩) pa_nil))))))
        (pss_one (ps_raise rfl (takes_of rfl rfl rfl rfl) (pmk_bw W hr2 (by rfl)))) pss_nil)
      (pss_cons (ps_if (PW.pt (pw_or (pt_not (pt_val (pe_callB call_isi (by rfl) B.isi boot_isinstance (pa_cons (pv 2) (pa_cons (pe_bltn (v := .ty "tuple") (by rfl) B.tuple boot_tuple rfl) pa_nil)))))
        (pw_or (pt_not (pt_chain op_le op_le pe_int (pe_callB call_len_seq (by rfl) B.len PySem.boot_len (pa_cons (pv 2) pa_nil)) (pe_glob (v := .int 5) rfl hMV ⟨_, rfl⟩)))
        (pw_or1 (pt_not (pt_val (pe_all (k := 5) (own := [("own", 4)]) (gt := gName 4) hr8 (by rfl) B.all boot_all scNeedW.nd (pi_tup (pv 2)) (blkOk_by (N := ["value", "dyes", "vats", "kinds", "own", "kind"]) (sc := defScope sNeedWorks) (by decide +kernel)) (by rfl) (by rfl) TB.bm (pcode_x (okB1_hd TB))
          (fun _ _ _ _ _ _ => pg_name (i := 4) scNeedW.nd rfl (Or.inl rfl))
          (fun _ _ _ _ _ _ hrG => pe_call G1 hrG (by rfl) D1.g D1.kp D1.b .nil pass0 (pa_cons (pv 4) (pa_cons (pv 1) pa_nil))))))))))
        (pss_one (ps_raise rfl (takes_of rfl rfl rfl rfl) (pmk_bw W hr2 (by rfl)))) pss_nil)
      (pss_cons (ps_if (PW.pt (pw_or (pt_not (pt_val (pe_callB call_isi (by rfl) B.isi boot_isinstance (pa_cons (pv 3) (pa_cons (pe_bltn (v := .ty "tuple") (by rfl) B.tuple boot_tuple rfl) pa_nil)))))
        (pw_or1 (pt_not (pt_chain op_le op_le pe_int (pe_callB call_len_seq (by rfl) B.len PySem.boot_len (pa_cons (pv 3) pa_nil)) (pe_glob (v := .int 4) rfl hMK ⟨_, rfl⟩))))))
        (pss_one (ps_raise rfl (takes_of rfl rfl rfl rfl) (pmk_bw W hr2 (by rfl)))) pss_nil)
      (pss_one (ps_if (pt_not (pt_val (pe_all (k := 9) (own := [("kind", 5)]) (gt := gName 5) hr (by rfl) B.all boot_all scNeedW.nd (pi_tup (pv 3)) (blkOk_by (N := ["value", "dyes", "vats", "kinds", "own", "kind"]) (sc := defScope sNeedWorks) (by decide +kernel)) (by rfl) (by rfl) TB.bm (pcode_x (okB1_hd TB))
          (fun _ _ _ _ _ _ => pg_name (i := 5) scNeedW.nd rfl (Or.inl rfl))
          (fun _ _ _ _ _ _ hrG => pe_call G2 hrG (by rfl) D2.g D2.kp D2.b .nil pass0 (pa_cons (pv 5) (pa_cons (pv 1) (pa_cons (pe_callB (call_lenK (K := K) rfl) (by rfl) B.len PySem.boot_len (pa_cons (pv 2) pa_nil)) pa_nil)))))))
        (pss_one (ps_raise rfl (takes_of rfl rfl rfl rfl) (pmk_bw W hr2 (by rfl)))) pss_nil)))))), ?_⟩
    rcases h with ⟨D, ⟨a, v2, v3, rfl, ha, ⟨a2, xs2, rfl, ha2, hx2⟩, a3, xs3, rfl, ha3, hx3⟩, hW, hT, q⟩ | ⟨n, q⟩
    · refine ⟨_, rfl, _, _, _, _, true, rfl, .ty _, tyTup ha, kit_ty (by decide +kernel), _, rfl, iteF ⟨_, rfl, _, _, rfl, .inr (SqT.of ha), rfl, _, rfl, iteF ?_⟩⟩
      refine ⟨_, rfl, a, _, rfl, SqT.of ha, rfl, _, _, rfl, _, _, rfl, _, _, rfl, rfl, ?_⟩
      have hd := hW.d1
      have hd4 := hW.d4
      refine ⟨_, rfl, _, 1, 5, rfl, .inl ⟨D.dyes, rfl, true, (by rw [decide_eq_true]; exact ⟨hd, by omega⟩), iteF ?_⟩⟩
      have h1 : (1 : Int) ≤ (xs2.length : Int) := by have := hW.v1; rw [hx2.len]; omega
      have h2 : (xs2.length : Int) ≤ 5 := by have := hW.v4; rw [hx2.len]; omega
      refine ⟨_, rfl, _, _, _, _, true, rfl, .ty _, tyTup ha2, kit_ty (by decide +kernel), _, rfl, iteF ?_⟩
      refine ⟨_, rfl, _, _, rfl, .inr (SqT.of ha2), _, _, rfl, rfl, true, ?_, iteT ⟨_, _, rfl, rfl, true, ?_, iteF ?_⟩⟩
      · show V.bl (decide ((1 : Int) ≤ (xs2.length : Int))) = V.bl true
        rw [decide_eq_true h1]
      · show V.bl (decide ((xs2.length : Int) ≤ 5)) = V.bl true
        rw [decide_eq_true h2]
      refine ⟨_, rfl, a2, rfl, ⟨_, SqT.of ha2⟩, c, TN, rfl, .inl ⟨rfl, rfl⟩, hT.n, fun cv => ?_⟩
      refine gen_tup (K := K) (a := a2) (xs := xs2) (fun _ H' => Same H H') (Same.refl _) (fun i H' _ e => SqT.of (e _ _ ha2)) (fun i x H' Nx hN hx e => ?_) fun H1 s1 => ⟨true, rfl, iteF ?_⟩
      · obtain ⟨r, hr1, hti⟩ := hx2.back hx
        have hl := hW.vat r (List.mem_of_getElem? hr1)
        exact ⟨rfl, _, rfl, _, rfl, _, _, r, rfl, hti.tk (Tk.same e), hl, hl.len hd4, e _ _ hT.l, fun H3 s3 => ⟨true, rfl, fun e => (by cases e), fun _ => hN _ (e.trans s3)⟩⟩
      have hb3 := s1 _ _ ha3
      have h3 : (1 : Int) ≤ (xs3.length : Int) := by have := hW.k1; rw [hx3.len]; omega
      have h4 : (xs3.length : Int) ≤ 4 := by have := hW.k3; rw [hx3.len]; omega
      refine ⟨_, rfl, _, _, _, _, true, rfl, .ty _, tyTup hb3, kit_ty (by decide +kernel), _, rfl, iteF ?_⟩
      refine ⟨_, rfl, _, _, rfl, .inr (SqT.of hb3), _, _, rfl, rfl, true, ?_, iteT ⟨_, _, rfl, rfl, true, ?_, iteF ?_⟩⟩
      · show V.bl (decide ((1 : Int) ≤ (xs3.length : Int))) = V.bl true
        rw [decide_eq_true h3]
      · show V.bl (decide ((xs3.length : Int) ≤ 4)) = V.bl true
        rw [decide_eq_true h4]
      refine ⟨_, rfl, a3, rfl, ⟨_, SqT.of hb3⟩, c, TN, rfl, .inl ⟨rfl, rfl⟩, s1 _ _ hT.n, fun cv => ?_⟩
      refine gen_tup (K := K) (a := a3) (xs := xs3) (fun _ H' => Same H H') s1 (fun i H' _ e => SqT.of (e _ _ ha3)) (fun i x H' Nx hN hx e => ?_) fun H2 s2 => ⟨true, rfl, iteF (q H2 s2)⟩
      obtain ⟨k, hk1, hka⟩ := hx3.back hx
      have hk := hW.kind k (List.mem_of_getElem? hk1)
      refine ⟨rfl, _, rfl, _, rfl, _, rfl, _, _, rfl, .inr (SqT.of (e _ _ ha2)), _, D.dyes, D.vats.length, k, (by rw [hx2.len]; rfl), hka.tk (Tk.same e), hk, hd4, e _ _ hT.l, e _ _ hT.r, e _ _ hT.k, fun H3 s3 => ⟨true, rfl, fun e => (by cases e), fun _ => hN _ (e.trans s3)⟩⟩
    · cases n with
      | non => exact ⟨_, rfl, _, _, _, _, false, rfl, .ty _, .base .non, kit_ty (by decide +kernel), _, rfl, iteT (iteT fun d H' s1 s2 => q d H' s1 s2)⟩
      | @tup a h => exact ⟨_, rfl, _, _, _, _, true, rfl, .ty _, tyTup h, kit_ty (by decide +kernel), _, rfl, iteF ⟨_, rfl, _, _, rfl, .inr (SqT.of h), rfl, _, rfl, iteT fun d H' s1 s2 => q d H' s1 s2⟩⟩
      | @lst a xs h => exact ⟨_, rfl, _, _, _, _, false, rfl, .ty _, .base (.lst h), kit_ty (by decide +kernel), _, rfl, iteT (iteT fun d H' s1 s2 => q d H' s1 s2)⟩
end
end Dy
set_option Elab.async false
set_option maxRecDepth 100000
set_option maxHeartbeats 4000000
namespace Dy
open PySem PySem.Spec PyProof.Rows L2 GenW RZ
theorem catV {K : PySem.W.Frag} {H : Hp} {a b : Addr} {xs ys : List V} {Q : VK} (ha : H a = some (.tup xs)) (hb : H b = some (.tup ys)) (hl : xs.length + ys.length ≤ sizeLine)
    (q : ∀ (c : Addr) (H1 : Hp), Same H H1 → H1 c = some (.tup (xs ++ ys)) → Q (.ref c) H1) : rCatA K (.ref a) (.ref b) H Q :=
  ⟨a, b, xs, ys, rfl, rfl, SqT.of ha, SqT.of hb, hl, fun e => q b H (Same.refl _) (by rw [e]; exact hb), fun _ e => q a H (Same.refl _) (by rw [e, List.append_nil]; exact ha), fun _ _ p hp => q p _ (same_upd hp) upd_same⟩
theorem small_line {n : Nat} (h : n ≤ 1000) : n ≤ sizeLine := Nat.le_of_lt (small1000 h)
/-- joined(one, other) -/
def spJoined : Sp := fun vs H Q _ => ∃ (x y : V) (ns ms : List Int), vs = [x, y] ∧ TI H x ns ∧ TI H y ms ∧ ns.length + ms.length ≤ 16 ∧ ∀ t H', Same H H' → TI H' t (uni (ns ++ ms)) → Q t H'
/-- behind(stand, route) -/
def spBehind : Sp := fun vs H Q _ => ∃ (x y : V) (W : WorksD) (st : List (List Int)) (r : List Int), vs = [x, y] ∧ TT H x st ∧ TI H y r ∧ StandOk W st ∧ W.dyes ≤ 4 ∧ W.vats.length ≤ 4 ∧ RouteOk W.vats.length r ∧
  ∀ (t : Addr) (u v : V) (H' : Hp), Same H H' → H' t = some (.tup [u, v]) → TT H' u (passD r st []).1 → TI H' v (passD r st []).2 → Q (.ref t) H'
section
variable {P : Program} {w : World} {K : PySem.W.Frag} {mg : Str → Option Value} {base : Heap}
theorem scJoined : FnScope ["one", "other"] ["one", "other"] (defScope sJoined) := ⟨rfl, rfl, rfl, by decide +kernel, rfl, by decide +kernel, by decide +kernel⟩
theorem ok_joined {f : Addr} {fd : FuncData} (F : Fun K "joined" "joined" sJoined f fd) (B : Blt mg) : FnOk P w K mg base CX0 1 f fd ["one", "other"] spJoined := by
  refine F.ok scJoined (fun vs H Q E h => ?_) (fun cdv A outer s H vs Q E hr h => ?_)
  · obtain ⟨x, y, ns, ms, rfl, _⟩ := h
    rfl
  · obtain ⟨x, y, ns, ms, rfl, ⟨a, rfl, ha⟩, ⟨b, rfl, hb⟩, hl, q⟩ := h
    refine ⟨_, pss_one (ps_ret (pe_callTy call_tuple_of (by rfl) B.tuple boot_tuple (pa_cons (pe_callB (cr_sortedSet rfl) (by rfl) B.sorted boot_sorted (pa_cons (pe_callTy (cr_setI rfl) (by rfl) B.set boot_set
      (pa_cons (pe_op op_catA (pv 0) (pv 1)) pa_nil)) pa_nil)) pa_nil))), ?_⟩
    refine ⟨_, rfl, _, rfl, catV ha hb (by simp only [List.length_map]; exact small_line (by omega)) fun c H1 s1 hc => ?_⟩
    rw [← List.map_append] at hc
    have hz : (ns ++ ms).length ≤ 16 := by rw [List.length_append]; exact hl
    refine ⟨_, ns ++ ms, rfl, .inr (SqT.of hc), (by unfold scanBound; omega), fun p n hn hp => ⟨p, _, n, rfl, upd_same, by omega, fun ks p2 asc mem len hp2 => ⟨p2, _, rfl, .inl ⟨SqL.of upd_same, fun t ht => q _ _ (((s1.trans (same_upd hp)).trans (same_upd hp2)).trans (same_upd ht)) ⟨t, rfl, ?_⟩⟩⟩⟩⟩
    have e : ks = uni (ns ++ ms) := uni_of asc fun k => (mem k).trans (by simp)
    rw [e]
    exact upd_same
theorem tk_upd {H : Hp} {l : Addr} {o : HO} (h : ∀ xs, H l ≠ some (.tup xs)) : Tk H (upd H l o) := fun a xs e => by
  have n : a ≠ l := fun z => by
    rw [z] at e
    exact h xs e
  rw [upd_ne n]
  exact e
theorem tk_lst {H : Hp} {l : Addr} {o : HO} {xs : List V} (h : H l = some (.lst xs)) : Tk H (upd H l o) := tk_upd fun ys e => by rw [h] at e; cases e
theorem same_at {H H' : Hp} {l : Addr} {o : HO} (s : Same H H') (h : H l = none) : Same H (upd H' l o) := fun b u e => by
  rw [upd_ne (ne_of_none e h)]
  exact s b u e
theorem take_snoc {α : Type} {l : List α} {i : Nat} {x : α} (h : l[i]? = some x) : l.take (i + 1) = l.take i ++ [x] := by
  rw [List.take_add_one, h]; rfl
theorem ixN_of {n : Nat} {v : Int} (h : 0 ≤ v ∧ v < (n : Int)) : ixN n v = some v.toNat := by
  unfold ixN
  rw [if_pos h.1, if_pos h.2]
theorem atI_of {α : Type} {xs : List α} {v : Int} {x : α} (h : 0 ≤ v) (e : xs[v.toNat]? = some x) : atI xs v = some x := by
  have z := atI_nat e
  rwa [Int.toNat_of_nonneg h] at z
theorem getD_get {l : List (List Int)} {i : Nat} (h : i < l.length) : l[i]? = some (l.getD i []) := by
  rw [List.getD_eq_getElem?_getD, List.getElem?_eq_getElem h]
  rfl
theorem scBehind : FnScope ["stand", "route", "traces", "carried", "vat"] ["stand", "route"] (defScope sBehind) := ⟨rfl, rfl, rfl, by decide +kernel, rfl, by decide +kernel, by decide +kernel⟩
theorem ok_behind {f f1 : Addr} {fd fd1 : FuncData} (F : Fun K "behind" "behind" sBehind f fd) (B : Blt mg) (D1 : Dn K mg "joined" sJoined ["one", "other"] f1 fd1) : FnOk P w K mg base CX0 2 f fd ["stand", "route"] spBehind := by
  have G1 : FnOk P w K mg base CX0 1 f1 fd1 ["one", "other"] spJoined := ok_joined D1.F B
  refine F.ok scBehind (fun vs H Q E h => ?_) (fun cdv A outer s H vs Q E hr h => ?_)
  · obtain ⟨x, y, W, st, r, rfl, _⟩ := h
    rfl
  · obtain ⟨x, y, W, st, r, rfl, ⟨a, xs, rfl, ha, hx⟩, ⟨b, rfl, hb⟩, hS, hd4, hv4, hR, q⟩ := h
    refine ⟨_, pss_cons (ps_par (i := 2) (j := 3) rfl scBehind.nd rfl rfl (by decide) rfl rfl (pa_cons (pe_callTy call_list_of (by rfl) B.list boot_list (pa_cons (pv 0) pa_nil)) (pa_cons (pe_tup pa_nil) pa_nil)) (by rfl))
      (pss_cons (ps_for PassesOwn.never rfl (pi_tup (pv 1)) (pg_name (i := 4) scBehind.nd rfl (Or.inl rfl))
        (pss_cons (ps_set (i := 3) scBehind.nd rfl (Or.inl rfl) (pe_call G1 hr (by rfl) D1.g D1.F.kp D1.b .nil pass0 (pa_cons (pv 3) (pa_cons (pe_ix ix_list (pv 2) (pv 4) (fun _ _ => rfl)) pa_nil))))
        (pss_one (ps_asg (pv 3) (pg_sub (pv 2) (pv 4) set_list)))))
      (pss_one (ps_ret (pe_tup (pa_cons (pe_callTy call_tuple_of (by rfl) B.tuple boot_tuple (pa_cons (pv 2) pa_nil)) (pa_cons (pv 3) pa_nil)))))), ?_⟩
    refine ⟨_, rfl, _, _, rfl, .inr (SqT.of ha), fun l hl => ⟨by show 0 ≤ sizeLine; omega, fun t ht => ⟨_, _, rfl, ?_⟩⟩⟩
    have s0 : Same H (upd (upd H l (.lst xs)) t (.tup [])) := (same_upd hl).trans (same_upd ht)
    have nlt : l ≠ t := fun z => by rw [← z, upd_same] at ht; cases ht
    refine ⟨_, rfl, b, rfl, ⟨_, SqT.of (s0 _ _ hb)⟩, for_tup (K := K) (a := b) (xs := r.map V.int) (fun i σ H' => ∃ (ys : List V) (cv : V) (o : Option V), σ = [some (.ref a), some (.ref b), some (.ref l), some cv, o] ∧
        Same H H' ∧ H' l = some (.lst ys) ∧ AllAt (TI H') ys (passD (r.take i) st []).1 ∧ TI H' cv (passD (r.take i) st []).2)
      ⟨xs, .ref t, none, rfl, s0, (by rw [upd_ne nlt, upd_same]), hx.mono fun _ _ k => k.tk (Tk.same s0), ⟨t, rfl, upd_same⟩⟩ (fun i σ H' _ ⟨_, _, _, _, s1, _⟩ => SqT.of (s1 _ _ hb)) ?_ ?_⟩
    · rintro i x σ H' hi ⟨ys, cv, o, rfl, s1, hl1, hA, hc⟩
      obtain ⟨v, hv, rfl⟩ := map_get hi
      have hvb := hR.vat v (List.mem_of_getElem? hv)
      obtain ⟨hS1, hL1⟩ := pass_ok (w := W) (r := r.take i) hS (Lot.nil _) fun z hz => hR.vat z (List.mem_of_mem_take hz)
      have hvl : v.toNat < (passD (r.take i) st []).1.length := by rw [hS1.len]; omega
      obtain ⟨e, he, hte⟩ := hA.at_ v.toNat _ (getD_get hvl)
      have hle := (hS1.lot _ (getD_mem (d := []) hvl)).len hd4
      have hlc := hL1.len hd4
      refine ⟨_, rfl, _, rfl, _, rfl, l, ys, v, e, rfl, rfl, SqL.of hl1, atI_of hvb.1 he, ?_⟩
      refine ⟨cv, e, _, _, rfl, hc, hte, by omega, fun t2 H2 s2 h2 => ?_⟩
      have hl2 := s2 _ _ hl1
      refine ⟨_, rfl, _, rfl, _, rfl, l, ys, v, v.toNat, rfl, rfl, hl2, ixN_of (by rw [hA.len, hS1.len]; exact hvb), ?_⟩
      have tk := tk_lst (o := .lst (ys.set v.toNat t2)) hl2
      refine ⟨ys.set v.toNat t2, t2, _, rfl, same_at (s1.trans s2) hl, upd_same, ?_, ?_⟩
      · rw [take_snoc hv, passD_snoc]
        exact (hA.mono fun _ _ k => (k.tk (Tk.same s2)).tk tk).set v.toNat (h2.tk tk)
      · rw [take_snoc hv, passD_snoc]
        exact h2.tk tk
    · rintro σ H' ⟨ys, cv, o, rfl, s1, hl1, hA, hc⟩
      rw [List.length_map, List.take_length] at hA hc
      refine ⟨_, rfl, l, ys, rfl, .inl ⟨SqL.of hl1, fun u hu => ⟨_, rfl, by show 2 ≤ sizeLine; exact small_line (by omega), fun p hp => ?_⟩⟩⟩
      have s3 := (same_upd (o := .tup ys) hu).trans (same_upd (o := .tup [.ref u, cv]) hp)
      refine q p (.ref u) cv _ (s1.trans s3) upd_same ⟨u, ys, rfl, same_upd hp _ _ upd_same, hA.mono fun _ _ k => k.tk (Tk.same s3)⟩ (hc.tk (Tk.same s3))
end
end Dy
set_option Elab.async false
set_option maxRecDepth 100000
set_option maxHeartbeats 4000000
namespace Dy
open PySem PySem.Spec PyProof.Rows L2 GenW RZ
theorem inV_ints (d : Int) : ∀ ns : List Int, inV (.int d) (ns.map V.int) = decide (d ∈ ns)
  | [] => rfl
  | n :: ns => by
    show (eqV (.int n) (.int d) || inV (.int d) (ns.map V.int)) = _
    rw [inV_ints d ns]
    show (decide (n = d) || decide (d ∈ ns)) = decide (d ∈ n :: ns)
    rw [Bool.eq_iff_iff]
    simp only [Bool.or_eq_true, decide_eq_true_eq, List.mem_cons]
    constructor
    · rintro (e | e)
      · exact .inl e.symm
      · exact .inr e
    · rintro (e | e)
      · exact .inl e.symm
      · exact .inr e
theorem flat_ints : ∀ ns : List Int, (ns.map V.int).all flatV = true
  | [] => rfl
  | n :: ns => flat_ints ns
/-- is_clean -/
def spClean (TC : Addr) : Sp := fun vs H Q _ => ∃ (x y : V) (k : Int) (W : WorksD) (kd : KindD) (ns : List Int), vs = [x, .int k, y] ∧ WorksAt H x W ∧ 0 ≤ k ∧ W.kinds[k.toNat]? = some kd ∧ TI H y ns ∧ H TC = some (TabX TC) ∧ Q (.bl (cleanD kd.bars ns)) H
section
variable {P : Program} {w : World} {K : PySem.W.Frag} {mg : Str → Option Value} {base : Heap}
theorem scClean : FnScope ["works", "kind", "carried", "dye"] ["works", "kind", "carried"] (defScope sIsClean) := ⟨rfl, rfl, rfl, by decide +kernel, rfl, by decide +kernel, by decide +kernel⟩
theorem ok_clean {f c TC : Addr} {fd : FuncData} (F : FunC K "is_clean" "is_clean" sIsClean f fd c) (B : Blt mg) (TB : LamX.TabB base mg c TC) : FnOk P w K mg base CX0 4 f fd ["works", "kind", "carried"] (spClean TC) := by
  refine F.ok scClean (fun vs H Q E h => ?_) (fun A outer s H vs Q E hr h => ?_)
  · obtain ⟨x, y, k, W, kd, ns, rfl, _⟩ := h
    rfl
  · obtain ⟨x, y, k, W, kd, ns, rfl, ⟨a, v2, v3, rfl, ha, hv2, ⟨a3, xs3, rfl, ha3, hx3⟩⟩, hk0, hk, ⟨b, rfl, hb⟩, hT, q⟩ := h
    obtain ⟨xk, hxk, ak, k1, k2, k3, rfl, hak, hk1, ⟨a4, rfl, ha4⟩, hk3⟩ := hx3.at_ _ _ hk
    refine ⟨_, pss_one (ps_ret (pe_not (pe_any (k := 0) (own := [("dye", 3)]) (gt := gName 3) hr (by rfl) B.any scClean.nd (pi_tup (pv 2)) (blkOk_by (N := ["works", "kind", "carried", "dye"]) (sc := defScope sIsClean) (by decide +kernel)) (by rfl) (by rfl) TB.bm (pcode_x (okB1_hd TB))
          (fun _ _ _ _ _ _ => pg_name (i := 3) scClean.nd rfl (Or.inl rfl))
          (te := fun _ => tOp (rIn K false) (tVar 3) (tOp (rIxT K) (tOp (rIxT K) (tOp (rIxT K) (tVar 0) (tC (.int 2))) (tVar 1)) (tC (.int 1))))
          (fun _ _ _ _ _ _ hrG => by exact (pe_cmpR op_in_seq (pv 3) (pe_ix ix_tup (pe_ix ix_tup (pe_ix ix_tup (pv 0) pe_int (fun _ _ => rfl)) (pv 1) (fun _ _ => rfl)) pe_int (fun _ _ => rfl)) (by rfl)))))), ?_⟩
    refine ⟨_, rfl, b, rfl, ⟨_, SqT.of hb⟩, c, TC, rfl, .inl ⟨rfl, rfl⟩, hT, fun cv => ?_⟩
    refine gen_tup (K := K) (a := b) (xs := ns.map V.int) (fun i H' => H' = H ∧ ∀ d ∈ ns.take i, d ∉ kd.bars) ⟨rfl, by simp⟩ (fun i H' _ e => by rw [e.1]; exact SqT.of hb) (fun i x H' Nx hN hx e => ?_) fun H' e => ?_
    · obtain ⟨e1, e2⟩ := e
      subst e1
      obtain ⟨z, hz, rfl⟩ := map_get hx
      refine ⟨rfl, _, rfl, _, rfl, _, _, _, _, rfl, rfl, SqT.of ha, rfl, _, rfl, _, _, _, _, rfl, rfl, SqT.of ha3, atI_of hk0 hxk, _, _, _, _, rfl, rfl, SqT.of hak, rfl, ?_⟩
      refine ⟨a4, _, rfl, .inr (SqT.of ha4), rfl, flat_ints _, inV (.int z) (kd.bars.map V.int), rfl, fun h1 => ?_, fun h1 => hN _ ⟨rfl, fun d hd => ?_⟩⟩
      · rw [inV_ints, decide_eq_true_eq] at h1
        refine ⟨true, rfl, ?_⟩
        have e : cleanD kd.bars ns = false := by
          unfold cleanD
          rw [Bool.not_eq_false', List.any_eq_true]
          exact ⟨z, List.mem_of_getElem? hz, decide_eq_true h1⟩
        rw [e] at q
        exact q
      · rw [inV_ints] at h1
        rw [take_snoc hz] at hd
        rcases List.mem_append.mp hd with m | m
        · exact e2 d m
        · rw [List.mem_singleton.mp m]
          simpa using h1
    · obtain ⟨e1, e2⟩ := e
      subst e1
      rw [List.length_map, List.take_length] at e2
      refine ⟨false, rfl, ?_⟩
      have e : cleanD kd.bars ns = true := by
        unfold cleanD
        rw [Bool.not_eq_true', List.any_eq_false]
        intro d hd
        simpa using e2 d hd
      rw [e] at q
      exact q
/-- has_wants -/
def spHas (PW : Addr) : Sp := fun vs H Q _ => ∃ (x y : V) (k : Int) (W : WorksD) (kd : KindD) (r : List Int), vs = [x, .int k, y] ∧ WorksAt H x W ∧ 0 ≤ k ∧ W.kinds[k.toNat]? = some kd ∧ TI H y r ∧ RouteOk W.vats.length r ∧ TabN H PW ∧
  ∀ H', ExtP PW H H' → TabN H' PW → Q (.bl (hasD W.vats kd.wants r)) H'
def hwScope : Scope := { kind := .function, names := [(".0", .local), ("dye", .cell), ("route", .free), ("works", .free), ("any", .globalImplicit)], isGenerator := true, isCoroutine := false }
theorem TabN.tk {H H' : Hp} {P : Addr} (t : TabN H P) (e : ExtP P H H') : Tk H H' := fun a xs h => by
  obtain ⟨ps, hp, _⟩ := t
  refine e a _ (fun z => ?_) h
  rw [z, hp] at h
  cases h
abbrev tInner (K : PySem.W.Frag) (code : Value) : TE := tGen true (iTup K (tVar 2)) (tcX code fun _ _ => False) (gName 5) (fun _ => tOp (rIn K false) (tVar 4) (tOp (rIxT K) (tOp (rIxT K) (tVar 0) (tC (.int 1))) (tVar 5))) [5]
theorem scHas : FnScope ["works", "kind", "route", "wants", "dye", "vat"] ["works", "kind", "route"] (defScope sHasWants) := ⟨rfl, rfl, rfl, by decide +kernel, rfl, by decide +kernel, by decide +kernel⟩
theorem ok_has {f c PW : Addr} {fd : FuncData} (F : FunC K "has_wants" "has_wants" sHasWants f fd c) (B : Blt mg) (TB : LamX.TabB base mg c PW) : FnOk P w K mg base CX0 7 f fd ["works", "kind", "route"] (spHas PW) := by
  refine F.ok scHas (fun vs H Q E h => ?_) (fun A outer s H vs Q E hr h => ?_)
  · obtain ⟨x, y, k, W, kd, ns, rfl, _⟩ := h
    rfl
  · obtain ⟨x, y, k, W, kd, r, rfl, ⟨a, v2, v3, rfl, ha, ⟨a2, xs2, rfl, ha2, hx2⟩, ⟨a3, xs3, rfl, ha3, hx3⟩⟩, hk0, hk, ⟨b, rfl, hb⟩, hR, hT, q⟩ := h
    obtain ⟨xk, hxk, ak, k1, k2, k3, rfl, hak, ⟨a4, rfl, ha4⟩, hk2, hk3⟩ := hx3.at_ _ _ hk
    refine ⟨_, pss_cons (ps_set (i := 3) scHas.nd rfl (Or.inl rfl) (pe_ix ix_tup (pe_ix ix_tup (pe_ix ix_tup (pv 0) pe_int (fun _ _ => rfl)) (pv 1) (fun _ _ => rfl)) pe_int (fun _ _ => rfl)))
      (pss_one (ps_ret (pe_all (k := 3) (own := [("dye", 4)]) (gt := gName 4) hr (by rfl) B.all boot_all scHas.nd (pi_tup (pv 3)) (blkOk_by (N := ["works", "kind", "route", "wants", "dye", "vat"]) (sc := defScope sHasWants) (by decide +kernel)) (by rfl) (by rfl) TB.bm (pcode_n (c := c) (P := PW) rfl TB.code)
          (fun _ _ _ _ _ _ => pg_name (i := 4) scHas.nd rfl (Or.inr rfl))
          (te := fun code => tInner K code)
          (fun _ _ _ _ _ _ hrG => by exact (pe_any (k := 0) (own := [("vat", 5)]) (gt := gName 5) hrG (by rfl) B.any scHas.nd (pi_tup (pv 2)) (blkOk_by (N := ["works", "kind", "route", "wants", "dye", "vat"]) (sc := hwScope) (by decide +kernel)) (by rfl) (by rfl) TB.bm (pcode_x (okB := fun _ _ => False) (fun _ _ z => z.elim))
            (fun _ _ _ _ _ _ => pg_name (i := 5) scHas.nd rfl (Or.inl rfl))
            (te := fun _ => tOp (rIn K false) (tVar 4) (tOp (rIxT K) (tOp (rIxT K) (tVar 0) (tC (.int 1))) (tVar 5)))
            (fun _ _ _ _ _ _ hrI => by exact (pe_cmpR op_in_seq (pv 4) (pe_ix ix_tup (pe_ix ix_tup (pv 0) pe_int (fun _ _ => rfl)) (pv 5) (fun _ _ => rfl)) (by rfl)))))))), ?_⟩
    refine ⟨_, rfl, _, _, _, _, rfl, rfl, SqT.of ha, rfl, _, rfl, _, _, _, _, rfl, rfl, SqT.of ha3, atI_of hk0 hxk, _, _, _, _, rfl, rfl, SqT.of hak, rfl, ?_⟩
    refine ⟨_, rfl, a4, rfl, ⟨_, SqT.of ha4⟩, hT, fun c' P' H1 e1 hT1 hc1 hP1 => ?_⟩
    have tk := hT.tk e1
    refine gen_tup (K := K) (a := a4) (xs := kd.wants.map V.int) (fun i H' => H' = H1 ∧ ∀ d ∈ kd.wants.take i, (r.any fun v => decide (d ∈ W.vats.getD v.toNat [])) = true) ⟨rfl, by simp⟩ (fun i H' _ e => by rw [e.1]; exact SqT.of (tk _ _ ha4)) (fun i x H' Nx hN hx e => ?_) fun H' e => ?_
    · obtain ⟨e2, e3⟩ := e
      subst e2
      obtain ⟨d, hd, rfl⟩ := map_get hx
      refine ⟨rfl, _, rfl, b, rfl, ⟨_, SqT.of (tk _ _ hb)⟩, c', P', rfl, .inr hc1, hP1, fun cv => ?_⟩
      refine gen_tup (K := K) (a := b) (xs := r.map V.int) (fun j H2 => H2 = H' ∧ ∀ v ∈ r.take j, d ∉ W.vats.getD v.toNat []) ⟨rfl, by simp⟩ (fun i H2 _ e => by rw [e.1]; exact SqT.of (tk _ _ hb)) (fun j x H2 Ny hM hy e => ?_) fun H2 e => ?_
      · obtain ⟨e4, e5⟩ := e
        subst e4
        obtain ⟨v, hv, rfl⟩ := map_get hy
        have hvb := hR.vat v (List.mem_of_getElem? hv)
        have hvl : v.toNat < W.vats.length := by omega
        obtain ⟨e, he, at5, hat, hae⟩ := hx2.at_ v.toNat _ (getD_get hvl)
        refine ⟨rfl, _, rfl, _, rfl, _, _, _, _, rfl, rfl, SqT.of (tk _ _ ha), rfl, _, rfl, _, _, _, _, rfl, rfl, SqT.of (tk _ _ ha2), atI_of hvb.1 he, ?_⟩
        subst hat
        refine ⟨at5, _, rfl, .inr (SqT.of (tk _ _ hae)), rfl, flat_ints _, inV (.int d) ((W.vats.getD v.toNat []).map V.int), rfl, fun h1 => ?_, fun h1 => hM _ ⟨rfl, fun z hz => ?_⟩⟩
        · rw [inV_ints, decide_eq_true_eq] at h1
          refine ⟨true, rfl, (fun z => by cases z), fun _ => hN _ ⟨rfl, fun z hz => ?_⟩⟩
          rw [take_snoc hd] at hz
          rcases List.mem_append.mp hz with m | m
          · exact e3 z m
          · rw [List.mem_singleton.mp m, List.any_eq_true]
            exact ⟨v, List.mem_of_getElem? hv, decide_eq_true h1⟩
        · rw [inV_ints] at h1
          rw [take_snoc hv] at hz
          rcases List.mem_append.mp hz with m | m
          · exact e5 z m
          · rw [List.mem_singleton.mp m]
            simpa using h1
      · obtain ⟨e4, e5⟩ := e
        subst e4
        rw [List.length_map, List.take_length] at e5
        refine ⟨false, rfl, fun _ => ?_, fun z => absurd rfl z⟩
        have e : hasD W.vats kd.wants r = false := by
          unfold hasD
          rw [List.all_eq_false]
          refine ⟨d, List.mem_of_getElem? hd, ?_⟩
          rw [Bool.not_eq_true, List.any_eq_false]
          intro v hv
          simpa using e5 v hv
        have z := q _ e1 hT1
        rw [e] at z
        exact z
    · obtain ⟨e2, e3⟩ := e
      subst e2
      rw [List.length_map, List.take_length] at e3
      have e : hasD W.vats kd.wants r = true := by
        unfold hasD
        rw [List.all_eq_true]
        exact e3
      have z := q _ e1 hT1
      rw [e] at z
      exact z
end
end Dy
set_option Elab.async false
set_option maxRecDepth 100000
set_option maxHeartbeats 4000000
namespace Dy
open PySem PySem.Spec PyProof.Rows L2 GenW RZ
/-- dyed -/
def goodD (W : WorksD) (kd : KindD) (r : List Int) (st : List (List Int)) : Bool := hasD W.vats kd.wants r && cleanD kd.bars (passD r st []).2
def spDyed (PW TC : Addr) : Sp := fun vs H Q _ => ∃ (x y : V) (k n : Int) (W : WorksD) (st : List (List Int)) (kd : KindD) (r : List Int), vs = [x, y, .int k, .int n] ∧ WorksAt H x W ∧ WorksOk W ∧ TT H y st ∧ StandOk W st ∧
  0 ≤ k ∧ W.kinds[k.toNat]? = some kd ∧ 0 ≤ n ∧ kd.routes[n.toNat]? = some r ∧ TabN H PW ∧ H TC = some (TabX TC) ∧
  ∀ (t : Addr) (u : V) (H' : Hp), ExtP PW H H' → TabN H' PW → H' t = some (.tup [u, .bl (goodD W kd r st)]) → TT H' u (passD r st []).1 → Q (.ref t) H'
section
variable {P : Program} {w : World} {K : PySem.W.Frag} {mg : Str → Option Value} {base : Heap}
theorem scDyed : FnScope ["works", "stand", "kind", "number", "route", "later", "carried"] ["works", "stand", "kind", "number"] (defScope sDyed) := ⟨rfl, rfl, rfl, by decide +kernel, rfl, by decide +kernel, by decide +kernel⟩
theorem TabN.neX {H : Hp} {P T : Addr} (t : TabN H P) (x : H T = some (TabX T)) : T ≠ P := fun z => by
  obtain ⟨ps, hp, _⟩ := t
  rw [← z, x] at hp
  exact tabX_ne T ps (Option.some.inj hp)
theorem ok_dyed {f f1 f2 f3 c2 c3 PW TC : Addr} {fd fd1 fd2 fd3 : FuncData} (F : Fun K "dyed" "dyed" sDyed f fd) (D1 : Dn K mg "behind" sBehind ["stand", "route"] f1 fd1) (D2 : Dc K mg "has_wants" sHasWants ["works", "kind", "route"] f2 fd2 c2) (D3 : Dc K mg "is_clean" sIsClean ["works", "kind", "carried"] f3 fd3 c3)
    (G1 : FnOk P w K mg base CX0 2 f1 fd1 ["stand", "route"] spBehind) (G2 : FnOk P w K mg base CX0 7 f2 fd2 ["works", "kind", "route"] (spHas PW)) (G3 : FnOk P w K mg base CX0 4 f3 fd3 ["works", "kind", "carried"] (spClean TC)) :
    FnOk P w K mg base CX0 8 f fd ["works", "stand", "kind", "number"] (spDyed PW TC) := by
  refine F.ok scDyed (fun vs H Q E h => ?_) (fun cdv A outer s H vs Q E hr h => ?_)
  · obtain ⟨x, y, k, n, W, st, kd, r, rfl, _⟩ := h
    rfl
  · obtain ⟨x, y, k, n, W, st, kd, r, rfl, hWA, hW, hTT, hS, hk0, hk, hn0, hn, hT, hC, q⟩ := h
    have hr2 : Room 2 (A.deeper (envOfC "dyed" (defScope sDyed) s.heap.objs.size f cdv)) := hr.mono (by decide)
    have hr4 : Room 4 (A.deeper (envOfC "dyed" (defScope sDyed) s.heap.objs.size f cdv)) := hr.mono (by decide)
    refine ⟨_, pss_cons (ps_set (i := 4) scDyed.nd rfl (Or.inl rfl) (pe_ix ix_tup (pe_ix ix_tup (pe_ix ix_tup (pe_ix ix_tup (pv 0) pe_int (fun _ _ => rfl)) (pv 2) (fun _ _ => rfl)) pe_int (fun _ _ => rfl)) (pv 3) (fun _ _ => rfl)))
      (pss_cons (ps_asg (pe_call G1 hr2 (by rfl) D1.g D1.F.kp D1.b .nil pass0 (pa_cons (pv 1) (pa_cons (pv 4) pa_nil))) (pg_tup (by rfl) (pgs_cons (pg_name (i := 5) scDyed.nd rfl (Or.inl rfl)) (pgs_cons (pg_name (i := 6) scDyed.nd rfl (Or.inl rfl)) pgs_nil))))
      (pss_one (ps_ret (pe_tup (pa_cons (pv 5) (pa_cons (pe_and (pe_call G2 hr (by rfl) D2.g D2.kp D2.b .nil pass0 (pa_cons (pv 0) (pa_cons (pv 2) (pa_cons (pv 4) pa_nil))))
        (pe_one (pe_call G3 hr4 (by rfl) D3.g D3.kp D3.b .nil pass0 (pa_cons (pv 0) (pa_cons (pv 2) (pa_cons (pv 6) pa_nil)))))) pa_nil)))))), ?_⟩
    obtain ⟨a, v2, v3, rfl, ha, hv2, ⟨a3, xs3, rfl, ha3, hx3⟩⟩ := id hWA
    obtain ⟨xk, hxk, ak, k1, k2, k3, rfl, hak, hk1, hk2, ⟨a5, xs5, rfl, ha5, hx5⟩⟩ := hx3.at_ _ _ hk
    obtain ⟨xr, hxr, hti⟩ := hx5.at_ _ _ hn
    obtain ⟨r1, r2, r3⟩ := (hW.kind kd (List.mem_of_getElem? hk)).route r (List.mem_of_getElem? hn)
    refine ⟨_, rfl, _, _, _, _, rfl, rfl, SqT.of ha, rfl, _, rfl, _, _, _, _, rfl, rfl, SqT.of ha3, atI_of hk0 hxk, _, _, _, _, rfl, rfl, SqT.of hak, rfl, _, rfl, _, _, _, _, rfl, rfl, SqT.of ha5, atI_of hn0 hxr, ?_⟩
    refine ⟨_, rfl, _, rfl, y, xr, W, st, r, rfl, hTT, hti, hS, hW.d4, hW.v4, ⟨r1, r2, r3⟩, fun t u v H1 s1 ht hu hv => ?_⟩
    refine ⟨t, _, rfl, SqT.of ht, rfl, u, _, rfl, v, _, rfl, rfl, ?_⟩
    refine ⟨_, rfl, _, rfl, _, rfl, _, rfl, _, _, k, W, kd, r, rfl, hWA.tk (Tk.same s1), hk0, hk, hti.tk (Tk.same s1), ⟨r1, r2, r3⟩, hT.same s1, fun H2 e2 hT2 => ⟨_, rfl, ?_⟩⟩
    have tk2 : Tk H1 H2 := (hT.same s1).tk e2
    have hC2 : H2 TC = some (TabX TC) := e2 _ _ (hT.neX hC) (s1 _ _ hC)
    have e02 : ExtP PW H H2 := (ExtP.of s1).trans e2
    have fin : ∀ (p : Addr) (b : Bool), H2 p = none → b = goodD W kd r st → Q (.ref p) (upd H2 p (.tup [u, .bl b])) := fun p b hp e => by
      subst e
      have s3 := same_upd (o := .tup [u, .bl (goodD W kd r st)]) hp
      exact q p u _ (e02.trans (ExtP.of s3)) (hT2.same s3) upd_same (hu.tk (tk2.trans (Tk.same s3)))
    cases e : hasD W.vats kd.wants r with
    | true =>
      refine iteT ⟨_, rfl, _, rfl, _, rfl, _, _, k, W, kd, _, rfl, hWA.tk ((Tk.same s1).trans tk2), hk0, hk, hv.tk tk2, hC2, ?_⟩
      exact ⟨by show 2 ≤ sizeLine; exact small_line (by omega), fun p hp => fin p _ hp (by unfold goodD; rw [e, Bool.true_and])⟩
    | false =>
      refine iteF ⟨by show 2 ≤ sizeLine; exact small_line (by omega), fun p hp => fin p _ hp (by unfold goodD; rw [e, Bool.false_and])⟩
end
end Dy
set_option Elab.async false
set_option maxRecDepth 100000
set_option maxHeartbeats 4000000
namespace Dy
open PySem PySem.Spec PyProof.Rows L2 GenW RZ
abbrev sBI : Stmt := inClass (top 23) 0
abbrev sBKeep : Stmt := inClass (top 23) 1
abbrev sBDye : Stmt := inClass (top 23) 2
abbrev sBWash : Stmt := inClass (top 23) 3
abbrev sBUndo : Stmt := inClass (top 23) 4
abbrev sBStand : Stmt := inClass (top 23) 5
abbrev sBDeeds : Stmt := inClass (top 23) 6
abbrev sBBad : Stmt := inClass (top 23) 7
/-! ### the fields of a bench -/
theorem putF_le (f : Str) (v : V) : ∀ fs : List (Str × V), (putF f v fs).length ≤ fs.length + 1
  | [] => Nat.le_refl _
  | (g, x) :: r => by
    show (if g = f then (g, v) :: r else (g, x) :: putF f v r).length ≤ _
    by_cases h : g = f
    · rw [if_pos h]; simp
    · rw [if_neg h]
      have := putF_le f v r
      simp only [List.length_cons]
      omega
theorem putF_eq {f : Str} {v : V} : ∀ {fs : List (Str × V)} {y : V}, fs.lookup f = some y → (putF f v fs).length = fs.length
  | [], y, h => by simp at h
  | (g, x) :: r, y, h => by
    show (if g = f then (g, v) :: r else (g, x) :: putF f v r).length = _
    by_cases e : g = f
    · rw [if_pos e]; rfl
    · rw [if_neg e]
      have e2 : (f == g) = false := by simpa using fun z => e z.symm
      rw [List.lookup_cons, e2] at h
      have := putF_eq (v := v) (fs := r) h
      simp only [List.length_cons, this]
structure BF (fs : List (Str × V)) (w n : V) (z : Int) (r o : Addr) : Prop where
  w : List.lookup ("_works" : Str) fs = some w
  n : List.lookup ("_now" : Str) fs = some n
  z : List.lookup ("_wrong" : Str) fs = some (.int z)
  r : List.lookup ("_row" : Str) fs = some (.ref r)
  o : List.lookup ("_olds" : Str) fs = some (.ref o)
  m : ∀ m : Str, m ≠ "_works" → m ≠ "_now" → m ≠ "_wrong" → m ≠ "_row" → m ≠ "_olds" → fs.lookup m = none
  len : fs.length ≤ 5
section
variable {fs : List (Str × V)} {w n n' : V} {z z' : Int} {r o : Addr}
theorem BF.now (h : BF fs w n z r o) : BF (putF "_now" n' fs) w n' z r o := by
  refine ⟨?_, ?_, ?_, ?_, ?_, fun m h1 h2 h3 h4 h5 => ?_, by rw [putF_eq h.n]; exact h.len⟩
  · rw [lookup_putF, if_neg (by decide +kernel)]; exact h.w
  · rw [lookup_putF, if_pos rfl]
  · rw [lookup_putF, if_neg (by decide +kernel)]; exact h.z
  · rw [lookup_putF, if_neg (by decide +kernel)]; exact h.r
  · rw [lookup_putF, if_neg (by decide +kernel)]; exact h.o
  · rw [lookup_putF, if_neg h2]; exact h.m m h1 h2 h3 h4 h5
theorem BF.wrong (h : BF fs w n z r o) : BF (putF "_wrong" (.int z') fs) w n z' r o := by
  refine ⟨?_, ?_, ?_, ?_, ?_, fun m h1 h2 h3 h4 h5 => ?_, by rw [putF_eq h.z]; exact h.len⟩
  · rw [lookup_putF, if_neg (by decide +kernel)]; exact h.w
  · rw [lookup_putF, if_neg (by decide +kernel)]; exact h.n
  · rw [lookup_putF, if_pos rfl]
  · rw [lookup_putF, if_neg (by decide +kernel)]; exact h.r
  · rw [lookup_putF, if_neg (by decide +kernel)]; exact h.o
  · rw [lookup_putF, if_neg h3]; exact h.m m h1 h2 h3 h4 h5
theorem BF.mk0 (w n : V) (z : Int) (r o : Addr) : BF (putF "_olds" (.ref o) (putF "_row" (.ref r) (putF "_wrong" (.int z) (putF "_now" n (putF "_works" w []))))) w n z r o := by
  refine ⟨?_, ?_, ?_, ?_, ?_, fun m h1 h2 h3 h4 h5 => ?_, ?_⟩
  · rw [lookup_putF, if_neg (by decide +kernel), lookup_putF, if_neg (by decide +kernel), lookup_putF, if_neg (by decide +kernel), lookup_putF, if_neg (by decide +kernel), lookup_putF, if_pos rfl]
  · rw [lookup_putF, if_neg (by decide +kernel), lookup_putF, if_neg (by decide +kernel), lookup_putF, if_neg (by decide +kernel), lookup_putF, if_pos rfl]
  · rw [lookup_putF, if_neg (by decide +kernel), lookup_putF, if_neg (by decide +kernel), lookup_putF, if_pos rfl]
  · rw [lookup_putF, if_neg (by decide +kernel), lookup_putF, if_pos rfl]
  · rw [lookup_putF, if_pos rfl]
  · rw [lookup_putF, if_neg h5, lookup_putF, if_neg h4, lookup_putF, if_neg h3, lookup_putF, if_neg h2, lookup_putF, if_neg h1]; rfl
  · have e1 := putF_le "_works" w []
    have e2 := putF_le "_now" n (putF "_works" w [])
    have e3 := putF_le "_wrong" (.int z) (putF "_now" n (putF "_works" w []))
    have e4 := putF_le "_row" (.ref r) (putF "_wrong" (.int z) (putF "_now" n (putF "_works" w [])))
    have e5 := putF_le "_olds" (.ref o) (putF "_row" (.ref r) (putF "_wrong" (.int z) (putF "_now" n (putF "_works" w []))))
    have e0 : ([] : List (Str × V)).length = 0 := rfl
    omega
end
/-- what is put aside at each step -/
def OldAt (H : Hp) (v : V) (q : List (List Int) × Int) : Prop := ∃ a u, v = .ref a ∧ H a = some (.tup [u, .int q.2]) ∧ TT H u q.1
theorem OldAt.tk {H H' : Hp} {v : V} {q : List (List Int) × Int} (h : OldAt H v q) (t : Tk H H') : OldAt H' v q := by
  obtain ⟨a, u, e, x, r⟩ := h
  exact ⟨a, u, e, t a _ x, r.tk t⟩
/-- A BENCH at p, its row at r, its olds at o -/
structure BenchAt (C : Addr) (H : Hp) (p r o : Addr) (W : WorksD) (st : List (List Int)) (z : Int) (ds : List DeedD) (os : List (List (List Int) × Int)) : Prop where
  ob : ∃ dx fs wv nv, H p = some (.ins C dx fs) ∧ BF fs wv nv z r o ∧ WorksAt H wv W ∧ TT H nv st
  row : ∃ xs, H r = some (.lst xs) ∧ AllAt (DeedAt H) xs ds
  olds : ∃ ys, H o = some (.lst ys) ∧ AllAt (OldAt H) ys os
  ne : r ≠ o
theorem BenchAt.prs {C : Addr} {H : Hp} {p r o : Addr} {W : WorksD} {st : List (List Int)} {z : Int} {ds : List DeedD} {os : List (List (List Int) × Int)} (b : BenchAt C H p r o W st z ds os) : p ≠ r ∧ p ≠ o := by
  obtain ⟨⟨dx, fs, wv, nv, h, _⟩, ⟨xs, hr, _⟩, ⟨ys, ho, _⟩, _⟩ := b
  exact ⟨ne_of h hr (by intro z; cases z), ne_of h ho (by intro z; cases z)⟩
theorem BenchAt.tkp {C : Addr} {H H' : Hp} {p r o : Addr} {W : WorksD} {st : List (List Int)} {z : Int} {ds : List DeedD} {os : List (List (List Int) × Int)} (b : BenchAt C H p r o W st z ds os) (e : Ex [p, r, o] H H') : Tk H H' := by
  obtain ⟨⟨dx, fs, wv, nv, h, _⟩, ⟨xs, hr, _⟩, ⟨ys, ho, _⟩, _⟩ := b
  refine e.tk fun a ha xs => ?_
  rcases List.mem_cons.mp ha with q | q
  · rw [q, h]; intro z; cases z
  · rcases List.mem_cons.mp q with q | q
    · rw [q, hr]; intro z; cases z
    · rw [List.mem_singleton.mp q, ho]; intro z; cases z
/-- stays while its three objects stay -/
theorem BenchAt.stay {C : Addr} {H H' : Hp} {p r o : Addr} {W : WorksD} {st : List (List Int)} {z : Int} {ds : List DeedD} {os : List (List (List Int) × Int)} (b : BenchAt C H p r o W st z ds os) (t : Tk H H')
    (e : ∀ a, a = p ∨ a = r ∨ a = o → ∀ u, H a = some u → H' a = some u) : BenchAt C H' p r o W st z ds os := by
  obtain ⟨⟨dx, fs, wv, nv, h, hb, hw, hn⟩, ⟨xs, hr, hx⟩, ⟨ys, ho, hy⟩, ne⟩ := b
  exact ⟨⟨dx, fs, wv, nv, e p (.inl rfl) _ h, hb, hw.tk t, hn.tk t⟩, ⟨xs, e r (.inr (.inl rfl)) _ hr, hx.mono fun _ _ k => k.tk t⟩, ⟨ys, e o (.inr (.inr rfl)) _ ho, hy.mono fun _ _ k => k.tk t⟩, ne⟩
theorem BenchAt.same {C : Addr} {H H' : Hp} {p r o : Addr} {W : WorksD} {st : List (List Int)} {z : Int} {ds : List DeedD} {os : List (List (List Int) × Int)} (b : BenchAt C H p r o W st z ds os) (s : Same H H') : BenchAt C H' p r o W st z ds os :=
  b.stay (Tk.same s) fun a _ u e => s a u e
structure BTxt (K : PySem.W.Frag) (mg : Str → Option Value) (C : Addr) : Prop where
  cl : Cls K C
  nW : NoAttr K C "_works"
  nN : NoAttr K C "_now"
  nZ : NoAttr K C "_wrong"
  nR : NoAttr K C "_row"
  nO : NoAttr K C "_olds"
  g : mg "Bench" = some (.ref C)
/-! ### __init__ -/
def spBI (TL TR TK TN TC CW C : Addr) : Sp := fun vs H Q E => ∃ (p dx : Addr) (x : V), vs = [.ref p, x] ∧ H p = some (.ins C dx []) ∧
  ((∃ W, WorksAt H x W ∧ WorksOk W ∧ Tbs TL TR TK TN TC H ∧ ∀ r o H', H r = none → H o = none → Ex [p] H H' → BenchAt C H' p r o W W.vats 0 [] [] → Q .non H') ∨
    (NoWorks H x ∧ ∀ (d : Addr) (H' : Hp), Same H H' → H' d = some (.xd [("part", .str "works")]) → E (.ref CW) (some d) H'))
section
variable {P : Program} {w : World} {K : PySem.W.Frag} {mg : Str → Option Value} {base : Heap}
theorem scBI : FnScope ["self", "works"] ["self", "works"] (defScope sBI) := ⟨rfl, rfl, rfl, by decide +kernel, rfl, by decide +kernel, by decide +kernel⟩
theorem ok_binit {f f1 c1 TL TR TK TN TC CW C : Addr} {fd fd1 : FuncData} (F : Fun K "__init__" "Bench.__init__" sBI f fd) (T : BTxt K mg C) (D1 : Dc K mg "need_works" sNeedWorks ["value"] f1 fd1 c1) (G1 : FnOk P w K mg base (L2.CX P w) 13 f1 fd1 ["value"] (spNeedW TL TR TK TN TC CW)) :
    FnOk P w K mg base (L2.CX P w) 14 f fd ["self", "works"] (spBI TL TR TK TN TC CW C) := by
  refine F.okX scBI (fun vs H Q E h => ?_) (fun cdv A outer s H vs Q E hr h => ?_)
  · obtain ⟨p, dx, x, rfl, _⟩ := h
    rfl
  · obtain ⟨p, dx, x, rfl, hp, h⟩ := h
    refine ⟨_, pss_cons (ps_expr (pe_callS G1 hr (by rfl) D1.g D1.kp D1.b (fun σ => passAt (W := fun cls d _ H => E cls d H) (takes_of rfl rfl rfl rfl) σ) (pa_cons (pv 1) pa_nil)))
      (pss_cons (ps_fld (pv 0) (pv 1) rfl)
      (pss_cons (ps_fld (pv 0) (pe_ix ix_tup (pv 1) pe_int (fun _ _ => rfl)) rfl)
      (pss_cons (ps_fld (pv 0) pe_int rfl)
      (pss_cons (ps_fld (pv 0) (pe_lst pa_nil) rfl)
      (pss_one (ps_fld (pv 0) (pe_lst pa_nil) rfl)))))), ?_⟩
    rcases h with ⟨W, hWA, hW, hT, q⟩ | ⟨n, q⟩
    · refine ⟨_, rfl, _, rfl, .inl ⟨W, hWA, hW, hT, fun H1 s1 => ?_⟩⟩
      have hW1 := hWA.tk (Tk.same s1)
      obtain ⟨a, v2, v3, rfl, ha, ⟨a2, xs2, rfl, ha2, hx2⟩, hv3⟩ := id hW1
      have hp1 := s1 _ _ hp
      have npa : p ≠ a := ne_of hp1 ha (by intro z; cases z)
      refine ⟨_, rfl, _, rfl, p, C, dx, _, rfl, hp1, T.cl, T.nW, by show 0 < 1000; omega, ?_⟩
      refine ⟨_, rfl, _, _, _, _, rfl, rfl, SqT.of (by rw [upd_ne npa.symm]; exact ha), rfl, _, rfl, p, C, dx, _, rfl, upd_same, T.cl, T.nN, Nat.lt_of_le_of_lt (putF_le _ _ _) (by show 0 + 1 < 1000; omega), ?_⟩
      refine ⟨_, rfl, p, C, dx, _, rfl, upd_same, T.cl, T.nZ, Nat.lt_of_le_of_lt (putF_le _ _ _) (Nat.lt_of_le_of_lt (Nat.succ_le_succ (putF_le _ _ _)) (by show 0 + 1 + 1 < 1000; omega)), ?_⟩
      refine ⟨by show 0 ≤ sizeLine; omega, fun r hr1 => ?_⟩
      have npr : p ≠ r := fun z => by rw [← z, upd_same] at hr1; cases hr1
      have hr0 : H1 r = none := by
        rw [upd_ne npr.symm, upd_ne npr.symm, upd_ne npr.symm] at hr1
        exact hr1
      refine ⟨_, rfl, p, C, dx, _, rfl, (by rw [upd_ne npr, upd_same]), T.cl, T.nR, ?_, by show 0 ≤ sizeLine; omega, fun o ho1 => ?_⟩
      · have b := BF.mk0 (.ref a) (.ref a2) 0 r r
        have e1 := putF_le "_works" (V.ref a) []
        have e2 := putF_le "_now" (V.ref a2) (putF "_works" (V.ref a) [])
        have e3 := putF_le "_wrong" (V.int 0) (putF "_now" (V.ref a2) (putF "_works" (V.ref a) []))
        have e0 : ([] : List (Str × V)).length = 0 := rfl
        show (putF "_wrong" (V.int 0) (putF "_now" (V.ref a2) (putF "_works" (V.ref a) []))).length < 1000
        omega
      have npo : p ≠ o := fun z => by rw [← z, upd_same] at ho1; cases ho1
      rw [upd_ne npo.symm] at ho1
      have nro : r ≠ o := fun z => by rw [← z, upd_same] at ho1; cases ho1
      have ho0 : H1 o = none := by
        rw [upd_ne nro.symm, upd_ne npo.symm, upd_ne npo.symm, upd_ne npo.symm] at ho1
        exact ho1
      refine ⟨_, rfl, p, C, dx, _, rfl, (by rw [upd_ne npo, upd_same]), T.cl, T.nO, ?_, ?_⟩
      · have e1 := putF_le "_works" (V.ref a) []
        have e2 := putF_le "_now" (V.ref a2) (putF "_works" (V.ref a) [])
        have e3 := putF_le "_wrong" (V.int 0) (putF "_now" (V.ref a2) (putF "_works" (V.ref a) []))
        have e4 := putF_le "_row" (V.ref r) (putF "_wrong" (V.int 0) (putF "_now" (V.ref a2) (putF "_works" (V.ref a) [])))
        have e0 : ([] : List (Str × V)).length = 0 := rfl
        show (putF "_row" (V.ref r) (putF "_wrong" (V.int 0) (putF "_now" (V.ref a2) (putF "_works" (V.ref a) [])))).length < 1000
        omega
      generalize hH' : upd _ p (.ins C dx (putF "_olds" (V.ref o) _)) = H'
      have at_ : ∀ b u, b ≠ p → H1 b = some u → H' b = some u := fun b u n e => by
        rw [← hH', upd_ne n, upd_ne (ne_of_none e ho0), upd_ne n, upd_ne (ne_of_none e hr0), upd_ne n, upd_ne n, upd_ne n]
        exact e
      have tk : Tk H1 H' := fun b xs e => at_ b _ (ne_of e hp1 (by intro z; cases z)) e
      refine q r o H' (s1.free hr0) (s1.free ho0) (fun b u n e => at_ b u (fun z => n (by simp [z])) (s1 b u e)) ⟨⟨dx, _, .ref a, .ref a2, ?_, BF.mk0 (.ref a) (.ref a2) 0 r o, hW1.tk tk, ?_⟩, ⟨[], ?_, AllAt.nil⟩, ⟨[], ?_, AllAt.nil⟩, nro⟩
      · rw [← hH', upd_same]
      · exact TT.tk ⟨a2, xs2, rfl, ha2, hx2⟩ tk
      · rw [← hH', upd_ne npr.symm, upd_ne nro, upd_ne npr.symm, upd_same]
      · rw [← hH', upd_ne npo.symm, upd_same]
    · exact ⟨_, rfl, _, rfl, .inr ⟨n, q⟩⟩
end
end Dy
set_option Elab.async false
set_option maxRecDepth 100000
set_option maxHeartbeats 4000000
namespace Dy
open PySem PySem.Spec PyProof.Rows L2 GenW RZ
theorem cutV_whole {xs : List V} {lo hi : Option Int} (h : HT.sIx xs.length 0 lo = 0 ∧ HT.sIx xs.length xs.length hi = xs.length) : cutV xs lo hi = xs := by
  unfold cutV
  rw [h.1, h.2]
  simp
theorem sliceV {K : PySem.W.Frag} {H : Hp} {a : Addr} {xs : List V} {lo hi : Option Int} {Q : VK} (ha : H a = some (.tup xs)) (q : ∀ (c : Addr) (H1 : Hp), Same H H1 → H1 c = some (.tup (cutV xs lo hi)) → Q (.ref c) H1) : rSlA K (.ref a) lo hi H Q :=
  ⟨a, xs, rfl, SqT.of ha, fun h => q a H (Same.refl _) (by rw [cutV_whole h]; exact ha), fun _ p hp => q p _ (same_upd hp) upd_same⟩
theorem cutV_to {xs : List V} {v : Int} (h : 0 ≤ v ∧ v < (xs.length : Int)) : cutV xs none (some v) = xs.take v.toNat := by
  unfold cutV
  have e1 : HT.sIx xs.length 0 none = 0 := rfl
  have e2 : HT.sIx xs.length xs.length (some v) = min v.toNat xs.length := by
    have z := HT.sIx_nat xs.length xs.length v.toNat
    rwa [Int.toNat_of_nonneg h.1] at z
  rw [e1, e2, List.drop_zero, Nat.sub_zero, Nat.min_eq_left (by omega)]
theorem cutV_from {xs : List V} {v : Int} (h : 0 ≤ v ∧ v < (xs.length : Int)) : cutV xs (some (v + 1)) none = xs.drop (v.toNat + 1) := by
  unfold cutV
  have e1 : HT.sIx xs.length 0 (some (v + 1)) = min (v.toNat + 1) xs.length := by
    have z := HT.sIx_nat xs.length 0 (v.toNat + 1)
    rwa [Int.natCast_add, Int.toNat_of_nonneg h.1] at z
  have e2 : HT.sIx xs.length xs.length none = xs.length := rfl
  rw [e1, e2, Nat.min_eq_left (by omega)]
  exact List.take_of_length_le (by rw [List.length_drop]; exact Nat.le_refl _)
def washD (vats st : List (List Int)) (v : Int) : List (List Int) := st.take v.toNat ++ [vats.getD v.toNat []] ++ st.drop (v.toNat + 1)
theorem wash_ok {W : WorksD} {st : List (List Int)} {v : Int} (hW : WorksOk W) (h : StandOk W st) (hv : 0 ≤ v ∧ v < (W.vats.length : Int)) : StandOk W (washD W.vats st v) := by
  have hl := h.len
  refine ⟨?_, fun l hm => ?_⟩
  · unfold washD
    simp only [List.length_append, List.length_take, List.length_drop, List.length_cons, List.length_nil]
    omega
  · unfold washD at hm
    rcases List.mem_append.mp hm with m | m
    · rcases List.mem_append.mp m with m | m
      · exact h.lot l (List.mem_of_mem_take m)
      · rw [List.mem_singleton.mp m]
        exact hW.vat _ (getD_mem (by omega))
    · exact h.lot l (List.mem_of_mem_drop m)
/-- a number that need_number refuses: not in [0, hi] -/
def BadN (hi : Int) (H : Hp) (v : V) : Prop := (∃ i, v = .int i ∧ ¬ (0 ≤ i ∧ i ≤ hi)) ∨ NoInt H v
/-! ### the promises of a bench's methods -/
def spKeep (C : Addr) : Sp := fun vs H Q _ => ∃ (p r o : Addr) (y : V) (W : WorksD) (st : List (List Int)) (z : Int) (ds : List DeedD) (os : List (List (List Int) × Int)) (d : DeedD), vs = [.ref p, y] ∧ BenchAt C H p r o W st z ds os ∧ DeedAt H y d ∧ ds.length ≤ 100 ∧ os.length ≤ 100 ∧
  ∀ H', Ex [r, o] H H' → BenchAt C H' p r o W st z (ds ++ [d]) (os ++ [(st, z)]) → Q .non H'
def spDye (PW TC CN C : Addr) : Sp := fun vs H Q E => ∃ (p r o : Addr) (x y : V) (W : WorksD) (st : List (List Int)) (z : Int) (ds : List DeedD) (os : List (List (List Int) × Int)), vs = [.ref p, x, y] ∧ BenchAt C H p r o W st z ds os ∧ ds.length ≤ 100 ∧ os.length ≤ 100 ∧
  ((∃ (k n : Int) (kd : KindD) (rt : List Int), x = .int k ∧ y = .int n ∧ 0 ≤ k ∧ W.kinds[k.toNat]? = some kd ∧ 0 ≤ n ∧ kd.routes[n.toNat]? = some rt ∧ WorksOk W ∧ StandOk W st ∧ TabN H PW ∧ H TC = some (TabX TC) ∧ PW ∉ [p, r, o] ∧
      ∀ H', Ex [p, r, o, PW] H H' → TabN H' PW → BenchAt C H' p r o W (passD rt st []).1 (z + if goodD W kd rt st = true then 0 else 1) (ds ++ [.dye k n]) (os ++ [(st, z)]) → Q (.bl (goodD W kd rt st)) H') ∨
   ((BadN (W.kinds.length - 1) H x ∨ ∃ (k : Int) (kd : KindD), x = .int k ∧ 0 ≤ k ∧ W.kinds[k.toNat]? = some kd ∧ BadN (kd.routes.length - 1) H y) ∧ E (.ref CN) none H))
def spWash (CN C : Addr) : Sp := fun vs H Q E => ∃ (p r o : Addr) (x : V) (W : WorksD) (st : List (List Int)) (z : Int) (ds : List DeedD) (os : List (List (List Int) × Int)), vs = [.ref p, x] ∧ BenchAt C H p r o W st z ds os ∧ ds.length ≤ 100 ∧ os.length ≤ 100 ∧
  ((∃ v : Int, x = .int v ∧ 0 ≤ v ∧ v < (W.vats.length : Int) ∧ StandOk W st ∧ W.vats.length ≤ 4 ∧ ∀ H', Ex [p, r, o] H H' → BenchAt C H' p r o W (washD W.vats st v) z (ds ++ [.wash v]) (os ++ [(st, z)]) → Q .non H') ∨
   (BadN (W.vats.length - 1) H x ∧ E (.ref CN) none H))
def spUndo (CS C : Addr) : Sp := fun vs H Q E => ∃ (p r o : Addr) (W : WorksD) (st : List (List Int)) (z : Int) (ds : List DeedD) (os : List (List (List Int) × Int)), vs = [.ref p] ∧ BenchAt C H p r o W st z ds os ∧
  ((ds = [] ∧ E (.ref CS) none H) ∨ (∃ (ds' : List DeedD) (d : DeedD) (os' : List (List (List Int) × Int)) (q : List (List Int) × Int), ds = ds' ++ [d] ∧ os = os' ++ [q] ∧ ∀ H', Ex [p, r, o] H H' → BenchAt C H' p r o W q.1 q.2 ds' os' → Q .non H'))
def spStand (C : Addr) : Sp := fun vs H Q _ => ∃ (p r o : Addr) (W : WorksD) (st : List (List Int)) (z : Int) (ds : List DeedD) (os : List (List (List Int) × Int)), vs = [.ref p] ∧ BenchAt C H p r o W st z ds os ∧ ∀ v, TT H v st → Q v H
def spDeeds (C : Addr) : Sp := fun vs H Q _ => ∃ (p r o : Addr) (W : WorksD) (st : List (List Int)) (z : Int) (ds : List DeedD) (os : List (List (List Int) × Int)), vs = [.ref p] ∧ BenchAt C H p r o W st z ds os ∧ ∀ t H', Same H H' → DeedsAt H' t ds → Q t H'
def spBad (C : Addr) : Sp := fun vs H Q _ => ∃ (p r o : Addr) (W : WorksD) (st : List (List Int)) (z : Int) (ds : List DeedD) (os : List (List (List Int) × Int)), vs = [.ref p] ∧ BenchAt C H p r o W st z ds os ∧ Q (.int z) H
section
variable {P : Program} {w : World} {K : PySem.W.Frag} {mg : Str → Option Value} {base : Heap}
theorem scKeep : FnScope ["self", "deed"] ["self", "deed"] (defScope sBKeep) := ⟨rfl, rfl, rfl, by decide +kernel, rfl, by decide +kernel, by decide +kernel⟩
theorem ok_keep {f C : Addr} {fd : FuncData} (F : Fun K "_keep" "Bench._keep" sBKeep f fd) (T : BTxt K mg C) : FnOk P w K mg base CX0 1 f fd ["self", "deed"] (spKeep C) := by
  refine F.ok scKeep (fun vs H Q E h => ?_) (fun cdv A outer s H vs Q E hr h => ?_)
  · obtain ⟨p, r, o, y, W, st, z, ds, os, d, rfl, _⟩ := h
    rfl
  · obtain ⟨p, r, o, y, W, st, z, ds, os, d, rfl, hB, hD, hl1, hl2, q⟩ := h
    refine ⟨_, pss_cons (ps_expr (pe_bm PySem.F.plainAttrs_list PySem.F.slot_list_append PySem.F.type_list_append mt_append (pe_fld (pv 0) rfl) (pa_cons (pe_tup (pa_cons (pe_fld (pv 0) rfl) (pa_cons (pe_fld (pv 0) rfl) pa_nil))) pa_nil)))
      (pss_one (ps_expr (pe_bm PySem.F.plainAttrs_list PySem.F.slot_list_append PySem.F.type_list_append mt_append (pe_fld (pv 0) rfl) (pa_cons (pv 1) pa_nil)))), ?_⟩
    obtain ⟨npr, npo⟩ := hB.prs
    obtain ⟨⟨dx, fs, wv, nv, hp, bf, hw, hn⟩, ⟨xs, hxr, hx⟩, ⟨ys, hyo, hy⟩, nro⟩ := hB
    refine ⟨_, rfl, p, C, dx, fs, _, rfl, hp, T.cl, T.nO, bf.o, .inl ⟨rfl, _, SqL.of hyo⟩, ?_⟩
    refine ⟨_, rfl, p, C, dx, fs, _, rfl, hp, T.cl, T.nN, bf.n, _, rfl, p, C, dx, fs, _, rfl, hp, T.cl, T.nZ, bf.z, by show 2 ≤ sizeLine; exact small_line (by omega), fun t ht => ?_⟩
    have s1 := same_upd (o := .tup [nv, .int z]) ht
    have hyo1 := s1 _ _ hyo
    refine ⟨o, ys, _, rfl, rfl, hyo1, small1000 (by rw [hy.len]; omega), ?_⟩
    have s2 : Ex [r, o] H (upd (upd H t (.tup [nv, .int z])) o (.lst (ys ++ [.ref t]))) := (Ex.same s1).trans (Ex.upd (.inl (by simp)))
    have tk1 : Tk H (upd (upd H t (.tup [nv, .int z])) o (.lst (ys ++ [.ref t]))) := (Tk.same s1).trans (tk_lst hyo1)
    have hp2 := s2 p _ (by simp [npr, npo]) hp
    have hxr2 : (upd (upd H t (.tup [nv, .int z])) o (.lst (ys ++ [.ref t]))) r = some (.lst xs) := by rw [upd_ne nro]; exact s1 _ _ hxr
    refine ⟨_, rfl, p, C, dx, fs, _, rfl, hp2, T.cl, T.nR, bf.r, .inl ⟨rfl, _, SqL.of hxr2⟩, _, rfl, r, xs, _, rfl, rfl, hxr2, small1000 (by rw [hx.len]; omega), ?_⟩
    have tk2 := tk_lst (o := .lst (xs ++ [y])) hxr2
    have tk := tk1.trans tk2
    have tt : (upd (upd (upd H t (.tup [nv, .int z])) o (.lst (ys ++ [.ref t]))) r (.lst (xs ++ [y]))) t = some (.tup [nv, .int z]) := tk2 _ _ (tk_lst hyo1 _ _ upd_same)
    refine q _ (s2.trans (Ex.upd (.inl (by simp)))) ⟨⟨dx, fs, wv, nv, by rw [upd_ne npr]; exact hp2, bf, hw.tk tk, hn.tk tk⟩, ⟨xs ++ [y], upd_same, (hx.mono fun _ _ k => k.tk tk).snoc (hD.tk tk)⟩, ⟨ys ++ [.ref t], by rw [upd_ne nro.symm, upd_same], (hy.mono fun _ _ k => k.tk tk).snoc ⟨t, nv, rfl, tt, hn.tk tk⟩⟩, nro⟩
end
end Dy
set_option Elab.async false
set_option maxRecDepth 100000
set_option maxHeartbeats 4000000
namespace Dy
open PySem PySem.Spec PyProof.Rows L2 GenW RZ
section
variable {P : Program} {w : World} {K : PySem.W.Frag} {mg : Str → Option Value} {base : Heap}
theorem take_get {α : Type} {l : List α} {i : Nat} (h : i < l.length) : ∃ x, l[i]? = some x := ⟨l[i], List.getElem?_eq_getElem h⟩
theorem scDye : FnScope ["self", "kind", "route", "kinds", "later", "good"] ["self", "kind", "route"] (defScope sBDye) := ⟨rfl, rfl, rfl, by decide +kernel, rfl, by decide +kernel, by decide +kernel⟩
theorem ok_dye {f f1 f2 f3 PW TC CN C : Addr} {fd fd1 fd2 fd3 : FuncData} (F : Fun K "dye" "Bench.dye" sBDye f fd) (B : Blt mg) (T : BTxt K mg C) (D1 : Dn K mg "need_number" sNeedNum ["value", "low", "high"] f1 fd1) (D2 : Dn K mg "dyed" sDyed ["works", "stand", "kind", "number"] f2 fd2)
    (M3 : Meth K C "_keep" f3) (b3 : Binds K fd3 ["self", "deed"] []) (G1 : FnOk P w K mg base (L2.CX P w) 2 f1 fd1 ["value", "low", "high"] (spNeed CN)) (G2 : FnOk P w K mg base CX0 8 f2 fd2 ["works", "stand", "kind", "number"] (spDyed PW TC)) (G3 : FnOk P w K mg base CX0 1 f3 fd3 ["self", "deed"] (spKeep C)) :
    FnOk P w K mg base (L2.CX P w) 9 f fd ["self", "kind", "route"] (spDye PW TC CN C) := by
  refine F.okX scDye (fun vs H Q E h => ?_) (fun cdv A outer s H vs Q E hr h => ?_)
  · obtain ⟨p, r, o, x, y, W, st, z, ds, os, rfl, _⟩ := h
    rfl
  · obtain ⟨p, r, o, x, y, W, st, z, ds, os, rfl, hB, hl1, hl2, h⟩ := h
    have hr1 : Room 1 (A.deeper (envOfC "Bench.dye" (defScope sBDye) s.heap.objs.size f cdv)) := hr.mono (by decide)
    have hr2 : Room 2 (A.deeper (envOfC "Bench.dye" (defScope sBDye) s.heap.objs.size f cdv)) := hr.mono (by decide)
    refine ⟨_, pss_cons (ps_set (i := 3) scDye.nd rfl (Or.inl rfl) (pe_ix ix_tup (pe_fld (pv 0) rfl) pe_int (fun _ _ => rfl)))
      (pss_cons (ps_expr (pe_callS G1 hr2 (by rfl) D1.g D1.F.kp D1.b (fun σ => passAt (W := fun cls d _ H => E cls d H) (takes_of rfl rfl rfl rfl) σ) (pa_cons (pv 1) (pa_cons pe_int (pa_cons (pe_op op_sub (pe_callB call_len_seq (by rfl) B.len PySem.boot_len (pa_cons (pv 3) pa_nil)) pe_int) pa_nil)))))
      (pss_cons (ps_expr (pe_callS G1 hr2 (by rfl) D1.g D1.F.kp D1.b (fun σ => passAt (W := fun cls d _ H => E cls d H) (takes_of rfl rfl rfl rfl) σ) (pa_cons (pv 2) (pa_cons pe_int (pa_cons (pe_op op_sub (pe_callB call_len_seq (by rfl) B.len PySem.boot_len
          (pa_cons (pe_ix ix_tup (pe_ix ix_tup (pv 3) (pv 1) (fun _ _ => rfl)) pe_int (fun _ _ => rfl)) pa_nil)) pe_int) pa_nil)))))
      (pss_cons (ps_asg (pe_call G2 hr (by rfl) D2.g D2.F.kp D2.b .nil pass0 (pa_cons (pe_fld (pv 0) rfl) (pa_cons (pe_fld (pv 0) rfl) (pa_cons (pv 1) (pa_cons (pv 2) pa_nil))))) (pg_tup (by rfl) (pgs_cons (pg_name (i := 4) scDye.nd rfl (Or.inl rfl)) (pgs_cons (pg_name (i := 5) scDye.nd rfl (Or.inl rfl)) pgs_nil))))
      (pss_cons (ps_expr (pe_meth (pv 0) T.cl M3 G3 hr1 b3 .nil pass0 (pa_cons (pe_tup (pa_cons pe_str (pa_cons (pv 1) (pa_cons (pv 2) pa_nil)))) pa_nil)))
      (pss_cons (ps_fld (pv 0) (pv 4) rfl)
      (pss_cons (ps_fldaug (pv 0) (pe_ifExp (pt_val (pv 5)) pe_int pe_int) in_add)
      (pss_one (ps_ret (pv 5))))))))), ?_⟩
    obtain ⟨npr, npo⟩ := hB.prs
    obtain ⟨⟨dx, fs, wv, nv, hp, bf, hw, hn⟩, ⟨xs, hxr, hx⟩, ⟨ys, hyo, hy⟩, nro⟩ := id hB
    obtain ⟨a, v2, v3, rfl, ha, hv2, ⟨a3, xs3, rfl, ha3, hx3⟩⟩ := id hw
    refine ⟨_, rfl, p, C, dx, fs, _, rfl, hp, T.cl, T.nW, bf.w, _, _, _, _, rfl, rfl, SqT.of ha, rfl, ?_⟩
    have hi3 : (W.kinds.length : Int) - 1 = (xs3.length : Int) - 1 := by rw [hx3.len]
    refine ⟨_, rfl, _, rfl, _, _, rfl, .inr (SqT.of ha3), _, _, rfl, rfl, x, 0, (xs3.length : Int) - 1, rfl, ?_⟩
    rcases h with ⟨k, n, kd, rt, rfl, rfl, hk0, hk, hn0, hnr, hW, hS, hT, hC, hPW, q⟩ | ⟨hbad, q⟩
    · have hkl : k.toNat < W.kinds.length := (List.getElem?_eq_some_iff.mp hk).1
      have hnl : n.toNat < kd.routes.length := (List.getElem?_eq_some_iff.mp hnr).1
      obtain ⟨xk, hxk, ak, k1, k2, k3, rfl, hak, hk1, hk2, ⟨a5, xs5, rfl, ha5, hx5⟩⟩ := hx3.at_ _ _ hk
      refine .inl ⟨k, rfl, hk0, by rw [← hi3]; omega, ?_⟩
      refine ⟨_, rfl, _, rfl, _, rfl, _, _, _, _, rfl, rfl, SqT.of ha3, atI_of hk0 hxk, _, _, _, _, rfl, rfl, SqT.of hak, rfl, _, _, rfl, .inr (SqT.of ha5), _, _, rfl, rfl, .int n, 0, (xs5.length : Int) - 1, rfl, ?_⟩
      refine .inl ⟨n, rfl, hn0, by rw [hx5.len]; omega, ?_⟩
      refine ⟨_, rfl, p, C, dx, fs, _, rfl, hp, T.cl, T.nW, bf.w, _, rfl, p, C, dx, fs, _, rfl, hp, T.cl, T.nN, bf.n, _, rfl, _, rfl, _, _, k, n, W, st, kd, rt, rfl, hw, hW, hn, hS, hk0, hk, hn0, hnr, hT, hC, fun t u H1 e1 hT1 ht hu => ?_⟩
      have nPp : p ≠ PW := fun z => hPW (by simp [z])
      have nPr : r ≠ PW := fun z => hPW (by simp [z])
      have nPo : o ≠ PW := fun z => hPW (by simp [z])
      have tk1 := hT.tk e1
      have hB1 : BenchAt C H1 p r o W st z ds os := hB.stay tk1 fun b hb u e => e1 b u (by rcases hb with q | q | q <;> rw [q] <;> assumption) e
      refine ⟨t, _, rfl, SqT.of ht, rfl, _, _, rfl, _, _, rfl, rfl, ?_⟩
      obtain ⟨⟨dx1, fs1, wv1, nv1, hp1, bf1, hw1, hn1⟩, _, _, _⟩ := id hB1
      refine ⟨_, rfl, p, dx1, fs1, rfl, hp1, bf1.m _ (by decide +kernel) (by decide +kernel) (by decide +kernel) (by decide +kernel) (by decide +kernel), _, rfl, _, rfl, by show 3 ≤ sizeLine; exact small_line (by omega), fun d hd => ?_⟩
      have s2 := same_upd (o := .tup [.str "dye", .int k, .int n]) hd
      refine ⟨p, r, o, _, W, st, z, ds, os, .dye k n, rfl, hB1.same s2, ⟨d, rfl, upd_same⟩, hl1, hl2, fun H2 e2 hB2 => ?_⟩
      have e02 : Ex [p, r, o, PW] H H2 := ((Ex.extP e1).mono (by simp)).trans ((Ex.same s2).trans (e2.mono (by simp)))
      obtain ⟨⟨dx2, fs2, wv2, nv2, hp2, bf2, hw2, hn2⟩, ⟨xs2, hxr2, hxx2⟩, ⟨ys2, hyo2, hyy2⟩, _⟩ := id hB2
      refine ⟨_, rfl, _, rfl, p, C, dx2, fs2, rfl, hp2, T.cl, T.nN, Nat.lt_of_le_of_lt bf2.len (by omega), ?_⟩
      have bf3 : BF (putF "_now" u fs2) wv2 u z r o := bf2.now
      refine ⟨_, rfl, p, C, dx2, _, .int z, rfl, upd_same, T.cl, T.nZ, bf3.z, _, rfl, _, rfl, ?_⟩
      have hT2 : TabN H2 PW := by
        have z1 := hT1.same s2
        obtain ⟨ps, h1, h2, h3⟩ := z1
        have keep : ∀ b u, (∀ ys, u ≠ .lst ys) → (upd H1 d (.tup [.str "dye", .int k, .int n])) b = some u → H2 b = some u := fun b u nl e => e2 b u (by
          obtain ⟨⟨_, _, _, _, _, _, _, _⟩, ⟨xsa, hra, _⟩, ⟨ysa, hoa, _⟩, _⟩ := hB1.same s2
          intro m
          rcases List.mem_cons.mp m with m | m
          · rw [m, hra] at e; exact nl _ (Option.some.inj e).symm
          · rw [List.mem_singleton.mp m, hoa] at e; exact nl _ (Option.some.inj e).symm) e
        refine ⟨ps, keep _ _ (fun ys z => by cases z) h1, h2, fun pos cv hc => ?_⟩
        obtain ⟨c', P', g1, g2, g3⟩ := h3 pos cv hc
        exact ⟨c', P', g1, keep _ _ (fun ys z => by unfold CodeX at z; cases z) g2, keep _ _ (fun ys z => by unfold TabX at z; cases z) g3⟩
      have tk2 : Tk H1 H2 := (Tk.same s2).trans (e2.tk fun b hb ys z => by
        obtain ⟨⟨_, _, _, _, _, _, _, _⟩, ⟨xsa, hra, _⟩, ⟨ysa, hoa, _⟩, _⟩ := hB1.same s2
        rcases List.mem_cons.mp hb with m | m
        · rw [m, hra] at z; cases z
        · rw [List.mem_singleton.mp m, hoa] at z; cases z)
      have fin : ∀ (i : Int), i = (if goodD W kd rt st = true then (0 : Int) else 1) → ∀ H4, H4 = upd (upd H2 p (.ins C dx2 (putF "_now" u fs2))) p (.ins C dx2 (putF "_wrong" (.int (z + i)) (putF "_now" u fs2))) → Q (.bl (goodD W kd rt st)) H4 := fun i ei H4 eH => by
        have tk4 : Tk H2 H4 := by
          rw [eH]
          exact (tk_upd fun ys e => by rw [hp2] at e; cases e).trans (tk_upd fun ys e => by rw [upd_same] at e; cases e)
        have at4 : ∀ b, b ≠ p → H4 b = H2 b := fun b n => by rw [eH, upd_ne n, upd_ne n]
        have npd : PW ≠ p := fun z => nPp z.symm
        refine q H4 (e02.trans fun b v nb e => by rw [at4 b (fun z => nb (by simp [z]))]; exact e) ?_ ?_
        · obtain ⟨ps, h1, h2, h3⟩ := hT2
          refine ⟨ps, by rw [at4 _ npd]; exact h1, h2, fun pos cv hc => ?_⟩
          obtain ⟨c', P', g1, g2, g3⟩ := h3 pos cv hc
          have n1 : c' ≠ p := fun z => by rw [z, hp2] at g2; unfold CodeX at g2; cases g2
          have n2 : P' ≠ p := fun z => by rw [z, hp2] at g3; unfold TabX at g3; cases g3
          exact ⟨c', P', g1, by rw [at4 _ n1]; exact g2, by rw [at4 _ n2]; exact g3⟩
        · rw [← ei]
          exact ⟨⟨dx2, _, wv2, u, by rw [eH, upd_same], bf3.wrong, hw2.tk tk4, (hu.tk tk2).tk tk4⟩, ⟨xs2, by rw [at4 _ npr.symm]; exact hxr2, hxx2.mono fun _ _ k => k.tk tk4⟩, ⟨ys2, by rw [at4 _ npo.symm]; exact hyo2, hyy2.mono fun _ _ k => k.tk tk4⟩, nro⟩
      cases eg : goodD W kd rt st with
      | true =>
        refine iteT ⟨z, 0, rfl, rfl, dx2, _, upd_same, Nat.lt_of_le_of_lt bf3.len (by omega), _, rfl, ?_⟩
        have z0 := fin 0 (by rw [eg]; rfl) _ rfl
        rw [eg] at z0
        exact z0
      | false =>
        refine iteF ⟨z, 1, rfl, rfl, dx2, _, upd_same, Nat.lt_of_le_of_lt bf3.len (by omega), _, rfl, ?_⟩
        have z0 := fin 1 (by rw [eg]; rfl) _ rfl
        rw [eg] at z0
        exact z0
    · rcases hbad with hb | ⟨k, kd, rfl, hk0, hk, hb⟩
      · refine .inr ⟨?_, q⟩
        rw [← hi3]
        exact hb
      · have hkl : k.toNat < W.kinds.length := (List.getElem?_eq_some_iff.mp hk).1
        obtain ⟨xk, hxk, ak, k1, k2, k3, rfl, hak, hk1, hk2, ⟨a5, xs5, rfl, ha5, hx5⟩⟩ := hx3.at_ _ _ hk
        refine .inl ⟨k, rfl, hk0, by rw [← hi3]; omega, ?_⟩
        refine ⟨_, rfl, _, rfl, _, rfl, _, _, _, _, rfl, rfl, SqT.of ha3, atI_of hk0 hxk, _, _, _, _, rfl, rfl, SqT.of hak, rfl, _, _, rfl, .inr (SqT.of ha5), _, _, rfl, rfl, y, 0, (xs5.length : Int) - 1, rfl, .inr ⟨?_, q⟩⟩
        rw [hx5.len]
        exact hb
end
end Dy
set_option Elab.async false
set_option maxRecDepth 100000
set_option maxHeartbeats 4000000
namespace Dy
open PySem PySem.Spec PyProof.Rows L2 GenW RZ
section
variable {P : Program} {w : World} {K : PySem.W.Frag} {mg : Str → Option Value} {base : Heap}
theorem scWash : FnScope ["self", "vat", "vats"] ["self", "vat"] (defScope sBWash) := ⟨rfl, rfl, rfl, by decide +kernel, rfl, by decide +kernel, by decide +kernel⟩
theorem ok_wash {f f1 f3 CN C : Addr} {fd fd1 fd3 : FuncData} (F : Fun K "wash" "Bench.wash" sBWash f fd) (B : Blt mg) (T : BTxt K mg C) (D1 : Dn K mg "need_number" sNeedNum ["value", "low", "high"] f1 fd1)
    (M3 : Meth K C "_keep" f3) (b3 : Binds K fd3 ["self", "deed"] []) (G1 : FnOk P w K mg base (L2.CX P w) 2 f1 fd1 ["value", "low", "high"] (spNeed CN)) (G3 : FnOk P w K mg base CX0 1 f3 fd3 ["self", "deed"] (spKeep C)) :
    FnOk P w K mg base (L2.CX P w) 3 f fd ["self", "vat"] (spWash CN C) := by
  refine F.okX scWash (fun vs H Q E h => ?_) (fun cdv A outer s H vs Q E hr h => ?_)
  · obtain ⟨p, r, o, x, W, st, z, ds, os, rfl, _⟩ := h
    rfl
  · obtain ⟨p, r, o, x, W, st, z, ds, os, rfl, hB, hl1, hl2, h⟩ := h
    have hr1 : Room 1 (A.deeper (envOfC "Bench.wash" (defScope sBWash) s.heap.objs.size f cdv)) := hr.mono (by decide)
    refine ⟨_, pss_cons (ps_set (i := 2) scWash.nd rfl (Or.inl rfl) (pe_ix ix_tup (pe_fld (pv 0) rfl) pe_int (fun _ _ => rfl)))
      (pss_cons (ps_expr (pe_callS G1 hr (by rfl) D1.g D1.F.kp D1.b (fun σ => passAt (W := fun cls d _ H => E cls d H) (takes_of rfl rfl rfl rfl) σ) (pa_cons (pv 1) (pa_cons pe_int (pa_cons (pe_op op_sub (pe_callB call_len_seq (by rfl) B.len PySem.boot_len (pa_cons (pv 2) pa_nil)) pe_int) pa_nil)))))
      (pss_cons (ps_expr (pe_meth (pv 0) T.cl M3 G3 hr1 b3 .nil pass0 (pa_cons (pe_tup (pa_cons pe_str (pa_cons (pv 1) pa_nil))) pa_nil)))
      (pss_one (ps_fld (pv 0) (pe_op op_catA (pe_op op_catA (pe_slice sl_tupA (pe_fld (pv 0) rfl) po_none (po_some (pv 1))) (pe_tup (pa_cons (pe_ix ix_tup (pv 2) (pv 1) (fun _ _ => rfl)) pa_nil))) (pe_slice sl_tupA (pe_fld (pv 0) rfl) (po_some (pe_op op_add (pv 1) pe_int)) po_none)) rfl)))), ?_⟩
    obtain ⟨npr, npo⟩ := hB.prs
    obtain ⟨⟨dx, fs, wv, nv, hp, bf, hw, hn⟩, ⟨xs, hxr, hx⟩, ⟨ys, hyo, hy⟩, nro⟩ := id hB
    obtain ⟨a, v2, v3, rfl, ha, ⟨a2, xs2, rfl, ha2, hx2⟩, hv3⟩ := id hw
    refine ⟨_, rfl, p, C, dx, fs, _, rfl, hp, T.cl, T.nW, bf.w, _, _, _, _, rfl, rfl, SqT.of ha, rfl, ?_⟩
    have hi2 : (W.vats.length : Int) - 1 = (xs2.length : Int) - 1 := by rw [hx2.len]
    refine ⟨_, rfl, _, rfl, _, _, rfl, .inr (SqT.of ha2), _, _, rfl, rfl, x, 0, (xs2.length : Int) - 1, rfl, ?_⟩
    rcases h with ⟨v, rfl, hv0, hv, hS, hv4, q⟩ | ⟨hb, q⟩
    · refine .inl ⟨v, rfl, hv0, by rw [← hi2]; omega, ?_⟩
      refine ⟨_, rfl, p, dx, fs, rfl, hp, bf.m _ (by decide +kernel) (by decide +kernel) (by decide +kernel) (by decide +kernel) (by decide +kernel), _, rfl, by show 2 ≤ sizeLine; exact small_line (by omega), fun d hd => ?_⟩
      have s1 := same_upd (o := .tup [.str "wash", .int v]) hd
      refine ⟨p, r, o, _, W, st, z, ds, os, .wash v, rfl, hB.same s1, ⟨d, rfl, upd_same⟩, hl1, hl2, fun H2 e2 hB2 => ?_⟩
      have e02 : Ex [p, r, o] H H2 := (Ex.same s1).trans (e2.mono (by simp))
      have tk02 : Tk H H2 := hB.tkp e02
      obtain ⟨⟨dx2, fs2, wv2, nv2, hp2, bf2, hw2, ⟨b2, zs2, rfl, hb2, hz2⟩⟩, ⟨xsr, hxr2, hxx2⟩, ⟨ysr, hyo2, hyy2⟩, _⟩ := id hB2
      have hlen : zs2.length = W.vats.length := by rw [hz2.len, hS.len]
      -- self._now[:vat]
      refine ⟨_, rfl, p, C, dx2, fs2, _, rfl, hp2, T.cl, T.nN, bf2.n, _, rfl, v, rfl, sliceV hb2 fun c1 H3 s3 hc1 => ?_⟩
      rw [cutV_to (by rw [hlen]; exact ⟨hv0, hv⟩)] at hc1
      obtain ⟨e, he, hte⟩ := hx2.at_ v.toNat _ (getD_get (by omega : v.toNat < W.vats.length))
      have ha23 := s3 _ _ (tk02 _ _ ha2)
      refine ⟨_, rfl, _, rfl, _, _, _, _, rfl, rfl, SqT.of ha23, atI_of hv0 he, by show 1 ≤ sizeLine; exact small_line (by omega), fun c2 hc2 => ?_⟩
      have s4 := same_upd (o := .tup [e]) hc2
      refine catV (s4 _ _ hc1) upd_same (by simp only [List.length_take, List.length_cons, List.length_nil]; exact small_line (by omega)) fun c3 H5 s5 hc3 => ?_
      have s35 := (s3.trans s4).trans s5
      refine ⟨_, rfl, p, C, dx2, fs2, _, rfl, s35 _ _ hp2, T.cl, T.nN, bf2.n, _, rfl, _, _, rfl, rfl, _, rfl, ?_⟩
      delta tNoPart
      refine sliceV (s35 _ _ hb2) fun c6 H6 s6 hc6 => ?_
      rw [cutV_from (by rw [hlen]; exact ⟨hv0, hv⟩)] at hc6
      refine catV (s6 _ _ hc3) hc6 (by simp only [List.length_append, List.length_take, List.length_drop, List.length_cons, List.length_nil]; exact small_line (by omega)) fun c7 H7 s7 hc7 => ?_
      have s27 := (s35.trans s6).trans s7
      have hp7 := s27 _ _ hp2
      refine ⟨_, rfl, p, C, dx2, fs2, rfl, hp7, T.cl, T.nN, Nat.lt_of_le_of_lt bf2.len (by omega), ?_⟩
      have tk8 : Tk H7 (upd H7 p (.ins C dx2 (putF "_now" (.ref c7) fs2))) := tk_upd fun ys e => by rw [hp7] at e; cases e
      have tk28 : Tk H2 (upd H7 p (.ins C dx2 (putF "_now" (.ref c7) fs2))) := (Tk.same s27).trans tk8
      refine q _ ((e02.trans (Ex.same s27)).trans (Ex.upd (.inl (by simp)))) ⟨⟨dx2, _, wv2, .ref c7, upd_same, bf2.now, hw2.tk tk28, ⟨c7, _, rfl, tk8 _ _ hc7, ?_⟩⟩, ⟨xsr, by rw [upd_ne npr.symm]; exact s27 _ _ hxr2, hxx2.mono fun _ _ k => k.tk tk28⟩, ⟨ysr, by rw [upd_ne npo.symm]; exact s27 _ _ hyo2, hyy2.mono fun _ _ k => k.tk tk28⟩, nro⟩
      have hz8 := hz2.mono (R' := TI (upd H7 p (.ins C dx2 (putF "_now" (.ref c7) fs2)))) fun _ _ k => k.tk tk28
      have ht8 : TI (upd H7 p (.ins C dx2 (putF "_now" (.ref c7) fs2))) e (W.vats.getD v.toNat []) := (hte.tk tk02).tk tk28
      exact ((hz8.take v.toNat).snoc ht8).append (hz8.drop (v.toNat + 1))
    · refine .inr ⟨?_, q⟩
      rw [← hi2]
      exact hb
theorem scUndo : FnScope ["self"] ["self"] (defScope sBUndo) := ⟨rfl, rfl, rfl, by decide +kernel, rfl, by decide +kernel, by decide +kernel⟩
theorem last_of {α : Type} {R : V → α → Prop} {xs : List V} {as : List α} {a : α} (h : AllAt R xs (as ++ [a])) : ∃ x, xs[xs.length - 1]? = some x ∧ R x a ∧ AllAt R xs.dropLast as := by
  obtain ⟨x, h1, h2⟩ := h.at_ as.length a (by simp)
  have hl : xs.length = as.length + 1 := by rw [h.len]; simp
  refine ⟨x, by rw [hl]; exact h1, h2, ?_⟩
  have z := h.take as.length
  rw [List.take_left'] at z
  · rw [List.dropLast_eq_take, hl]
    exact z
  · rfl
theorem ok_undo {f CS C : Addr} {fd : FuncData} (F : Fun K "undo" "Bench.undo" sBUndo f fd) (T : BTxt K mg C) (O : Own K mg "BadStep" CS) : FnOk P w K mg base (L2.CX P w) 1 f fd ["self"] (spUndo CS C) := by
  refine F.okX scUndo (fun vs H Q E h => ?_) (fun cdv A outer s H vs Q E hr h => ?_)
  · obtain ⟨p, r, o, W, st, z, ds, os, rfl, _⟩ := h
    rfl
  · obtain ⟨p, r, o, W, st, z, ds, os, rfl, hB, h⟩ := h
    refine ⟨_, pss_cons (ps_if (pt_not (pt_truth (pe_fld (pv 0) rfl) (by intro _; rfl))) (pss_one (ps_raise rfl (takes_of rfl rfl rfl rfl) (pmk_own0 PySem.F.excBase_ValueError O.ex O.g O.kp (raises_own O.b O.t) (by rfl)))) pss_nil)
      (pss_cons (ps_expr (pe_bm0 PySem.F.plainAttrs_list PySem.F.slot_list_pop PySem.F.type_list_pop mt_pop (pe_fld (pv 0) rfl)))
      (pss_one (ps_asg (pe_bm0 PySem.F.plainAttrs_list PySem.F.slot_list_pop PySem.F.type_list_pop mt_pop (pe_fld (pv 0) rfl)) (pg_tup (by rfl) (pgs_cons (pg_fld (pv 0)) (pgs_cons (pg_fld (pv 0)) pgs_nil)))))), ?_⟩
    obtain ⟨npr, npo⟩ := hB.prs
    obtain ⟨⟨dx, fs, wv, nv, hp, bf, hw, hn⟩, ⟨xs, hxr, hx⟩, ⟨ys, hyo, hy⟩, nro⟩ := id hB
    refine ⟨_, rfl, p, C, dx, fs, _, rfl, hp, T.cl, T.nR, bf.r, !xs.isEmpty, .inl ⟨xs, SqL.of hxr, rfl⟩, ?_⟩
    rcases h with ⟨rfl, q⟩ | ⟨ds', d, os', qo, rfl, rfl, q⟩
    · have e : xs = [] := List.length_eq_zero_iff.mp hx.len
      subst e
      exact iteT q
    · obtain ⟨x, hx1, hx2, hx3⟩ := last_of hx
      obtain ⟨y, hy1, ⟨ao, u, rfl, hao, hu⟩, hy3⟩ := last_of hy
      have ne : xs.isEmpty = false := by
        cases xs with
        | nil => simp at hx1
        | cons _ _ => rfl
      rw [ne]
      refine iteF ⟨_, rfl, p, C, dx, fs, _, rfl, hp, T.cl, T.nR, bf.r, .inl ⟨rfl, _, SqL.of hxr⟩, r, xs, x, rfl, rfl, hxr, hx1, ?_⟩
      have tk1 := tk_lst (o := .lst xs.dropLast) hxr
      have hp1 : (upd H r (.lst xs.dropLast)) p = some (.ins C dx fs) := by rw [upd_ne npr]; exact hp
      have hyo1 : (upd H r (.lst xs.dropLast)) o = some (.lst ys) := by rw [upd_ne nro.symm]; exact hyo
      refine ⟨_, rfl, p, C, dx, fs, _, rfl, hp1, T.cl, T.nO, bf.o, .inl ⟨rfl, _, SqL.of hyo1⟩, o, ys, .ref ao, rfl, rfl, hyo1, hy1, ?_⟩
      have tk2 := tk1.trans (tk_lst (o := .lst ys.dropLast) hyo1)
      have hp2 : (upd (upd H r (.lst xs.dropLast)) o (.lst ys.dropLast)) p = some (.ins C dx fs) := by rw [upd_ne npo]; exact hp1
      refine ⟨ao, _, rfl, SqT.of (tk2 _ _ hao), rfl, u, _, rfl, _, rfl, p, C, dx, fs, rfl, hp2, T.cl, T.nN, Nat.lt_of_le_of_lt bf.len (by omega), ?_⟩
      have bf2 : BF (putF "_now" u fs) wv u z r o := bf.now
      refine ⟨_, _, rfl, _, rfl, p, C, dx, _, rfl, upd_same, T.cl, T.nZ, Nat.lt_of_le_of_lt bf2.len (by omega), rfl, ?_⟩
      generalize hH' : upd _ p (.ins C dx (putF "_wrong" _ (putF "_now" u fs))) = H'
      have at_ : ∀ b, b ≠ p → H' b = (upd (upd H r (.lst xs.dropLast)) o (.lst ys.dropLast)) b := fun b n => by rw [← hH', upd_ne n, upd_ne n]
      have tk : Tk H H' := fun b zs e => by
        rw [at_ b (ne_of e hp (by intro z; cases z))]
        exact tk2 b zs e
      refine q H' (fun b v nb e => ?_) ⟨⟨dx, _, wv, u, by rw [← hH', upd_same], bf2.wrong, hw.tk tk, hu.tk tk⟩, ⟨xs.dropLast, by rw [at_ _ npr.symm, upd_ne nro, upd_same], hx3.mono fun _ _ k => k.tk tk⟩, ⟨ys.dropLast, by rw [at_ _ npo.symm, upd_same], hy3.mono fun _ _ k => k.tk tk⟩, nro⟩
      have n1 : b ≠ p := fun z => nb (by simp [z])
      have n2 : b ≠ r := fun z => nb (by simp [z])
      have n3 : b ≠ o := fun z => nb (by simp [z])
      rw [at_ b n1, upd_ne n3, upd_ne n2]
      exact e
theorem scOne (st : Stmt) (h : defScope st = { kind := .function, names := [("self", .local)], isGenerator := false, isCoroutine := false }) : FnScope ["self"] ["self"] (defScope st) := by
  rw [h]
  exact ⟨rfl, rfl, rfl, by decide +kernel, rfl, by decide +kernel, by decide +kernel⟩
theorem scStand : FnScope ["self"] ["self"] (defScope sBStand) := ⟨rfl, rfl, rfl, by decide +kernel, rfl, by decide +kernel, by decide +kernel⟩
theorem scDeeds : FnScope ["self"] ["self"] (defScope sBDeeds) := ⟨rfl, rfl, rfl, by decide +kernel, rfl, by decide +kernel, by decide +kernel⟩
theorem scBad : FnScope ["self"] ["self"] (defScope sBBad) := ⟨rfl, rfl, rfl, by decide +kernel, rfl, by decide +kernel, by decide +kernel⟩
theorem ok_stand {f C : Addr} {fd : FuncData} (F : Fun K "stand" "Bench.stand" sBStand f fd) (T : BTxt K mg C) : FnOk P w K mg base CX0 1 f fd ["self"] (spStand C) := by
  refine F.ok scStand (fun vs H Q E h => ?_) (fun cdv A outer s H vs Q E hr h => ?_)
  · obtain ⟨p, r, o, W, st, z, ds, os, rfl, _⟩ := h
    rfl
  · obtain ⟨p, r, o, W, st, z, ds, os, rfl, hB, q⟩ := h
    obtain ⟨⟨dx, fs, wv, nv, hp, bf, hw, hn⟩, _, _, _⟩ := id hB
    refine ⟨_, pss_one (ps_ret (pe_fld (pv 0) rfl)), ?_⟩
    exact ⟨_, rfl, p, C, dx, fs, _, rfl, hp, T.cl, T.nN, bf.n, q _ hn⟩
theorem ok_bad {f C : Addr} {fd : FuncData} (F : Fun K "bad" "Bench.bad" sBBad f fd) (T : BTxt K mg C) : FnOk P w K mg base CX0 1 f fd ["self"] (spBad C) := by
  refine F.ok scBad (fun vs H Q E h => ?_) (fun cdv A outer s H vs Q E hr h => ?_)
  · obtain ⟨p, r, o, W, st, z, ds, os, rfl, _⟩ := h
    rfl
  · obtain ⟨p, r, o, W, st, z, ds, os, rfl, hB, q⟩ := h
    obtain ⟨⟨dx, fs, wv, nv, hp, bf, hw, hn⟩, _, _, _⟩ := id hB
    refine ⟨_, pss_one (ps_ret (pe_fld (pv 0) rfl)), ?_⟩
    exact ⟨_, rfl, p, C, dx, fs, _, rfl, hp, T.cl, T.nZ, bf.z, q⟩
theorem ok_deeds {f C : Addr} {fd : FuncData} (F : Fun K "deeds" "Bench.deeds" sBDeeds f fd) (B : Blt mg) (T : BTxt K mg C) : FnOk P w K mg base CX0 1 f fd ["self"] (spDeeds C) := by
  refine F.ok scDeeds (fun vs H Q E h => ?_) (fun cdv A outer s H vs Q E hr h => ?_)
  · obtain ⟨p, r, o, W, st, z, ds, os, rfl, _⟩ := h
    rfl
  · obtain ⟨p, r, o, W, st, z, ds, os, rfl, hB, q⟩ := h
    obtain ⟨⟨dx, fs, wv, nv, hp, bf, hw, hn⟩, ⟨xs, hxr, hx⟩, _, _⟩ := id hB
    refine ⟨_, pss_one (ps_ret (pe_callTy call_tuple_of (by rfl) B.tuple boot_tuple (pa_cons (pe_fld (pv 0) rfl) pa_nil))), ?_⟩
    exact ⟨_, rfl, p, C, dx, fs, _, rfl, hp, T.cl, T.nR, bf.r, r, xs, rfl, .inl ⟨SqL.of hxr, fun t ht => q _ _ (same_upd ht) ⟨t, xs, rfl, upd_same, hx.mono fun _ _ k => k.tk (Tk.same (same_upd ht))⟩⟩⟩
end
end Dy
set_option Elab.async false
set_option maxRecDepth 100000
set_option maxHeartbeats 4000000
namespace Dy
open PySem PySem.Spec PyProof.Rows L2 GenW RZ
abbrev sTaken : Stmt := top 25
abbrev sDyes : Stmt := top 26
abbrev sWorks : Stmt := top 27
abbrev sPass : Stmt := top 28
abbrev sGood : Stmt := top 29
abbrev sAlike : Stmt := top 30
abbrev sRefused : Stmt := top 31
abbrev sCalls : Stmt := top 32
abbrev sPick : Stmt := top 33
abbrev sLaw : Stmt := top 34
theorem seqL_keep {K : PySem.W.Frag} {H H' : Hp} {s : Addr} {xs : List V} (h : SqL K H s xs) (k : ∀ u, H s = some u → H' s = some u) : SqL K H' s xs := by
  rcases h with (h | ⟨o, h⟩) | h
  · exact .inl (.inl (k _ h))
  · exact .inl (.inr ⟨o, k _ h⟩)
  · exact .inr h
/-- the row at a: script (at s), place, state, rest -/
def RwS (s : Addr) (H : Hp) (a : Addr) : Prop := ∃ (p z r : Int), H a = some (.lst [.ref s, .int p, .int z, .int r]) ∧ 0 ≤ p ∧ 0 ≤ z ∧ z < 2147483647
def Scr (K : PySem.W.Frag) (H : Hp) (s : Addr) : Prop := ∃ ns : List Int, SqL K H s (ns.map V.int)
theorem scr_keep {K : PySem.W.Frag} {H H' : Hp} {s a : Addr} {ns : List Int} {l : List V} (hs : SqL K H s (ns.map V.int)) (ha : H a = some (.lst (.ref s :: l))) (e : Ex [a] H H') : SqL K H' s (ns.map V.int) := by
  have n : ∀ {u}, H s = some u → (u = .lst (ns.map V.int) ∨ ∃ o, u = .frz o (.lst (ns.map V.int))) → s ≠ a := fun {u} hu q z => by
    rw [z, ha] at hu
    rcases q with q | ⟨o, q⟩
    · rw [q] at hu
      cases ns with
      | nil => cases hu
      | cons x xs => cases hu
    · rw [q] at hu
      cases hu
  rcases hs with (h | ⟨o, h⟩) | h
  · exact .inl (.inl (e _ _ (by simp [n h (.inl rfl)]) h))
  · exact .inl (.inr ⟨o, e _ _ (by simp [n h (.inr ⟨o, rfl⟩)]) h⟩)
  · exact .inr h
theorem Scr.ex {K : PySem.W.Frag} {H H' : Hp} {s a : Addr} (h : Scr K H s) (r : RwS s H a) (e : Ex [a] H H') : Scr K H' s := by
  obtain ⟨ns, hs⟩ := h
  obtain ⟨p, z, r, ha, _⟩ := r
  exact ⟨ns, scr_keep hs ha e⟩
theorem Scr.same {K : PySem.W.Frag} {H H' : Hp} {s : Addr} (h : Scr K H s) (e : Same H H') : Scr K H' s := by
  obtain ⟨ns, hs⟩ := h
  exact ⟨ns, e.seq hs⟩
theorem RwS.at_ {H H' : Hp} {s a : Addr} (h : RwS s H a) (e : H' a = H a) : RwS s H' a := by
  obtain ⟨p, z, r, h1, h2⟩ := h
  exact ⟨p, z, r, e.trans h1, h2⟩
theorem RwS.same {H H' : Hp} {s a : Addr} (h : RwS s H a) (e : Same H H') : RwS s H' a := by
  obtain ⟨p, z, r, h1, h2⟩ := h
  exact ⟨p, z, r, e _ _ h1, h2⟩
theorem RwS.nt {H : Hp} {s a : Addr} (h : RwS s H a) : ∀ xs, H a ≠ some (.tup xs) := fun xs e => by
  obtain ⟨p, z, r, h1, _⟩ := h
  rw [h1] at e; cases e
theorem RwS.ne {H : Hp} {s a D : Addr} (h : RwS s H a) (hD : H D = none) : D ≠ a := fun z => by
  obtain ⟨p, z2, r, h1, _⟩ := h
  rw [z, h1] at hD; cases hD
theorem RwS.tk {H H' : Hp} {s a : Addr} (h : RwS s H a) (e : Ex [a] H H') : Tk H H' := e.tk fun b hb => by
  rw [List.mem_singleton.mp hb]
  exact h.nt
theorem RwS.upd {H : Hp} {s a D : Addr} {o : HO} (h : RwS s H a) (hD : D ≠ a) : RwS s (upd H D o) a := h.at_ (upd_ne hD.symm)
/-- one draw: a number in [0, m) -/
def spTaken (K : PySem.W.Frag) : Sp := fun vs H Q _ => ∃ (a s : Addr) (m : Int), vs = [.ref a, .int m] ∧ RwS s H a ∧ Scr K H s ∧ 1 ≤ m ∧ m ≤ 1000 ∧ ∀ v H', 0 ≤ v → v < m → Ex [a] H H' → RwS s H' a → Q (.int v) H'
section
variable {P : Program} {w : World} {K : PySem.W.Frag} {mg : Str → Option Value} {base : Heap}
theorem scTaken : FnScope ["_law_row", "_law_many", "_law_found", "_law_cell"] ["_law_row", "_law_many"] (defScope sTaken) := ⟨rfl, rfl, rfl, by decide +kernel, rfl, by decide +kernel, by decide +kernel⟩
theorem ok_taken {f : Addr} {fd : FuncData} (F : Fun K "_law_taken" "_law_taken" sTaken f fd) (B : Blt mg) : FnOk P w K mg base CX0 1 f fd ["_law_row", "_law_many"] (spTaken K) := by
  refine F.ok scTaken (fun vs H Q E h => ?_) (fun cdv A outer s H vs Q E hr h => ?_)
  · obtain ⟨a, sc, m, rfl, _⟩ := h
    rfl
  · obtain ⟨a, sc, m, rfl, ⟨p, z, r, ha, hp, hz0, hz⟩, ⟨ns, hs⟩, hm1, hm2, q⟩ := h
    refine ⟨_, pss_cons (ps_if (pt_cmpR op_gt (pe_ix ix_list (pv 0) pe_int (fun _ _ => rfl)) pe_int (nomark _))
        (pss_cons (ps_set (i := 2) scTaken.nd rfl (Or.inl rfl) (pe_op op_mod (pe_callTy call_int1 (by rfl) B.int boot_int (pa_cons (pe_ix ix_list (pv 0) pe_int (fun _ _ => rfl)) pa_nil)) (pv 1)))
        (pss_cons (ps_asg (pe_op op_fdivN (pe_ix ix_list (pv 0) pe_int (fun _ _ => rfl)) (pv 1)) (pg_sub (pv 0) pe_int set_list))
        (pss_one (ps_ret (pv 2))))) pss_nil)
      (pss_cons (ps_asg (pe_op op_add (pe_ix ix_list (pv 0) pe_int (fun _ _ => rfl)) pe_int) (pg_sub (pv 0) pe_int set_list))
      (pss_cons (ps_if (pt_cmpR op_gt (pe_ix ix_list (pv 0) pe_int (fun _ _ => rfl)) (pe_callB call_len_seq (by rfl) B.len PySem.boot_len (pa_cons (pe_ix ix_list (pv 0) pe_int (fun _ _ => rfl)) pa_nil)) (nomark _))
        (pss_cons (ps_asg (pe_op op_mod (pe_callTy call_int1 (by rfl) B.int boot_int (pa_cons (pe_op op_add (pe_op op_mul (pe_ix ix_list (pv 0) pe_int (fun _ _ => rfl)) pe_int) pe_int) pa_nil)) pe_int) (pg_sub (pv 0) pe_int set_list))
        (pss_one (ps_ret (pe_op op_mod (pe_callTy call_int1 (by rfl) B.int boot_int (pa_cons (pe_op op_fdivN (pe_ix ix_list (pv 0) pe_int (fun _ _ => rfl)) pe_int) pa_nil)) (pv 1))))) pss_nil)
      (pss_cons (ps_set (i := 3) scTaken.nd rfl (Or.inl rfl) (pe_ix ix_list (pe_ix ix_list (pv 0) pe_int (fun _ _ => rfl)) (pe_op op_sub (pe_ix ix_list (pv 0) pe_int (fun _ _ => rfl)) pe_int) (fun _ _ => rfl)))
      (pss_cons (ps_asg (pe_op op_mod (pe_callTy call_int1 (by rfl) B.int boot_int (pa_cons (pe_op op_add (pe_op op_add (pe_op op_mul (pe_ix ix_list (pv 0) pe_int (fun _ _ => rfl)) pe_int) (pv 3)) pe_int) pa_nil)) pe_int) (pg_sub (pv 0) pe_int set_list))
      (pss_cons (ps_if (pt_cmpR op_ge (pv 3) (pe_op op_pow pe_int pe_int) (nomark _)) (pss_one (ps_asg (pe_op op_fdivN (pv 3) (pv 1)) (pg_sub (pv 0) pe_int set_list))) pss_nil)
      (pss_one (ps_ret (pe_op op_mod (pe_callTy call_int1 (by rfl) B.int boot_int (pa_cons (pv 3) pa_nil)) (pv 1))))))))), ?_⟩
    have em : ∀ i : Int, 0 ≤ i % m ∧ i % m < m := fun i => ⟨Int.emod_nonneg _ (by omega), Int.emod_lt_of_pos _ (by omega)⟩
    have ez : ∀ i : Int, 0 ≤ i % 2147483647 ∧ i % 2147483647 < 2147483647 := fun i => ⟨Int.emod_nonneg _ (by omega), Int.emod_lt_of_pos _ (by omega)⟩
    refine ⟨_, rfl, a, _, 3, _, rfl, rfl, SqL.of ha, rfl, r, 0, rfl, rfl, _, rfl, ?_⟩
    refine ite2 (fun c => ?_) (fun c => ?_)
    · refine ⟨_, rfl, a, _, 3, _, rfl, rfl, SqL.of ha, rfl, .inl ⟨r, rfl, _, rfl, r, m, rfl, rfl, by show 0 < m; omega, ?_⟩⟩
      refine ⟨_, rfl, a, _, 3, _, rfl, rfl, SqL.of ha, rfl, _, rfl, r, m, rfl, rfl, ⟨by omega, by omega⟩, _, rfl, a, _, 3, 3, rfl, rfl, ha, rfl, _, rfl, ?_⟩
      refine q _ _ (em r).1 (em r).2 (Ex.upd (.inl (by simp))) ⟨p, z, _, upd_same, hp, hz0, hz⟩
    · refine ⟨_, rfl, a, _, 1, _, rfl, rfl, SqL.of ha, rfl, p, 1, rfl, rfl, _, rfl, a, _, 1, 1, rfl, rfl, ha, rfl, ?_⟩
      have e1 : Ex [a] H (upd H a (.lst [.ref sc, .int (p + 1), .int z, .int r])) := Ex.upd (.inl (by simp))
      have hs1 := scr_keep hs ha e1
      have ha1 : (upd H a (.lst [.ref sc, .int (p + 1), .int z, .int r])) a = some (.lst [.ref sc, .int (p + 1), .int z, .int r]) := upd_same
      revert e1 hs1 ha1
      generalize hG : upd H a (.lst [.ref sc, .int (p + 1), .int z, .int r]) = H1
      intro e1 hs1 ha1
      have hG2 : upd H a (.lst (List.set [.ref sc, .int p, .int z, .int r] 1 (.int (p + 1)))) = H1 := hG
      rw [hG2]
      refine ⟨_, rfl, a, _, 1, _, rfl, rfl, SqL.of ha1, rfl, _, rfl, a, _, 0, _, rfl, rfl, SqL.of ha1, rfl, sc, _, rfl, .inl hs1, p + 1, _, rfl, rfl, _, rfl, ?_⟩
      refine ite2 (fun c => ?_) (fun c => ?_)
      · refine ⟨_, rfl, a, _, 2, _, rfl, rfl, SqL.of ha1, rfl, z, 48271, rfl, rfl, .inl ⟨by omega, by omega⟩, _, 11, rfl, rfl, .inl ⟨_, rfl, _, 2147483647, rfl, rfl, (by show (0 : Int) < 2147483647; decide), ?_⟩⟩
        refine ⟨_, rfl, a, _, 2, 2, rfl, rfl, ha1, rfl, ?_⟩
        have e2 : Ex [a] H1 (upd H1 a (.lst [.ref sc, .int (p + 1), .int ((z * 48271 + 11) % 2147483647), .int r])) := Ex.upd (.inl (by simp))
        refine ⟨_, rfl, a, [.ref sc, .int (p + 1), .int ((z * 48271 + 11) % 2147483647), .int r], 2, _, rfl, rfl, SqL.of upd_same, rfl, _, 7, rfl, rfl, ⟨by omega, by omega⟩, .inl ⟨_, rfl, _, rfl, _, m, rfl, rfl, by show 0 < m; omega, ?_⟩⟩
        exact q _ _ (em _).1 (em _).2 (e1.trans e2) ⟨p + 1, _, r, upd_same, by omega, (ez _).1, (ez _).2⟩
      · have hpl : p.toNat < ns.length := by
          have : ¬ ((p + 1 : Int) > ((ns.map V.int).length : Int)) := fun z => c (decide_eq_true z)
          simp only [List.length_map] at this
          omega
        obtain ⟨cl, hcl⟩ := take_get hpl
        have hcl2 : (ns.map V.int)[p.toNat]? = some (.int cl) := by rw [List.getElem?_map, hcl]; rfl
        refine ⟨_, rfl, a, _, 0, _, rfl, rfl, SqL.of ha1, rfl, _, rfl, a, _, 1, _, rfl, rfl, SqL.of ha1, rfl, p + 1, 1, rfl, rfl, sc, _, (p + 1 - 1), .int cl, rfl, rfl, hs1, (by rw [Int.add_sub_cancel]; exact atI_of hp hcl2), ?_⟩
        refine ⟨_, rfl, a, _, 2, _, rfl, rfl, SqL.of ha1, rfl, z, 48271, rfl, rfl, .inl ⟨by omega, by omega⟩, _, rfl, _, cl, rfl, rfl, _, 11, rfl, rfl, .inl ⟨_, rfl, _, 2147483647, rfl, rfl, (by show (0 : Int) < 2147483647; decide), ?_⟩⟩
        refine ⟨_, rfl, a, _, 2, 2, rfl, rfl, ha1, rfl, ?_⟩
        have e2 : Ex [a] H1 (upd H1 a (.lst [.ref sc, .int (p + 1), .int ((z * 48271 + cl + 11) % 2147483647), .int r])) := Ex.upd (.inl (by simp))
        have ha2 : (upd H1 a (.lst [.ref sc, .int (p + 1), .int ((z * 48271 + cl + 11) % 2147483647), .int r])) a = some (.lst [.ref sc, .int (p + 1), .int ((z * 48271 + cl + 11) % 2147483647), .int r]) := upd_same
        have hs2 := scr_keep hs1 ha1 e2
        refine ⟨_, rfl, 10, 18, rfl, rfl, ⟨by omega, by omega, by decide⟩, _, _, rfl, rfl, _, rfl, ?_⟩
        refine ite2 (fun c => ?_) (fun c => ?_)
        · have e3 : Ex [a] (upd H1 a (.lst [.ref sc, .int (p + 1), .int ((z * 48271 + cl + 11) % 2147483647), .int r])) (upd (upd H1 a (.lst [.ref sc, .int (p + 1), .int ((z * 48271 + cl + 11) % 2147483647), .int r])) a (.lst [.ref sc, .int (p + 1), .int ((z * 48271 + cl + 11) % 2147483647), .int (cl.fdiv m)])) := Ex.upd (.inl (by simp))
          refine ⟨_, rfl, _, rfl, cl, m, rfl, rfl, ⟨by omega, by omega⟩, _, rfl, a, _, 3, 3, rfl, rfl, ha2, rfl, ?_⟩
          refine ⟨_, rfl, .inl ⟨cl, rfl, _, rfl, cl, m, rfl, rfl, by show 0 < m; omega, ?_⟩⟩
          exact q _ _ (em _).1 (em _).2 ((e1.trans e2).trans e3) ⟨p + 1, _, _, upd_same, by omega, (ez _).1, (ez _).2⟩
        · refine ⟨_, rfl, .inl ⟨cl, rfl, _, rfl, cl, m, rfl, rfl, by show 0 < m; omega, ?_⟩⟩
          exact q _ _ (em _).1 (em _).2 (e1.trans e2) ⟨p + 1, _, _, ha2, by omega, (ez _).1, (ez _).2⟩
end
end Dy
set_option Elab.async false
set_option maxRecDepth 100000
set_option maxHeartbeats 4000000
namespace Dy
open PySem PySem.Spec PyProof.Rows L2 GenW RZ
/-- some of the dyes -/
def spDyes (K : PySem.W.Frag) : Sp := fun vs H Q _ => ∃ (a s : Addr) (n m : Int), vs = [.ref a, .int n, .int m] ∧ RwS s H a ∧ Scr K H s ∧ 0 ≤ n ∧ n ≤ 4 ∧ 1 ≤ m ∧ m ≤ 1000 ∧ ∀ t H' ns, Ex [a] H H' → RwS s H' a → TI H' t ns → Lot n ns → Q t H'
/-- what is new may change -/
theorem Ex.new {S : List Addr} {H H' : Hp} {D : Addr} {o : HO} (e : Ex S H H') (h : H D = none) : Ex S H (L2.upd H' D o) := fun b u n z => by
  rw [upd_ne (ne_of_none z h)]
  exact e b u n z
theorem Lot.snoc {i : Int} {ns : List Int} (h : Lot i ns) (h0 : 0 ≤ i) : Lot (i + 1) (ns ++ [i]) := by
  refine ⟨?_, fun x hx => ?_, fun x hx => ?_⟩
  · refine List.pairwise_append.mpr ⟨h.asc, by simp, fun x hx y hy => ?_⟩
    rw [List.mem_singleton.mp hy]
    exact h.hi x hx
  · rcases List.mem_append.mp hx with m | m
    · exact h.lo x m
    · rw [List.mem_singleton.mp m]; exact h0
  · rcases List.mem_append.mp hx with m | m
    · have := h.hi x m; omega
    · rw [List.mem_singleton.mp m]; omega
theorem Lot.grow {i j : Int} {ns : List Int} (h : Lot i ns) (hj : i ≤ j) : Lot j ns := ⟨h.asc, h.lo, fun x hx => by have := h.hi x hx; omega⟩
section
variable {P : Program} {w : World} {K : PySem.W.Frag} {mg : Str → Option Value} {base : Heap}
theorem scDyes : FnScope ["_law_row", "_law_dyes_here", "_law_many", "_law_dye"] ["_law_row", "_law_dyes_here", "_law_many"] (defScope sDyes) := ⟨rfl, rfl, rfl, by decide +kernel, rfl, by decide +kernel, by decide +kernel⟩
theorem ok_dyes {f f1 : Addr} {fd fd1 : FuncData} (F : Fun K "_law_dyes" "_law_dyes" sDyes f fd) (B : Blt mg) (D1 : Dn K mg "_law_taken" sTaken ["_law_row", "_law_many"] f1 fd1) : FnOk P w K mg base CX0 2 f fd ["_law_row", "_law_dyes_here", "_law_many"] (spDyes K) := by
  have G1 : FnOk P w K mg base CX0 1 f1 fd1 ["_law_row", "_law_many"] (spTaken K) := ok_taken D1.F B
  refine F.ok scDyes (fun vs H Q E h => ?_) (fun cdv A outer s H vs Q E hr h => ?_)
  · obtain ⟨a, sc, n, m, rfl, _⟩ := h
    rfl
  · obtain ⟨a, sc, n, m, rfl, hR, hS, hn0, hn4, hm1, hm2, q⟩ := h
    refine ⟨_, pss_one (ps_ret (pe_callTy call_tuple_of (by rfl) B.tuple boot_tuple (pa_cons (pe_lc (own := [("_law_dye", 3)]) (g := gName 3) rfl scDyes.nd (pi_range1 (by rfl) B.range (pa_cons (pv 1) pa_nil))
      (blkOk_by (N := ["_law_row", "_law_dyes_here", "_law_many", "_law_dye"]) (sc := defScope sDyes) (by decide +kernel)) (fun _ _ _ _ _ => pg_name (i := 3) scDyes.nd rfl (Or.inl rfl))
      (fun _ _ _ _ _ => pts_one (pt_cmpR op_eq (pe_call G1 hr (by rfl) D1.g D1.F.kp D1.b .nil pass0 (pa_cons (pv 0) (pa_cons (pv 2) pa_nil))) pe_int (nomark _))) (fun _ _ _ _ _ => pv 3)) pa_nil))), ?_⟩
    refine ⟨_, rfl, n, rfl, by omega, by omega, fun D hD => lc_range (lo := 0) (n := n.toNat) (fun i H' => ∃ ns : List Int, H' D = some (.lst (ns.map V.int)) ∧ Ex [a] H H' ∧ RwS sc H' a ∧ Lot (i : Int) ns) ⟨[], upd_same, Ex.same (same_upd hD), hR.upd (hR.ne hD), Lot.nil _⟩ ?_ ?_⟩
    · rintro i H' hi ⟨ns, hDl, e1, hR1, hL⟩
      have nDa : D ≠ a := hR.ne hD
      refine ⟨rfl, _, rfl, _, rfl, a, sc, m, rfl, hR1, hS.ex hR e1, hm1, hm2, fun v H2 hv0 hvm e2 hR2 => ?_⟩
      have hD2 : H2 D = some (.lst (ns.map V.int)) := e2 _ _ (by simp [nDa]) hDl
      refine ⟨rfl, _, rfl, ?_⟩
      refine ite2 (fun c => ?_) (fun c => ?_)
      · refine ⟨_, rfl, _, hD2, ?_, ns ++ [(i : Int)], ?_, Ex.new (e1.trans e2) hD, hR2.upd nDa, hL.snoc (by omega)⟩
        · rw [List.length_map]
          have := (hL.grow (j := 4) (by omega)).len (by omega)
          exact small1000 (by omega)
        · rw [upd_same, List.map_append, Int.zero_add]; rfl
      · exact ⟨ns, hD2, e1.trans e2, hR2, hL.grow (by omega)⟩
    · rintro H' ⟨ns, hDl, e1, hR1, hL⟩
      refine ⟨D, _, rfl, .inl ⟨SqL.of hDl, fun t ht => ?_⟩⟩
      exact q _ _ ns (e1.trans (Ex.same (same_upd ht))) (hR1.same (same_upd ht)) ⟨t, rfl, upd_same⟩ (by rw [Int.toNat_of_nonneg hn0] at hL; exact hL)
end
end Dy
set_option Elab.async false
set_option maxRecDepth 100000
set_option maxHeartbeats 4000000
namespace Dy
open PySem PySem.Spec PyProof.Rows L2 GenW RZ
/-- works are drawn -/
def spWorks (K : PySem.W.Frag) : Sp := fun vs H Q _ => ∃ (a s : Addr), vs = [.ref a] ∧ RwS s H a ∧ Scr K H s ∧ ∀ t H' W, Ex [a] H H' → RwS s H' a → WorksAt H' t W → WorksOk W → Q t H'
theorem Lot.sub {n : Int} {l m : List Int} (h : Lot n l) (s : m.Sublist l) : Lot n m := ⟨h.asc.sublist s, fun x hx => h.lo x (s.subset hx), fun x hx => h.hi x (s.subset hx)⟩
theorem sub_snoc {α : Type} {l acc : List α} {i : Nat} {x : α} (h : acc.Sublist (l.take i)) (hx : l[i]? = some x) : (acc ++ [x]).Sublist (l.take (i + 1)) := by
  rw [take_snoc hx]
  exact h.append (List.Sublist.refl _)
theorem sub_step {α : Type} {l acc : List α} {i : Nat} (h : acc.Sublist (l.take i)) : acc.Sublist (l.take (i + 1)) := h.trans (List.take_sublist_take_left (Nat.le_succ i))
section
variable {P : Program} {w : World} {K : PySem.W.Frag} {mg : Str → Option Value} {base : Heap}
theorem scWorks : FnScope ["_law_row", "_law_dyes_here", "_law_vats", "_law_vat", "_law_own", "_law_kinds", "_law_kind", "_law_routes", "_law_turn", "_law_wants", "_law_owns", "_law_step", "_law_dye"] ["_law_row"] (defScope sWorks) := ⟨rfl, rfl, rfl, by decide +kernel, rfl, by decide +kernel, by decide +kernel⟩
abbrev nmW : List Str := ["_law_row", "_law_dyes_here", "_law_vats", "_law_vat", "_law_own", "_law_kinds", "_law_kind", "_law_routes", "_law_turn", "_law_wants", "_law_owns", "_law_step", "_law_dye"]
theorem ok_works {f f1 f2 : Addr} {fd fd1 fd2 : FuncData} (F : Fun K "_law_works" "_law_works" sWorks f fd) (B : Blt mg) (D1 : Dn K mg "_law_taken" sTaken ["_law_row", "_law_many"] f1 fd1) (D2 : Dn K mg "_law_dyes" sDyes ["_law_row", "_law_dyes_here", "_law_many"] f2 fd2) : FnOk P w K mg base CX0 3 f fd ["_law_row"] (spWorks K) := by
  have G1 : FnOk P w K mg base CX0 1 f1 fd1 ["_law_row", "_law_many"] (spTaken K) := ok_taken D1.F B
  have G2 : FnOk P w K mg base CX0 2 f2 fd2 ["_law_row", "_law_dyes_here", "_law_many"] (spDyes K) := ok_dyes D2.F B D1
  refine F.ok scWorks (fun vs H Q E h => ?_) (fun cdv A outer s H vs Q E hr h => ?_)
  · obtain ⟨a, sc, rfl, _⟩ := h
    rfl
  · obtain ⟨a, sc, rfl, hR, hS, q⟩ := h
    have hr1 : Room 1 (A.deeper (envOfC "_law_works" (defScope sWorks) s.heap.objs.size f cdv)) := hr.mono (by decide)
    refine ⟨_, pss_cons (ps_asg (pe_tup (pa_cons (pe_op op_add pe_int (pe_call G1 hr1 (by rfl) D1.g D1.F.kp D1.b .nil pass0 (pa_cons (pv 0) (pa_cons pe_int pa_nil)))) (pa_cons (pe_op op_add pe_int (pe_call G1 hr1 (by rfl) D1.g D1.F.kp D1.b .nil pass0 (pa_cons (pv 0) (pa_cons pe_int pa_nil)))) pa_nil))) (pg_tup (by rfl) (pgs_cons (pg_name (i := 1) scWorks.nd rfl (Or.inr rfl)) (pgs_cons (pg_name (i := 2) scWorks.nd rfl (Or.inr rfl)) pgs_nil))))
      (pss_cons (ps_set (i := 4) scWorks.nd rfl (Or.inl rfl) (pe_callTy call_tuple_of (by rfl) B.tuple boot_tuple (pa_cons (pe_lc (own := [("_law_vat", 3)]) (g := gName 3) (tt := tYes) rfl scWorks.nd (pi_range1 (by rfl) B.range (pa_cons (pv 2) pa_nil))
          (blkOk_by (N := nmW) (sc := defScope sWorks) (by decide +kernel)) (fun _ _ _ _ _ => pg_name (i := 3) scWorks.nd rfl (Or.inl rfl)) (fun _ _ _ _ _ => pts_nil) (fun _ _ _ _ _ => pe_call G2 hr (by rfl) D2.g D2.F.kp D2.b .nil pass0 (pa_cons (pv 0) (pa_cons (pv 1) (pa_cons pe_int pa_nil))))) pa_nil)))
      (pss_cons (ps_set (i := 5) scWorks.nd rfl (Or.inl rfl) (pe_lst pa_nil))
      (pss_cons (ps_for PassesOwn.never rfl (pi_range1 (by rfl) B.range (pa_cons (pe_op op_add pe_int (pe_call G1 hr1 (by rfl) D1.g D1.F.kp D1.b .nil pass0 (pa_cons (pv 0) (pa_cons pe_int pa_nil)))) pa_nil)) (pg_name (i := 6) scWorks.nd rfl (Or.inl rfl))
        (pss_cons (ps_set (i := 7) scWorks.nd rfl (Or.inl rfl) (pe_lst pa_nil))
        (pss_cons (ps_for PassesOwn.never rfl (pi_range1 (by rfl) B.range (pa_cons (pe_op op_add pe_int (pe_call G1 hr1 (by rfl) D1.g D1.F.kp D1.b .nil pass0 (pa_cons (pv 0) (pa_cons pe_int pa_nil)))) pa_nil)) (pg_name (i := 8) scWorks.nd rfl (Or.inl rfl))
          (pss_one (ps_expr (pe_bm PySem.F.plainAttrs_list PySem.F.slot_list_append PySem.F.type_list_append mt_append (pv 7) (pa_cons (pe_callTy call_tuple_of (by rfl) B.tuple boot_tuple (pa_cons (pe_lc (own := [("_law_step", 11)]) (g := gName 11) (tt := tYes) rfl scWorks.nd (pi_range1 (by rfl) B.range (pa_cons (pe_op op_add pe_int (pe_call G1 hr1 (by rfl) D1.g D1.F.kp D1.b .nil pass0 (pa_cons (pv 0) (pa_cons pe_int pa_nil)))) pa_nil))
            (blkOk_by (N := nmW) (sc := defScope sWorks) (by decide +kernel)) (fun _ _ _ _ _ => pg_name (i := 11) scWorks.nd rfl (Or.inl rfl)) (fun _ _ _ _ _ => pts_nil) (fun _ _ _ _ _ => pe_call G1 hr1 (by rfl) D1.g D1.F.kp D1.b .nil pass0 (pa_cons (pv 0) (pa_cons (pv 2) pa_nil)))) pa_nil)) pa_nil)))))
        (pss_cons (ps_set (i := 9) scWorks.nd rfl (Or.inl rfl) (pe_call G2 hr (by rfl) D2.g D2.F.kp D2.b .nil pass0 (pa_cons (pv 0) (pa_cons (pv 1) (pa_cons pe_int pa_nil)))))
        (pss_cons (ps_if (pt_cmpR op_eq (pe_call G1 hr1 (by rfl) D1.g D1.F.kp D1.b .nil pass0 (pa_cons (pv 0) (pa_cons pe_int pa_nil))) pe_int (nomark _))
          (pss_cons (ps_set (i := 10) scWorks.nd rfl (Or.inr rfl) (pe_lst pa_nil))
          (pss_cons (ps_for PassesOwn.never rfl (pi_tup (pe_ix ix_list (pv 7) pe_int (fun _ _ => rfl))) (pg_name (i := 3) scWorks.nd rfl (Or.inl rfl))
            (pss_one (ps_set (i := 10) scWorks.nd rfl (Or.inr rfl) (pe_op op_cat (pv 10) (pe_callTy call_list_of (by rfl) B.list boot_list (pa_cons (pe_ix ix_tup (pv 4) (pv 3) (fun _ _ => rfl)) pa_nil))))))
          (pss_one (ps_set (i := 9) scWorks.nd rfl (Or.inl rfl) (pe_callTy call_tuple_of (by rfl) B.tuple boot_tuple (pa_cons (pe_lc (own := [("_law_dye", 12)]) (g := gName 12) (tt := tTest (tOp (rIn K false) (tVar 12) (tVar 10))) rfl scWorks.nd (pi_tup (pv 9))
            (blkOk_by (N := nmW) (sc := defScope sWorks) (by decide +kernel)) (fun _ _ _ _ _ => pg_name (i := 12) scWorks.nd rfl (Or.inl rfl)) (fun _ _ _ _ _ => by exact (pts_one (pt_cmpR op_in_seq (pv 12) (pv 10) (by rfl)))) (fun _ _ _ _ _ => pv 12)) pa_nil))))))
          pss_nil)
        (pss_one (ps_expr (pe_bm PySem.F.plainAttrs_list PySem.F.slot_list_append PySem.F.type_list_append mt_append (pv 5) (pa_cons (pe_tup (pa_cons (pv 9) (pa_cons (pe_call G2 hr (by rfl) D2.g D2.F.kp D2.b .nil pass0 (pa_cons (pv 0) (pa_cons (pv 1) (pa_cons pe_int pa_nil)))) (pa_cons (pe_callTy call_tuple_of (by rfl) B.tuple boot_tuple (pa_cons (pv 7) pa_nil)) pa_nil)))) pa_nil)))))))))
      (pss_one (ps_ret (pe_tup (pa_cons (pv 1) (pa_cons (pv 4) (pa_cons (pe_callTy call_tuple_of (by rfl) B.tuple boot_tuple (pa_cons (pv 5) pa_nil)) pa_nil))))))))), ?_⟩
    refine ⟨_, rfl, a, sc, 4, rfl, hR, hS, by decide, by decide, fun n0 H1 hn0 hn4 e1 hR1 => ⟨1, n0, rfl, rfl, _, rfl, a, sc, 4, rfl, hR1, hS.ex hR e1, by decide, by decide, fun m0 H2 hm0 hm4 e2 hR2 => ⟨1, m0, rfl, rfl, by show 2 ≤ sizeLine; exact small_line (by omega), fun t0 ht0 => ?_⟩⟩⟩
    refine ⟨t0, _, rfl, SqT.of upd_same, rfl, _, _, rfl, _, _, rfl, rfl, ?_⟩
    have e3 : Ex [a] H (upd H2 t0 (.tup [.int (1 + n0), .int (1 + m0)])) := (e1.trans e2).trans (Ex.same (same_upd ht0))
    have hR3 : RwS sc (upd H2 t0 (.tup [.int (1 + n0), .int (1 + m0)])) a := hR2.upd (hR2.ne ht0)
    revert e3 hR3
    generalize upd H2 t0 (.tup [.int (1 + n0), .int (1 + m0)]) = H3
    intro e3 hR3
    have tkH : ∀ {H'}, Ex [a] H H' → Tk H H' := fun e => hR.tk e
    -- the own lots
    refine ⟨_, rfl, 1 + m0, rfl, by omega, by omega, fun D hD => lc_range (lo := 0) (n := (1 + m0).toNat) (fun i H' => ∃ (xs : List V) (ls : List (List Int)), H' D = some (.lst xs) ∧ AllAt (TI H') xs ls ∧ ls.length = i ∧ (∀ l ∈ ls, Lot (1 + n0) l) ∧ Ex [a] H3 H' ∧ RwS sc H' a)
      ⟨[], [], upd_same, AllAt.nil, rfl, by simp, Ex.same (same_upd hD), hR3.upd (hR3.ne hD)⟩ ?_ ?_⟩
    · rintro i H' hi ⟨xs, ls, hDl, hA, hlen, hL, e4, hR4⟩
      have nDa : D ≠ a := hR3.ne hD
      refine ⟨rfl, _, rfl, _, rfl, a, sc, 1 + n0, 2, rfl, hR4, (hS.ex hR e3).ex hR3 e4, by omega, by omega, by decide, by decide, fun t H5 l e5 hR5 hTI hLot => ?_⟩
      have hD5 := e5 _ _ (by simp [nDa]) hDl
      have tk5 := tk_lst (o := .lst (xs ++ [t])) hD5
      refine ⟨xs, hD5, small1000 (by rw [hA.len, hlen]; omega), xs ++ [t], ls ++ [l], upd_same, ((hA.mono fun _ _ k => k.tk (hR4.tk e5)).mono fun _ _ k => k.tk tk5).snoc (hTI.tk tk5), by simp [hlen], fun z hz => ?_, Ex.new (e4.trans e5) hD, hR5.upd nDa⟩
      rcases List.mem_append.mp hz with q | q
      · exact hL z q
      · rw [List.mem_singleton.mp q]; exact hLot
    rintro H4 ⟨xs, ls, hDl, hA, hlen, hL, e4, hR4⟩
    refine ⟨D, _, rfl, .inl ⟨SqL.of hDl, fun ow how => ?_⟩⟩
    -- _law_kinds = []
    refine ⟨by show 0 ≤ sizeLine; omega, fun lk hlk => ?_⟩
    have s5 : Same H4 (upd (upd H4 ow (.tup xs)) lk (.lst [])) := (same_upd how).trans (same_upd hlk)
    have e5 : Ex [a] H (upd (upd H4 ow (.tup xs)) lk (.lst [])) := (e3.trans e4).trans (Ex.same s5)
    have hR5 := hR4.same s5
    have how5 : (upd (upd H4 ow (.tup xs)) lk (.lst [])) ow = some (.tup xs) := same_upd hlk _ _ upd_same
    have hA5 := hA.mono (R' := TI (upd (upd H4 ow (.tup xs)) lk (.lst []))) fun _ _ k => k.tk (Tk.same s5)
    have hlk5 : (upd (upd H4 ow (.tup xs)) lk (.lst [])) lk = some (.lst []) := upd_same
    have nlk : lk ≠ a := (hR4.same (same_upd how)).ne hlk
    have hlkH : H lk = none := by
      cases z : H lk with
      | none => rfl
      | some u =>
        have z2 := same_upd (o := .tup xs) how _ _ ((e3.trans e4) _ _ (by simp [nlk]) z)
        rw [hlk] at z2; cases z2
    revert e5 hR5 how5 hA5 hlk5
    clear s5
    generalize upd (upd H4 ow (.tup xs)) lk (.lst []) = H5
    intro e5 hR5 how5 hA5 hlk5
    have hmL : ((ls.length : Nat) : Int) = 1 + m0 := by omega
    refine ⟨_, rfl, a, sc, 3, rfl, hR5, hS.ex hR e5, by decide, by decide, fun k0 H6 hk0 hk3 e6 hR6 => ⟨1, k0, rfl, rfl, 1 + k0, rfl, by omega, by omega, for_range (lo := 0) (n := (1 + k0).toNat) (fun i σ H' => ∃ (o3 o6 o7 o8 o9 o10 : Option V) (ys : List V) (ks : List KindD),
        σ = [some (.ref a), some (.int (1 + n0)), some (.int (1 + m0)), o3, some (.ref ow), some (.ref lk), o6, o7, o8, o9, o10, none, none] ∧ H' ow = some (.tup xs) ∧ AllAt (TI H') xs ls ∧ H' lk = some (.lst ys) ∧ AllAt (KindAt H') ys ks ∧ ks.length = i ∧ (∀ k ∈ ks, KindOk (1 + n0) ls.length k) ∧ Ex [a] H H' ∧ RwS sc H' a)
      ⟨none, none, none, none, none, none, [], [], rfl, hR5.tk e6 _ _ how5, hA5.mono fun _ _ k => k.tk (hR5.tk e6), e6 _ _ (by simp [nlk]) hlk5, AllAt.nil, rfl, by simp, e5.trans e6, hR6⟩ ?_ ?_⟩⟩
    · rintro i σ H' hi ⟨o3, o6, o7, o8, o9, o10, ys, ks, rfl, how', hA', hlk', hK', hklen, hkok, eH', hR'⟩
      have hi3 : i < 3 := by omega
      refine ⟨by show 0 ≤ sizeLine; omega, fun lr hlr => ?_⟩
      have nlr : lr ≠ a := hR'.ne hlr
      refine ⟨_, rfl, a, sc, 4, rfl, hR'.upd nlr, (hS.ex hR eH').same (same_upd hlr), by decide, by decide, fun r0 H8 hr0 hr4 e8 hR8 => ⟨1, r0, rfl, rfl, 1 + r0, rfl, by omega, by omega, for_range (lo := 0) (n := (1 + r0).toNat) (fun j σ H'' => ∃ (o8 : Option V) (zs : List V) (rs : List (List Int)),
          σ = [some (.ref a), some (.int (1 + n0)), some (.int (1 + m0)), o3, some (.ref ow), some (.ref lk), some (.int (0 + i)), some (.ref lr), o8, o9, o10, none, none] ∧ H'' lr = some (.lst zs) ∧ AllAt (TI H'') zs rs ∧ rs.length = j ∧ (∀ r ∈ rs, RouteOk (1 + m0) r) ∧ Ex [a] H' H'' ∧ RwS sc H'' a)
        ⟨o8, [], [], rfl, e8 _ _ (by simp [nlr]) upd_same, AllAt.nil, rfl, by simp, (Ex.same (same_upd hlr)).trans e8, hR8⟩ ?_ ?_⟩⟩
      · rintro j σ H'' hj ⟨o8', zs, rs, rfl, hlr'', hZ, hrlen, hrok, e'', hR''⟩
        refine ⟨_, rfl, .inl ⟨rfl, _, SqL.of hlr''⟩, ?_⟩
        refine ⟨_, rfl, a, sc, 3, rfl, hR'', (hS.ex hR eH').ex hR' e'', by decide, by decide, fun s0 H9 hs0 hs3 e9 hR9 => ⟨1, s0, rfl, rfl, 1 + s0, rfl, by omega, by omega, fun D2 hD2 => lc_range (lo := 0) (n := (1 + s0).toNat) (fun q H10 => ∃ vs : List Int, H10 D2 = some (.lst (vs.map V.int)) ∧ vs.length = q ∧ (∀ v ∈ vs, 0 ≤ v ∧ v < 1 + m0) ∧ Ex [a] H9 H10 ∧ RwS sc H10 a)
          ⟨[], upd_same, rfl, by simp, Ex.same (same_upd hD2), hR9.upd (hR9.ne hD2)⟩ ?_ ?_⟩⟩
        · rintro q H10 hq ⟨vs, hD10, hvl, hvb, e10, hR10⟩
          have nD2 : D2 ≠ a := hR9.ne hD2
          refine ⟨rfl, _, rfl, _, rfl, a, sc, 1 + m0, rfl, hR10, (((hS.ex hR eH').ex hR' e'').ex hR'' e9).ex hR9 e10, by omega, by omega, fun v H11 hv0 hv1 e11 hR11 => ?_⟩
          have hD11 := e11 _ _ (by simp [nD2]) hD10
          refine ⟨_, hD11, small1000 (by rw [List.length_map, hvl]; omega), vs ++ [v], by rw [upd_same, List.map_append]; rfl, by simp [hvl], fun z hz => ?_, Ex.new (e10.trans e11) hD2, hR11.upd nD2⟩
          rcases List.mem_append.mp hz with m | m
          · exact hvb z m
          · rw [List.mem_singleton.mp m]; exact ⟨hv0, hv1⟩
        · rintro H10 ⟨vs, hD10, hvl, hvb, e10, hR10⟩
          refine ⟨D2, _, rfl, .inl ⟨SqL.of hD10, fun t ht => ?_⟩⟩
          have e11 : Ex [a] H'' (upd H10 t (.tup (vs.map V.int))) := (e9.trans e10).trans (Ex.same (same_upd ht))
          have hlr11 := e11 _ _ (by simp [nlr]) hlr''
          have tk11 := tk_lst (o := .lst (zs ++ [.ref t])) hlr11
          refine ⟨lr, zs, _, rfl, rfl, hlr11, small1000 (by rw [hZ.len, hrlen]; omega), ?_⟩
          refine ⟨some (.int (0 + j)), zs ++ [.ref t], rs ++ [vs], rfl, upd_same, ((hZ.mono fun _ _ k => k.tk (hR''.tk e11)).mono fun _ _ k => k.tk tk11).snoc ⟨t, rfl, tk11 _ _ upd_same⟩, by simp [hrlen], fun r hr => ?_, Ex.new (e''.trans e11) hlr, (hR10.same (same_upd ht)).upd nlr⟩
          rcases List.mem_append.mp hr with m | m
          · exact hrok r m
          · rw [List.mem_singleton.mp m]; exact ⟨by omega, by omega, hvb⟩
      · rintro σ H'' ⟨o8', zs, rs, rfl, hlr'', hZ, hrlen, hrok, e'', hR''⟩
        have hrl1 : 1 ≤ rs.length := by omega
        have hrl4 : rs.length ≤ 4 := by omega
        refine ⟨_, rfl, _, rfl, a, sc, 1 + n0, 5, rfl, hR'', (hS.ex hR eH').ex hR' e'', by omega, by omega, by decide, by decide, fun wv H10 wl e10 hR10 hTIw hLw => ?_⟩
        have eA : Ex [a] H' H10 := e''.trans e10
        refine ⟨_, rfl, a, sc, 2, rfl, hR10, (hS.ex hR eH').ex hR' eA, by decide, by decide, fun bv H11 hb0 hb1 e11 hR11 => ⟨rfl, _, rfl, ?_⟩⟩
        have eB : Ex [a] H' H11 := eA.trans e11
        have hlr11 : H11 lr = some (.lst zs) := e11 _ _ (by simp [nlr]) (e10 _ _ (by simp [nlr]) hlr'')
        have hZ11 : AllAt (TI H11) zs rs := (hZ.mono fun _ _ k => k.tk (hR''.tk e10)).mono fun _ _ k => k.tk (hR10.tk e11)
        have hTw11 : TI H11 wv wl := hTIw.tk (hR10.tk e11)
        refine ite2 (fun c => ?_) (fun c => ?_)
        · refine ⟨by show 0 ≤ sizeLine; omega, fun lo hlo => ?_⟩
          have s12 := same_upd (o := .lst []) hlo
          obtain ⟨r1, hr1⟩ : ∃ r1, rs[0]? = some r1 := take_get hrl1
          obtain ⟨z1, hz1, b1, rfl, hb1'⟩ := hZ11.at_ 0 r1 hr1
          have hro := hrok r1 (List.mem_of_getElem? hr1)
          refine ⟨_, rfl, lr, zs, 0, _, rfl, rfl, SqL.of (s12 _ _ hlr11), atI_of (by omega) hz1, b1, rfl, ⟨_, SqT.of (s12 _ _ hb1')⟩, for_tup (K := K) (a := b1) (xs := r1.map V.int) (fun q σ H12 => ∃ (o3 : Option V) (lo : Addr) (ns : List Int),
              σ = [some (.ref a), some (.int (1 + n0)), some (.int (1 + m0)), o3, some (.ref ow), some (.ref lk), some (.int (0 + i)), some (.ref lr), o8', some wv, some (.ref lo), none, none] ∧ H12 lo = some (.lst (ns.map V.int)) ∧ ns.length ≤ 4 * q ∧ Same H11 H12)
            ⟨o3, lo, [], rfl, upd_same, by simp, s12⟩ (fun q σ H12 _ ⟨_, _, _, _, _, _, s⟩ => SqT.of (s _ _ hb1')) ?_ ?_⟩
          · rintro q x σ H12 hq ⟨o3', lo', ns, rfl, hlo', hnl, s13⟩
            obtain ⟨v, hv, rfl⟩ := map_get hq
            have hq3 : q < r1.length := (List.getElem?_eq_some_iff.mp hv).1
            have hq3' := hro.l3
            have hvb := hro.vat v (List.mem_of_getElem? hv)
            have hvl : v.toNat < ls.length := by omega
            obtain ⟨e, he, ae, rfl, hae⟩ := hA'.at_ v.toNat _ (getD_get hvl)
            have tk13 : Tk H' H12 := (hR'.tk eB).trans (Tk.same s13)
            have hle := (hL _ (getD_mem (d := []) hvl)).len (by omega)
            refine ⟨_, rfl, _, rfl, _, rfl, ow, xs, v, _, rfl, rfl, SqT.of (tk13 _ _ how'), atI_of hvb.1 he, ae, _, rfl, .inr (SqT.of (tk13 _ _ hae)), fun l hl => ?_⟩
            refine ⟨lo', l, _, _, rfl, rfl, same_upd hl _ _ hlo', upd_same, by simp only [List.length_map]; exact small_line (by omega), fun p hp => ?_⟩
            refine ⟨some (.int v), p, ns ++ ls.getD v.toNat [], rfl, by rw [upd_same, List.map_append], by rw [List.length_append]; omega, (s13.trans (same_upd hl)).trans (same_upd hp)⟩
          · rintro σ H12 ⟨o3', lo', ns, rfl, hlo', hnl, s13⟩
            obtain ⟨aw, rfl, haw⟩ := hTw11
            refine ⟨_, rfl, aw, rfl, ⟨_, SqT.of (s13 _ _ haw)⟩, fun D3 hD3 => lc_tup (K := K) (a := aw) (xs := wl.map V.int) (fun q H13 => ∃ acc : List Int, H13 D3 = some (.lst (acc.map V.int)) ∧ acc.Sublist (wl.take q) ∧ Same H12 H13)
              ⟨[], upd_same, by simp, same_upd hD3⟩ (fun q H13 _ ⟨_, _, _, s⟩ => SqT.of (s _ _ (s13 _ _ haw))) ?_ ?_⟩
            · rintro q x H13 hq ⟨acc, hD13, hsub, s14⟩
              obtain ⟨d, hd, rfl⟩ := map_get hq
              refine ⟨rfl, _, rfl, _, rfl, lo', _, rfl, .inl (SqL.of (s14 _ _ hlo')), rfl, flat_ints _, _, rfl, ?_⟩
              refine ite2 (fun c => ?_) (fun c => ?_)
              · have hl4 := hLw.len (by omega)
                have hs4 := hsub.length_le
                have ht4 : (wl.take q).length ≤ wl.length := by rw [List.length_take]; omega
                exact ⟨_, rfl, _, hD13, small1000 (by rw [List.length_map]; omega), acc ++ [d], by rw [upd_same, List.map_append]; rfl, sub_snoc hsub hd, same_at s14 hD3⟩
              · exact ⟨acc, hD13, sub_step hsub, s14⟩
            · rintro H13 ⟨acc, hD13, hsub, s14⟩
              rw [List.length_map, List.take_length] at hsub
              have hLw' : Lot (1 + n0) acc := hLw.sub hsub
              refine ⟨D3, _, rfl, .inl ⟨SqL.of hD13, fun wt hwt => ?_⟩⟩
              have sC : Same H11 (upd H13 wt (.tup (acc.map V.int))) := (s13.trans s14).trans (same_upd hwt)
              have hTwC : TI (upd H13 wt (.tup (acc.map V.int))) (.ref wt) acc := ⟨wt, rfl, upd_same⟩
              revert sC hTwC
              generalize upd H13 wt (.tup (acc.map V.int)) = H14
              intro sC hTwC
              have eC : Ex [a] H' H14 := eB.trans (Ex.same sC)
              have hR14 := hR11.same sC
              have hlr14 := sC _ _ hlr11
              have hZ14 := hZ11.mono (R' := TI H14) fun _ _ k => k.tk (Tk.same sC)
              -- the kind is put in
              have hlk14 := eC _ _ (by simp [nlk]) hlk'
              refine ⟨_, rfl, .inl ⟨rfl, _, SqL.of hlk14⟩, _, rfl, _, rfl, _, rfl, a, sc, 1 + n0, 3, rfl, hR14, (hS.ex hR eH').ex hR' eC, by omega, by omega, by decide, by decide, fun bv2 H15 bl e15 hR15 hTIb hLb => ?_⟩
              have hlr15 := e15 _ _ (by simp [nlr]) hlr14
              refine ⟨_, rfl, lr, zs, rfl, .inl ⟨SqL.of hlr15, fun rt hrt => ⟨by show 3 ≤ sizeLine; exact small_line (by omega), fun kt hkt => ?_⟩⟩⟩
              have s16 : Same H15 (upd (upd H15 rt (.tup zs)) kt (.tup [.ref wt, bv2, .ref rt])) := (same_upd hrt).trans (same_upd hkt)
              have hlk16 := s16 _ _ (e15 _ _ (by simp [nlk]) hlk14)
              have tk16 := tk_lst (o := .lst (ys ++ [.ref kt])) hlk16
              have tk14 := ((hR14.tk e15).trans (Tk.same s16)).trans tk16
              have tkF := (hR'.tk eC).trans tk14
              refine ⟨lk, ys, _, rfl, rfl, hlk16, small1000 (by rw [hK'.len, hklen]; omega), ?_⟩
              have hk16 : KindAt (upd (upd (upd H15 rt (.tup zs)) kt (.tup [.ref wt, bv2, .ref rt])) lk (.lst (ys ++ [.ref kt]))) (.ref kt) ⟨acc, bl, rs⟩ :=
                ⟨kt, .ref wt, bv2, .ref rt, rfl, tk16 _ _ upd_same, hTwC.tk tk14, hTIb.tk ((Tk.same s16).trans tk16), ⟨rt, zs, rfl, tk16 _ _ (same_upd hkt _ _ upd_same), hZ14.mono fun _ _ k => k.tk tk14⟩⟩
              have hok16 : KindOk (1 + n0) ls.length ⟨acc, bl, rs⟩ := ⟨hLw', hLb, hrl1, hrl4, fun r hr => ⟨(hrok r hr).l1, (hrok r hr).l3, fun v hv => by rw [hmL]; exact (hrok r hr).vat v hv⟩⟩
              exact ⟨o3', some (.int (0 + i)), some (.ref lr), o8', some (.ref wt), some (.ref lo'), ys ++ [.ref kt], ks ++ [⟨acc, bl, rs⟩], rfl, tkF _ _ how', hA'.mono fun _ _ k => k.tk tkF, upd_same, (hK'.mono fun _ _ k => k.tk tkF).snoc hk16, by simp [hklen], fun k hk => (List.mem_append.mp hk).elim (hkok k) fun m => by rw [List.mem_singleton.mp m]; exact hok16, Ex.new (((eH'.trans eC).trans e15).trans (Ex.same s16)) hlkH, (hR15.same s16).upd nlk⟩
        · have eC := eB
          have hR14 := hR11
          have hlr14 := hlr11
          have hZ14 := hZ11
          have hTwC := hTw11
          have hLw' := hLw
          -- the kind is put in
          have hlk14 := eC _ _ (by simp [nlk]) hlk'
          refine ⟨_, rfl, .inl ⟨rfl, _, SqL.of hlk14⟩, _, rfl, _, rfl, _, rfl, a, sc, 1 + n0, 3, rfl, hR14, (hS.ex hR eH').ex hR' eC, by omega, by omega, by decide, by decide, fun bv2 H15 bl e15 hR15 hTIb hLb => ?_⟩
          have hlr15 := e15 _ _ (by simp [nlr]) hlr14
          refine ⟨_, rfl, lr, zs, rfl, .inl ⟨SqL.of hlr15, fun rt hrt => ⟨by show 3 ≤ sizeLine; exact small_line (by omega), fun kt hkt => ?_⟩⟩⟩
          have s16 : Same H15 (upd (upd H15 rt (.tup zs)) kt (.tup [wv, bv2, .ref rt])) := (same_upd hrt).trans (same_upd hkt)
          have hlk16 := s16 _ _ (e15 _ _ (by simp [nlk]) hlk14)
          have tk16 := tk_lst (o := .lst (ys ++ [.ref kt])) hlk16
          have tk14 := ((hR14.tk e15).trans (Tk.same s16)).trans tk16
          have tkF := (hR'.tk eC).trans tk14
          refine ⟨lk, ys, _, rfl, rfl, hlk16, small1000 (by rw [hK'.len, hklen]; omega), ?_⟩
          have hk16 : KindAt (upd (upd (upd H15 rt (.tup zs)) kt (.tup [wv, bv2, .ref rt])) lk (.lst (ys ++ [.ref kt]))) (.ref kt) ⟨wl, bl, rs⟩ :=
            ⟨kt, wv, bv2, .ref rt, rfl, tk16 _ _ upd_same, hTwC.tk tk14, hTIb.tk ((Tk.same s16).trans tk16), ⟨rt, zs, rfl, tk16 _ _ (same_upd hkt _ _ upd_same), hZ14.mono fun _ _ k => k.tk tk14⟩⟩
          have hok16 : KindOk (1 + n0) ls.length ⟨wl, bl, rs⟩ := ⟨hLw', hLb, hrl1, hrl4, fun r hr => ⟨(hrok r hr).l1, (hrok r hr).l3, fun v hv => by rw [hmL]; exact (hrok r hr).vat v hv⟩⟩
          exact ⟨o3, some (.int (0 + i)), some (.ref lr), o8', some wv, o10, ys ++ [.ref kt], ks ++ [⟨wl, bl, rs⟩], rfl, tkF _ _ how', hA'.mono fun _ _ k => k.tk tkF, upd_same, (hK'.mono fun _ _ k => k.tk tkF).snoc hk16, by simp [hklen], fun k hk => (List.mem_append.mp hk).elim (hkok k) fun m => by rw [List.mem_singleton.mp m]; exact hok16, Ex.new (((eH'.trans eC).trans e15).trans (Ex.same s16)) hlkH, (hR15.same s16).upd nlk⟩
    · rintro σ H' ⟨o3, o6, o7, o8, o9, o10, ys, ks, rfl, how', hA', hlk', hK', hklen, hkok, eH', hR'⟩
      refine ⟨_, rfl, _, rfl, _, rfl, lk, ys, rfl, .inl ⟨SqL.of hlk', fun kt hkt => ⟨by show 3 ≤ sizeLine; exact small_line (by omega), fun wt hwt => ?_⟩⟩⟩
      have s14 : Same H' (upd (upd H' kt (.tup ys)) wt (.tup [.int (1 + n0), .ref ow, .ref kt])) := (same_upd hkt).trans (same_upd hwt)
      have tk := Tk.same s14
      refine q _ _ ⟨1 + n0, ls, ks⟩ (eH'.trans (Ex.same s14)) (hR'.same s14) ⟨wt, .ref ow, .ref kt, rfl, upd_same, ⟨ow, xs, rfl, s14 _ _ how', hA'.mono fun _ _ k => k.tk tk⟩, ⟨kt, ys, rfl, same_upd hwt _ _ upd_same, hK'.mono fun _ _ k => k.tk tk⟩⟩ ⟨by show 1 ≤ 1 + n0; omega, by show 1 + n0 ≤ 4; omega, by show 1 ≤ ls.length; omega, by show ls.length ≤ 4; omega, by show 1 ≤ ks.length; omega, by show ks.length ≤ 3; omega, hL, hkok⟩
end
end Dy
set_option Elab.async false
set_option maxRecDepth 100000
set_option maxHeartbeats 4000000
namespace Dy
open PySem PySem.Spec PyProof.Rows L2 GenW RZ
/-- a pass by the law -/
def spPass : Sp := fun vs H Q _ => ∃ (x y : V) (W : WorksD) (st : List (List Int)) (r : List Int), vs = [x, y] ∧ TT H x st ∧ TI H y r ∧ StandOk W st ∧ W.dyes ≤ 4 ∧ W.vats.length ≤ 4 ∧ RouteOk W.vats.length r ∧
  ∀ (t : Addr) (u v : V) (H' : Hp), Same H H' → H' t = some (.tup [u, v]) → TT H' u (passD r st []).1 → TI H' v (passD r st []).2 → Q (.ref t) H'
/-- a list of ints, not at l -/
def LIx (l : Addr) (H : Hp) (v : V) (ns : List Int) : Prop := ∃ b, v = .ref b ∧ b ≠ l ∧ H b = some (.lst (ns.map V.int))
theorem LIx.same {l : Addr} {H H' : Hp} {v : V} {ns : List Int} (h : LIx l H v ns) (s : Same H H') : LIx l H' v ns := by
  obtain ⟨b, e, n, z⟩ := h
  exact ⟨b, e, n, s _ _ z⟩
theorem LIx.upd {l : Addr} {H : Hp} {v : V} {ns : List Int} {o : HO} (h : LIx l H v ns) : LIx l (upd H l o) v ns := by
  obtain ⟨b, e, n, z⟩ := h
  exact ⟨b, e, n, by rw [upd_ne n]; exact z⟩
section
variable {P : Program} {w : World} {K : PySem.W.Frag} {mg : Str → Option Value} {base : Heap}
abbrev nmP : List Str := ["_law_stand", "_law_route", "_law_traces", "_law_carried", "_law_vat", "_law_lot"]
theorem scPass : FnScope nmP ["_law_stand", "_law_route"] (defScope sPass) := ⟨rfl, rfl, rfl, by decide +kernel, rfl, by decide +kernel, by decide +kernel⟩
theorem ok_pass {f : Addr} {fd : FuncData} (F : Fun K "_law_pass" "_law_pass" sPass f fd) (B : Blt mg) : FnOk P w K mg base CX0 1 f fd ["_law_stand", "_law_route"] spPass := by
  refine F.ok scPass (fun vs H Q E h => ?_) (fun cdv A outer s H vs Q E hr h => ?_)
  · obtain ⟨x, y, W, st, r, rfl, _⟩ := h
    rfl
  · obtain ⟨x, y, W, st, r, rfl, ⟨a, xs, rfl, ha, hx⟩, ⟨b, rfl, hb⟩, hS, hd4, hv4, hR, q⟩ := h
    refine ⟨_, pss_cons (ps_par (i := 2) (j := 3) rfl scPass.nd rfl rfl (by decide) rfl rfl (pa_cons (pe_lc (own := [("_law_lot", 5)]) (g := gName 5) (tt := tYes) rfl scPass.nd (pi_tup (pv 0)) (blkOk_by (N := nmP) (sc := defScope sPass) (by decide +kernel))
          (fun _ _ _ _ _ => pg_name (i := 5) scPass.nd rfl (Or.inl rfl)) (fun _ _ _ _ _ => pts_nil) (te := tCB (fun xs H Q => ∃ p ys, xs = [.ref p] ∧ (SqL K H p ys ∨ SqT K H p ys) ∧ ∀ l, H l = none → Q (.ref l) (upd H l (.lst ys))) (tCons (tVar 5) tNil))
          (fun _ _ _ _ _ => by exact (pe_callTy call_list_of (by rfl) B.list boot_list (pa_cons (pv 5) pa_nil)))) (pa_cons (pe_lst pa_nil) pa_nil)) (by rfl))
      (pss_cons (ps_for PassesOwn.never rfl (pi_tup (pv 1)) (pg_name (i := 4) scPass.nd rfl (Or.inl rfl))
        (pss_cons (ps_set (i := 3) scPass.nd rfl (Or.inl rfl) (pe_callB (cr_sortedSet rfl) (by rfl) B.sorted boot_sorted (pa_cons (pe_callTy (cr_setI rfl) (by rfl) B.set boot_set (pa_cons (pe_op op_cat (pv 3) (pe_ix ix_list (pv 2) (pv 4) (fun _ _ => rfl))) pa_nil)) pa_nil)))
        (pss_one (ps_asg (pe_callTy call_list_of (by rfl) B.list boot_list (pa_cons (pv 3) pa_nil)) (pg_sub (pv 2) (pv 4) set_list)))))
      (pss_one (ps_ret (pe_tup (pa_cons (pe_callTy call_tuple_of (by rfl) B.tuple boot_tuple (pa_cons (pe_lc (own := [("_law_lot", 5)]) (g := gName 5) (tt := tYes) rfl scPass.nd (pi_list (pv 2)) (blkOk_by (N := nmP) (sc := defScope sPass) (by decide +kernel))
          (fun _ _ _ _ _ => pg_name (i := 5) scPass.nd rfl (Or.inl rfl)) (fun _ _ _ _ _ => pts_nil) (te := tCB (fun xs H Q => ∃ p ys, xs = [.ref p] ∧ ((SqL K H p ys ∧ ∀ l, H l = none → Q (.ref l) (upd H l (.tup ys))) ∨ (SqT K H p ys ∧ Q (.ref p) H))) (tCons (tVar 5) tNil))
          (fun _ _ _ _ _ => by exact (pe_callTy call_tuple_of (by rfl) B.tuple boot_tuple (pa_cons (pv 5) pa_nil)))) pa_nil)) (pa_cons (pe_callTy call_tuple_of (by rfl) B.tuple boot_tuple (pa_cons (pv 3) pa_nil)) pa_nil)))))), ?_⟩
    refine ⟨_, rfl, a, rfl, ⟨_, SqT.of ha⟩, fun D hD => lc_tup (K := K) (a := a) (xs := xs) (fun i H' => ∃ ys : List V, H' D = some (.lst ys) ∧ AllAt (LIx D H') ys (st.take i) ∧ Same H H') ⟨[], upd_same, by simpa using AllAt.nil, same_upd hD⟩ (fun i H' _ ⟨_, _, _, s⟩ => SqT.of (s _ _ ha)) ?_ ?_⟩
    · rintro i x H' hi ⟨ys, hDy, hA, s1⟩
      obtain ⟨l, hl, ⟨c, rfl, hc⟩⟩ := hx.back hi
      refine ⟨rfl, _, rfl, c, _, rfl, .inr (SqT.of (s1 _ _ hc)), fun n hn => ?_⟩
      have s2 := same_upd (o := .lst (l.map V.int)) hn
      have hD2 := s2 _ _ hDy
      have nD : n ≠ D := fun z => by rw [z, hDy] at hn; cases hn
      have hlen : ys.length ≤ st.length := by rw [hA.len, List.length_take]; omega
      have hsl := hS.len
      refine ⟨ys, hD2, small1000 (by omega), ys ++ [.ref n], upd_same, ?_, same_at (s1.trans s2) hD⟩
      rw [take_snoc hl]
      exact ((hA.mono fun _ _ k => k.same s2).mono fun _ _ k => LIx.upd k).snoc (LIx.upd ⟨n, rfl, nD, upd_same⟩)
    rintro H1 ⟨ys, hDy, hA, s1⟩
    rw [hx.len, List.take_length] at hA
    refine ⟨by show 0 ≤ sizeLine; omega, fun cl hcl => ⟨_, _, rfl, ?_⟩⟩
    have ncD : cl ≠ D := fun z => by rw [z, hDy] at hcl; cases hcl
    have s2 := same_upd (o := .lst []) hcl
    refine ⟨_, rfl, b, rfl, ⟨_, SqT.of ((s1.trans s2) _ _ hb)⟩, for_tup (K := K) (a := b) (xs := r.map V.int) (fun i σ H' => ∃ (ys : List V) (cv : V) (o : Option V), σ = [some (.ref a), some (.ref b), some (.ref D), some cv, o, none] ∧
        Same H H' ∧ H' D = some (.lst ys) ∧ AllAt (LIx D H') ys (passD (r.take i) st []).1 ∧ LIx D H' cv (passD (r.take i) st []).2)
      ⟨ys, .ref cl, none, rfl, s1.trans s2, s2 _ _ hDy, hA.mono fun _ _ k => k.same s2, ⟨cl, rfl, ncD, upd_same⟩⟩ (fun i σ H' _ ⟨_, _, _, _, s, _⟩ => SqT.of (s _ _ hb)) ?_ ?_⟩
    · rintro i x σ H' hi ⟨ys, cv, o, rfl, s3, hD3, hA3, ⟨c, rfl, nc, hc⟩⟩
      obtain ⟨v, hv, rfl⟩ := map_get hi
      have hvb := hR.vat v (List.mem_of_getElem? hv)
      obtain ⟨hS1, hL1⟩ := pass_ok (w := W) (r := r.take i) hS (Lot.nil _) fun z hz => hR.vat z (List.mem_of_mem_take hz)
      have hvl : v.toNat < (passD (r.take i) st []).1.length := by rw [hS1.len]; omega
      obtain ⟨e, he, ⟨eb, rfl, neb, heb⟩⟩ := hA3.at_ v.toNat _ (getD_get hvl)
      have hle := (hS1.lot _ (getD_mem (d := []) hvl)).len hd4
      have hlc := hL1.len hd4
      refine ⟨_, rfl, _, rfl, _, rfl, D, ys, v, _, rfl, rfl, SqL.of hD3, atI_of hvb.1 he, ?_⟩
      refine ⟨c, eb, _, _, rfl, rfl, hc, heb, by simp only [List.length_map]; exact small_line (by omega), fun p hp => ?_⟩
      refine ⟨p, (passD (r.take i) st []).2 ++ (passD (r.take i) st []).1.getD v.toNat [], rfl, .inl (SqL.of (by rw [upd_same, List.map_append])), by unfold scanBound; rw [List.length_append]; omega, fun ps n hn hps => ?_⟩
      refine ⟨ps, _, n, rfl, upd_same, by rw [List.length_append] at hn; omega, fun ks p2 asc mem len hp2 => ?_⟩
      have ek : ks = uni ((passD (r.take i) st []).2 ++ (passD (r.take i) st []).1.getD v.toNat []) := uni_of asc fun k => (mem k).trans (by simp)
      refine ⟨_, rfl, p2, _, rfl, .inl (SqL.of upd_same), fun l2 hl2 => ?_⟩
      generalize hG : upd (upd (upd H' p (.lst (List.map V.int (passD (r.take i) st []).2 ++ List.map V.int ((passD (r.take i) st []).1.getD v.toNat [])))) ps _) p2 (.lst (ks.map V.int)) = G at hl2 ⊢
      have s4 : Same H' G := by
        rw [← hG]
        exact ((same_upd hp).trans (same_upd hps)).trans (same_upd hp2)
      have hp2G : G p2 = some (.lst (ks.map V.int)) := by rw [← hG]; exact upd_same
      have s5 := same_upd (o := .lst (ks.map V.int)) hl2
      have hD5 := s5 _ _ (s4 _ _ hD3)
      have n2 : p2 ≠ D := fun z => by
        have : (upd (upd H' p (.lst (List.map V.int (passD (r.take i) st []).2 ++ List.map V.int ((passD (r.take i) st []).1.getD v.toNat [])))) ps (SetO w ps (fun j => decide (j ∈ (passD (r.take i) st []).2 ++ (passD (r.take i) st []).1.getD v.toNat [])) n)) D = some (.lst ys) := same_upd hps _ _ (same_upd hp _ _ hD3)
        rw [z] at hp2
        have z2 : some (HO.lst ys) = none := this.symm.trans hp2
        cases z2
      have n3 : l2 ≠ D := fun z => by rw [z, s4 _ _ hD3] at hl2; cases hl2
      refine ⟨_, rfl, _, rfl, D, ys, v, v.toNat, rfl, rfl, hD5, ixN_of (by rw [hA3.len, hS1.len]; exact hvb), ?_⟩
      refine ⟨ys.set v.toNat (.ref l2), .ref p2, _, rfl, same_at ((s3.trans s4).trans s5) hD, upd_same, ?_, ?_⟩
      · rw [take_snoc hv, passD_snoc]
        refine (((hA3.mono fun _ _ k => k.same (s4.trans s5)).mono fun _ _ k => LIx.upd k).set v.toNat (a := uni ((passD (r.take i) st []).2 ++ (passD (r.take i) st []).1.getD v.toNat [])) (LIx.upd ⟨l2, rfl, n3, ?_⟩))
        rw [← ek]
        exact upd_same
      · rw [take_snoc hv, passD_snoc]
        refine LIx.upd ⟨p2, rfl, n2, ?_⟩
        show _ = some (HO.lst ((uni _).map V.int))
        rw [← ek]
        exact s5 _ _ hp2G
    · rintro σ H' ⟨ys, cv, o, rfl, s3, hD3, hA3, ⟨c, rfl, nc, hc⟩⟩
      rw [List.length_map, List.take_length] at hA3 hc
      obtain ⟨hS1, hL1⟩ := pass_ok (w := W) (r := r) hS (Lot.nil _) fun z hz => hR.vat z hz
      refine ⟨_, rfl, D, rfl, ⟨_, SqL.of hD3⟩, fun D2 hD2 => lc_list (K := K) (a := D) (xs := ys) (fun i H4 => ∃ zs : List V, H4 D2 = some (.lst zs) ∧ AllAt (TI H4) zs ((passD r st []).1.take i) ∧ Same H' H4) ⟨[], upd_same, by simpa using AllAt.nil, same_upd hD2⟩ (fun i H4 _ ⟨_, _, _, s⟩ => SqL.of (s _ _ hD3)) ?_ ?_⟩
      · rintro i x H4 hi ⟨zs, hDz, hB, s4⟩
        obtain ⟨l, hl, ⟨eb, rfl, neb, heb⟩⟩ := hA3.back hi
        refine ⟨rfl, _, rfl, eb, _, rfl, .inl ⟨SqL.of (s4 _ _ heb), fun n hn => ?_⟩⟩
        have s5 := same_upd (o := .tup (l.map V.int)) hn
        have hD5 := s5 _ _ hDz
        have tk := tk_lst (o := .lst (zs ++ [.ref n])) hD5
        have hlen : zs.length ≤ (passD r st []).1.length := by rw [hB.len, List.length_take]; omega
        have hsl := hS1.len
        refine ⟨zs, hD5, small1000 (by omega), zs ++ [.ref n], upd_same, ?_, same_at (s4.trans s5) hD2⟩
        rw [take_snoc hl]
        exact ((hB.mono fun _ _ k => k.tk (Tk.same s5)).mono fun _ _ k => k.tk tk).snoc ⟨n, rfl, tk _ _ upd_same⟩
      · rintro H4 ⟨zs, hDz, hB, s4⟩
        rw [hA3.len, List.take_length] at hB
        refine ⟨D2, zs, rfl, .inl ⟨SqL.of hDz, fun u hu => ?_⟩⟩
        have s5 := same_upd (o := .tup zs) hu
        refine ⟨_, rfl, c, _, rfl, .inl ⟨SqL.of (s5 _ _ (s4 _ _ hc)), fun v hv => ⟨by show 2 ≤ sizeLine; exact small_line (by omega), fun t ht => ?_⟩⟩⟩
        have s6 := (same_upd (o := .tup ((passD r st []).2.map V.int)) hv)
        have s7 := (same_upd (o := .tup [.ref u, .ref v]) ht)
        have s57 := (s5.trans s6).trans s7
        exact q t (.ref u) (.ref v) _ ((s3.trans s4).trans s57) upd_same ⟨u, zs, rfl, s7 _ _ (s6 _ _ upd_same), hB.mono fun _ _ k => k.tk (Tk.same s57)⟩ ⟨v, rfl, s7 _ _ upd_same⟩
end
end Dy
set_option Elab.async false
set_option maxRecDepth 100000
set_option maxHeartbeats 4000000
namespace Dy
open PySem PySem.Spec PyProof.Rows L2 GenW RZ
/-- the law's own verdict -/
def spGood : Sp := fun vs H Q _ => ∃ (x y : V) (k n : Int) (W : WorksD) (st : List (List Int)) (kd : KindD) (r : List Int), vs = [x, y, .int k, .int n] ∧ WorksAt H x W ∧ WorksOk W ∧ TT H y st ∧ StandOk W st ∧
  0 ≤ k ∧ W.kinds[k.toNat]? = some kd ∧ 0 ≤ n ∧ kd.routes[n.toNat]? = some r ∧ ∀ H', Same H H' → Q (.bl (goodD W kd r st)) H'
theorem dp_ints {K : PySem.W.Frag} {H : Hp} : ∀ ns : List Int, DpAll K H (ns.map V.int) (ns.map PyData.int)
  | [] => .nil
  | n :: ns => .cons (.int n) (dp_ints ns)
theorem lay_ints : ∀ ns : List Int, PyData.canLayAll0 (ns.map PyData.int) = true
  | [] => rfl
  | n :: ns => by
    show (PyData.canLay0 (.int n) && PyData.canLayAll0 (ns.map PyData.int)) = true
    rw [lay_ints ns]
    rfl
theorem depthAll_ints : ∀ ns : List Int, PyData.depthAll (ns.map PyData.int) ≤ 1
  | [] => by simp [PyData.depthAll]
  | n :: ns => by
    have := depthAll_ints ns
    simp only [List.map_cons, PyData.depthAll, PyData.depth]
    omega
theorem shaped_ints (ns : List Int) : SeqAt.shaped (.list (ns.map PyData.int)) = true := by
  unfold SeqAt.shaped
  have h2 : PyData.depth (.list (ns.map PyData.int)) ≤ 64 := by
    have := depthAll_ints ns
    simp only [PyData.depth]
    omega
  have h1 : PyData.canLay0 (.list (ns.map PyData.int)) = true := lay_ints ns
  rw [h1, decide_eq_true h2]
  rfl
theorem eqv_nil (ds : List PyData) : PyData.eqv (.list ds) (.list []) = decide (ds = []) := by
  cases ds with
  | nil => rfl
  | cons d ds => rfl
theorem filter_snoc {l : List Int} {i : Nat} {x : Int} {p : Int → Bool} (h : l[i]? = some x) : (l.take (i + 1)).filter p = (l.take i).filter p ++ (if p x = true then [x] else []) := by
  rw [take_snoc h, List.filter_append]
  congr 1
  simp [List.filter_cons]
section
variable {P : Program} {w : World} {K : PySem.W.Frag} {mg : Str → Option Value} {base : Heap}
abbrev nmG : List Str := ["_law_works_here", "_law_stand", "_law_kind", "_law_number", "_law_wants", "_law_bars", "_law_routes", "_law_owns", "_law_vat", "_law_carried", "_law_dye"]
theorem scGood : FnScope nmG ["_law_works_here", "_law_stand", "_law_kind", "_law_number"] (defScope sGood) := ⟨rfl, rfl, rfl, by decide +kernel, rfl, by decide +kernel, by decide +kernel⟩
theorem ok_good {f f1 : Addr} {fd fd1 : FuncData} (F : Fun K "_law_good" "_law_good" sGood f fd) (B : Blt mg) (D1 : Dn K mg "_law_pass" sPass ["_law_stand", "_law_route"] f1 fd1) : FnOk P w K mg base CX0 2 f fd ["_law_works_here", "_law_stand", "_law_kind", "_law_number"] spGood := by
  have G1 : FnOk P w K mg base CX0 1 f1 fd1 ["_law_stand", "_law_route"] spPass := ok_pass D1.F B
  refine F.ok scGood (fun vs H Q E h => ?_) (fun cdv A outer s H vs Q E hr h => ?_)
  · obtain ⟨x, y, k, n, W, st, kd, r, rfl, _⟩ := h
    rfl
  · obtain ⟨x, y, k, n, W, st, kd, r, rfl, hWA, hW, hTT, hS, hk0, hk, hn0, hn, q⟩ := h
    have hu : (A.deeper (envOfC "_law_good" (defScope sGood) s.heap.objs.size f cdv)).units + 64 < cLine := hr.units
    refine ⟨_, pss_cons (ps_asg (pe_ix ix_tup (pe_ix ix_tup (pv 0) pe_int (fun _ _ => rfl)) (pv 2) (fun _ _ => rfl)) (pg_tup (by rfl) (pgs_cons (pg_name (i := 4) scGood.nd rfl (Or.inl rfl)) (pgs_cons (pg_name (i := 5) scGood.nd rfl (Or.inr rfl)) (pgs_cons (pg_name (i := 6) scGood.nd rfl (Or.inl rfl)) pgs_nil)))))
      (pss_cons (ps_set (i := 7) scGood.nd rfl (Or.inr rfl) (pe_lst pa_nil))
      (pss_cons (ps_for PassesOwn.never rfl (pi_tup (pe_ix ix_tup (pv 6) (pv 3) (fun _ _ => rfl))) (pg_name (i := 8) scGood.nd rfl (Or.inl rfl))
        (pss_one (ps_set (i := 7) scGood.nd rfl (Or.inr rfl) (pe_op op_cat (pv 7) (pe_callTy call_list_of (by rfl) B.list boot_list (pa_cons (pe_ix ix_tup (pe_ix ix_tup (pv 0) pe_int (fun _ _ => rfl)) (pv 8) (fun _ _ => rfl)) pa_nil))))))
      (pss_cons (ps_set (i := 9) scGood.nd rfl (Or.inl rfl) (pe_ix ix_tup (pe_call G1 hr (by rfl) D1.g D1.F.kp D1.b .nil pass0 (pa_cons (pv 1) (pa_cons (pe_ix ix_tup (pv 6) (pv 3) (fun _ _ => rfl)) pa_nil))) pe_int (fun _ _ => rfl)))
      (pss_one (ps_ret (pe_cmpR (op_eqD hu) (pe_op op_cat
        (pe_lc (own := [("_law_dye", 10)]) (g := gName 10) (tt := tTest (tOp (rIn K true) (tVar 10) (tVar 7))) rfl scGood.nd (pi_tup (pv 4)) (blkOk_by (N := nmG) (sc := defScope sGood) (by decide +kernel)) (fun _ _ _ _ _ => pg_name (i := 10) scGood.nd rfl (Or.inl rfl))
          (fun _ _ _ _ _ => by exact (pts_one (pt_cmpR op_notIn_seq (pv 10) (pv 7) (by rfl)))) (fun _ _ _ _ _ => pv 10))
        (pe_lc (own := [("_law_dye", 10)]) (g := gName 10) (tt := tTest (tOp (rIn K false) (tVar 10) (tVar 5))) rfl scGood.nd (pi_tup (pv 9)) (blkOk_by (N := nmG) (sc := defScope sGood) (by decide +kernel)) (fun _ _ _ _ _ => pg_name (i := 10) scGood.nd rfl (Or.inl rfl))
          (fun _ _ _ _ _ => by exact (pts_one (pt_cmpR op_in_seq (pv 10) (pv 5) (by rfl)))) (fun _ _ _ _ _ => pv 10))) (pe_lst pa_nil) (nomark _))))))), ?_⟩
    obtain ⟨a, v2, v3, rfl, ha, ⟨a2, xs2, rfl, ha2, hx2⟩, ⟨a3, xs3, rfl, ha3, hx3⟩⟩ := id hWA
    obtain ⟨xk, hxk, ak, k1, k2, k3, rfl, hak, ⟨aw, rfl, haw⟩, ⟨ab, rfl, hab⟩, ⟨a5, xs5, rfl, ha5, hx5⟩⟩ := hx3.at_ _ _ hk
    obtain ⟨xr, hxr, ⟨ar, rfl, har⟩⟩ := hx5.at_ _ _ hn
    have hkk := hW.kind kd (List.mem_of_getElem? hk)
    obtain ⟨r1, r2, r3⟩ := hkk.route r (List.mem_of_getElem? hn)
    refine ⟨_, rfl, _, _, _, _, rfl, rfl, SqT.of ha, rfl, _, rfl, _, _, _, _, rfl, rfl, SqT.of ha3, atI_of hk0 hxk, ?_⟩
    refine ⟨ak, _, rfl, SqT.of hak, rfl, _, _, rfl, _, _, rfl, _, _, rfl, rfl, ?_⟩
    refine ⟨by show 0 ≤ sizeLine; omega, fun lo hlo => ?_⟩
    have s1 := same_upd (o := .lst []) hlo
    refine ⟨_, rfl, _, rfl, _, _, _, _, rfl, rfl, SqT.of (s1 _ _ ha5), atI_of hn0 hxr, ar, rfl, ⟨_, SqT.of (s1 _ _ har)⟩, for_tup (K := K) (a := ar) (xs := r.map V.int) (fun i σ H' => ∃ (lo : Addr) (o : Option V),
        σ = [some (.ref a), some y, some (.int k), some (.int n), some (.ref aw), some (.ref ab), some (.ref a5), some (.ref lo), o, none, none] ∧ Same H H' ∧ H' lo = some (.lst ((ownsD W.vats (r.take i)).map V.int)) ∧ (ownsD W.vats (r.take i)).length ≤ 4 * i)
      ⟨lo, none, rfl, s1, upd_same, by simp [ownsD]⟩ (fun i σ H' _ ⟨_, _, _, s, _⟩ => SqT.of (s _ _ har)) ?_ ?_⟩
    · rintro i x σ H' hi ⟨lo, o, rfl, s2, hlo2, hl2⟩
      obtain ⟨v, hv, rfl⟩ := map_get hi
      have hi3 : i < r.length := (List.getElem?_eq_some_iff.mp hv).1
      have hvb := r3 v (List.mem_of_getElem? hv)
      have hvl : v.toNat < W.vats.length := by omega
      obtain ⟨e, he, ae, rfl, hae⟩ := hx2.at_ v.toNat _ (getD_get hvl)
      have hle := (hW.vat _ (getD_mem (d := []) hvl)).len hW.d4
      have eO : ownsD W.vats (r.take (i + 1)) = ownsD W.vats (r.take i) ++ W.vats.getD v.toNat [] := by
        unfold ownsD
        rw [take_snoc hv, List.flatMap_append]
        simp
      refine ⟨_, rfl, _, rfl, _, _, _, _, rfl, rfl, SqT.of (s2 _ _ ha), rfl, _, rfl, _, _, _, _, rfl, rfl, SqT.of (s2 _ _ ha2), atI_of hvb.1 he, ae, _, rfl, .inr (SqT.of (s2 _ _ hae)), fun l hl => ?_⟩
      refine ⟨lo, l, _, _, rfl, rfl, same_upd hl _ _ hlo2, upd_same, by simp only [List.length_map]; exact small_line (by omega), fun p hp => ?_⟩
      refine ⟨p, _, rfl, (s2.trans (same_upd hl)).trans (same_upd hp), by rw [upd_same, eO, List.map_append], by rw [eO, List.length_append]; omega⟩
    · rintro σ H' ⟨lo, o, rfl, s2, hlo2, hl2⟩
      rw [List.length_map, List.take_length] at hlo2 hl2
      refine ⟨_, rfl, _, rfl, _, rfl, _, _, _, _, rfl, rfl, SqT.of (s2 _ _ ha5), atI_of hn0 hxr, y, _, W, st, r, rfl, hTT.tk (Tk.same s2), ⟨ar, rfl, s2 _ _ har⟩, hS, hW.d4, hW.v4, ⟨r1, r2, r3⟩, fun t u v H2 s3 ht hu2 hv2 => ?_⟩
      refine ⟨t, _, 1, v, rfl, rfl, SqT.of ht, rfl, ?_⟩
      obtain ⟨cv, rfl, hcv⟩ := hv2
      have s23 := s2.trans s3
      have hSp := pass_ok (w := W) (r := r) hS (Lot.nil _) fun z hz => r3 z hz
      have hlw := hkk.wants.len hW.d4
      have hlc := hSp.2.len hW.d4
      -- the two lists
      refine ⟨_, rfl, aw, rfl, ⟨_, SqT.of (s23 _ _ haw)⟩, fun D hD => lc_tup (K := K) (a := aw) (xs := kd.wants.map V.int) (fun i H3 => H3 D = some (.lst (((kd.wants.take i).filter fun d => !decide (d ∈ ownsD W.vats r)).map V.int)) ∧ Same H2 H3)
        ⟨upd_same, same_upd hD⟩ (fun i H3 _ e => SqT.of (e.2 _ _ (s23 _ _ haw))) ?_ ?_⟩
      · rintro i x H3 hi ⟨hD3, s4⟩
        obtain ⟨d, hd, rfl⟩ := map_get hi
        refine ⟨rfl, _, rfl, _, rfl, lo, _, rfl, .inl (SqL.of (s4 _ _ (s3 _ _ hlo2))), rfl, flat_ints _, _, rfl, ?_⟩
        have ef := filter_snoc (p := fun d => !decide (d ∈ ownsD W.vats r)) hd
        have hlen : ((kd.wants.take i).filter fun d => !decide (d ∈ ownsD W.vats r)).length ≤ 4 := Nat.le_trans (List.length_filter_le _ _) (by rw [List.length_take]; omega)
        refine ite2 (fun c => ?_) (fun c => ?_)
        · have c : (!inV (.int d) ((ownsD W.vats r).map V.int)) = true := c
          rw [inV_ints] at c
          rw [if_pos c] at ef
          exact ⟨_, rfl, _, hD3, small1000 (by rw [List.length_map]; omega), by rw [upd_same, ef, List.map_append]; rfl, same_at s4 hD⟩
        · have c : ¬ (!inV (.int d) ((ownsD W.vats r).map V.int)) = true := c
          rw [inV_ints] at c
          rw [if_neg c, List.append_nil] at ef
          rw [ef]
          exact ⟨hD3, s4⟩
      · rintro H3 ⟨hD3, s4⟩
        rw [List.length_map, List.take_length] at hD3
        have s24 := s3.trans s4
        refine ⟨_, rfl, cv, rfl, ⟨_, SqT.of (s4 _ _ hcv)⟩, fun D2 hD2 => lc_tup (K := K) (a := cv) (xs := (passD r st []).2.map V.int) (fun i H4 => H4 D2 = some (.lst ((((passD r st []).2.take i).filter fun d => decide (d ∈ kd.bars)).map V.int)) ∧ Same H3 H4)
          ⟨upd_same, same_upd hD2⟩ (fun i H4 _ e => SqT.of (e.2 _ _ (s4 _ _ hcv))) ?_ ?_⟩
        · rintro i x H4 hi ⟨hD4, s5⟩
          obtain ⟨d, hd, rfl⟩ := map_get hi
          refine ⟨rfl, _, rfl, _, rfl, ab, _, rfl, .inr (SqT.of (s5 _ _ (s4 _ _ (s23 _ _ hab)))), rfl, flat_ints _, _, rfl, ?_⟩
          have ef := filter_snoc (p := fun d => decide (d ∈ kd.bars)) hd
          have hlen : (((passD r st []).2.take i).filter fun d => decide (d ∈ kd.bars)).length ≤ 4 := Nat.le_trans (List.length_filter_le _ _) (by rw [List.length_take]; omega)
          refine ite2 (fun c => ?_) (fun c => ?_)
          · have c : (inV (.int d) (kd.bars.map V.int)) = true := c
            rw [inV_ints] at c
            rw [if_pos c] at ef
            exact ⟨_, rfl, _, hD4, small1000 (by rw [List.length_map]; omega), by rw [upd_same, ef, List.map_append]; rfl, same_at s5 hD2⟩
          · have c : ¬ (inV (.int d) (kd.bars.map V.int)) = true := c
            rw [inV_ints] at c
            rw [if_neg c, List.append_nil] at ef
            rw [ef]
            exact ⟨hD4, s5⟩
        · rintro H4 ⟨hD4, s5⟩
          rw [List.length_map, List.take_length] at hD4
          have l1 : (kd.wants.filter fun d => !decide (d ∈ ownsD W.vats r)).length ≤ 4 := Nat.le_trans (List.length_filter_le _ _) hlw
          have l2 : ((passD r st []).2.filter fun d => decide (d ∈ kd.bars)).length ≤ 4 := Nat.le_trans (List.length_filter_le _ _) hlc
          refine ⟨D, D2, _, _, rfl, rfl, s5 _ _ hD3, hD4, by simp only [List.length_map]; exact small_line (by omega), fun p hp => ⟨by show 0 ≤ sizeLine; omega, fun p2 hp2 => ?_⟩⟩
          have s6 := (same_upd (o := .lst ((kd.wants.filter fun d => !decide (d ∈ ownsD W.vats r)).map V.int ++ ((passD r st []).2.filter fun d => decide (d ∈ kd.bars)).map V.int)) hp)
          have s7 := same_upd (o := .lst []) hp2
          refine ⟨.list ((badD W.vats kd r (passD r st []).2).map PyData.int), .list [], .lst (SqL.of (xs := (badD W.vats kd r (passD r st []).2).map V.int) ?_) (dp_ints _), .lst (SqL.of upd_same) .nil, shaped_ints _, shaped_ints [], ?_⟩
          · rw [s7 _ _ upd_same]
            unfold badD
            rw [List.map_append]
          · have e : PyData.eqv (.list ((badD W.vats kd r (passD r st []).2).map PyData.int)) (.list []) = goodD W kd r st := by
              rw [eqv_nil]
              have z := good_eq W.vats kd r (passD r st []).2
              unfold goodD
              rw [← z]
              simp
            rw [e]
            exact q _ ((((s23.trans s4).trans s5).trans s6).trans s7)
end
end Dy
set_option Elab.async false
set_option maxRecDepth 100000
set_option maxHeartbeats 4000000
namespace Dy
open PySem PySem.Spec PyProof.Rows L2 GenW RZ
/-- two flat values alike -/
inductive FlatA : V → V → Prop where
  | bl (b : Bool) : FlatA (.bl b) (.bl b)
  | int (i : Int) : FlatA (.int i) (.int i)
  | str (s : Str) : FlatA (.str s) (.str s)
/-- two data alike, of depth n -/
def AD : Nat → Hp → V → V → Prop
  | 0, _, x, y => FlatA x y
  | n + 1, H, x, y => FlatA x y ∨ ∃ (a b : Addr) (xs ys : List V), x = .ref a ∧ y = .ref b ∧ ((H a = some (.tup xs) ∧ H b = some (.tup ys)) ∨ (H a = some (.lst xs) ∧ H b = some (.lst ys))) ∧ xs.length = ys.length ∧ ys.length ≤ 1000 ∧
      ∀ (i : Nat) (u v : V), xs[i]? = some u → ys[i]? = some v → AD n H u v
theorem AD.flat {n : Nat} {H : Hp} {x y : V} (h : FlatA x y) : AD n H x y := by
  cases n with
  | zero => exact h
  | succ n => exact .inl h
theorem AD.same : ∀ {n : Nat} {H H' : Hp} {x y : V}, AD n H x y → Same H H' → AD n H' x y
  | 0, _, _, _, _, h, _ => h
  | n + 1, H, H', x, y, h, s => by
    rcases h with h | ⟨a, b, xs, ys, e1, e2, h, l1, l2, k⟩
    · exact .inl h
    · refine .inr ⟨a, b, xs, ys, e1, e2, ?_, l1, l2, fun i u v h1 h2 => (k i u v h1 h2).same s⟩
      rcases h with ⟨h1, h2⟩ | ⟨h1, h2⟩
      · exact .inl ⟨s _ _ h1, s _ _ h2⟩
      · exact .inr ⟨s _ _ h1, s _ _ h2⟩
def spAlike (n : Nat) : Sp := fun vs H Q _ => ∃ (x y : V), vs = [x, y] ∧ AD n H x y ∧ ∀ H', Same H H' → Q (.bl true) H'
theorem kitTL {K : PySem.W.Frag} {t : String} {b1 b2 r : Bool} (h1 : kitB t "tuple" = some b1) (h2 : kitB t "list" = some b2) (e : r = (b1 || b2)) : PySem.W.kitAny K (.type t) [.type "tuple", .type "list"] = some r := by
  subst e
  refine kitAny_cons (kit_ty h1) (fun e => ?_) (fun e => by rw [e]; rfl)
  subst e
  refine kitAny_cons (kit_ty h2) (fun e => ?_) (fun e => by rw [e]; rfl)
  subst e
  exact kitAny_nil
theorem pcTL : Paired ClsV [V.ty "tuple", V.ty "list"] [Value.type "tuple", Value.type "list"] := .cons (.ty _) (.cons (.ty _) .nil)
section
variable {P : Program} {w : World} {K : PySem.W.Frag} {mg : Str → Option Value} {base : Heap}
abbrev nmA : List Str := ["_law_found", "_law_due", "_law_k"]
theorem scAlike : FnScope nmA ["_law_found", "_law_due"] (defScope sAlike) := ⟨rfl, rfl, rfl, by decide +kernel, rfl, by decide +kernel, by decide +kernel⟩
theorem shaped_nil : SeqAt.shaped (.list []) = true := shaped_ints []
theorem ok_alike1 {f : Addr} {fd : FuncData} (D0 : Dn K mg "_law_alike" sAlike ["_law_found", "_law_due"] f fd) (B : Blt mg) (k : Nat) (sp0 : Sp) (G0 : FnOk P w K mg base CX0 k f fd ["_law_found", "_law_due"] sp0) (spX : Sp)
    (hX : ∀ vs H Q E, spX vs H Q E → ∃ (x y : V), vs = [x, y] ∧ (∀ H', Same H H' → Q (.bl true) H') ∧ (FlatA x y ∨ ∃ (a b : Addr) (xs ys : List V), x = .ref a ∧ y = .ref b ∧ ((H a = some (.tup xs) ∧ H b = some (.tup ys)) ∨ (H a = some (.lst xs) ∧ H b = some (.lst ys))) ∧ xs.length = ys.length ∧ ys.length ≤ 1000 ∧
      ∀ (i : Nat) (u v : V) (H1 : Hp), Same H H1 → xs[i]? = some u → ys[i]? = some v → ∀ Q1 : VK, (∀ H', Same H1 H' → Q1 (.bl true) H') → sp0 [u, v] H1 Q1 E0)) :
    FnOk P w K mg base CX0 (k + 1) f fd ["_law_found", "_law_due"] spX := by
  refine D0.F.ok scAlike (fun vs H Q E h => ?_) (fun cdv A outer s H vs Q E hr h => ?_)
  · obtain ⟨x, y, rfl, _⟩ := hX _ _ _ _ h
    rfl
  · obtain ⟨x, y, rfl, q, h⟩ := hX _ _ _ _ h
    have hu : (A.deeper (envOfC "_law_alike" (defScope sAlike) s.heap.objs.size f cdv)).units + 64 < cLine := hr.units
    refine ⟨_, pss_cons (ps_if (pt_val (pe_callB call_isiT (by rfl) B.isi boot_isinstance (pa_cons (pv 1) (pa_cons (pe_tup (pa_cons (pe_bltn (v := .ty "tuple") (by rfl) B.tuple boot_tuple rfl) (pa_cons (pe_bltn (v := .ty "list") (by rfl) B.list boot_list rfl) pa_nil))) pa_nil))))
        (pss_cons (ps_if (PW.pt (pw_or (pt_not (pt_val (pe_callB call_isiT (by rfl) B.isi boot_isinstance (pa_cons (pv 0) (pa_cons (pe_tup (pa_cons (pe_bltn (v := .ty "tuple") (by rfl) B.tuple boot_tuple rfl) (pa_cons (pe_bltn (v := .ty "list") (by rfl) B.list boot_list rfl) pa_nil))) pa_nil)))))
          (pw_or1 (pt_cmpR op_ne (pe_callB call_isi (by rfl) B.isi boot_isinstance (pa_cons (pv 0) (pa_cons (pe_bltn (v := .ty "list") (by rfl) B.list boot_list rfl) pa_nil))) (pe_callB call_isi (by rfl) B.isi boot_isinstance (pa_cons (pv 1) (pa_cons (pe_bltn (v := .ty "list") (by rfl) B.list boot_list rfl) pa_nil))) (nomark _)))))
          (pss_one (ps_ret pe_bl)) pss_nil)
        (pss_cons (ps_if (pt_cmpR op_ne (pe_callB call_len_seq (by rfl) B.len PySem.boot_len (pa_cons (pv 0) pa_nil)) (pe_callB call_len_seq (by rfl) B.len PySem.boot_len (pa_cons (pv 1) pa_nil)) (nomark _)) (pss_one (ps_ret pe_bl)) pss_nil)
        (pss_one (ps_ret (pe_cmpR (op_eqD hu) (pe_lc (own := [("_law_k", 2)]) (g := gName 2) (tt := tNot (tB (tCall sp0 [] E0 (tCons (tOp (rIx K) (tVar 0) (tVar 2)) (tCons (tOp (rIx K) (tVar 1) (tVar 2)) tNil))))) rfl scAlike.nd
          (pi_range1 (by rfl) B.range (pa_cons (pe_callB call_len_seq (by rfl) B.len PySem.boot_len (pa_cons (pv 1) pa_nil)) pa_nil)) (blkOk_by (N := nmA) (sc := defScope sAlike) (by decide +kernel)) (fun _ _ _ _ _ => pg_name (i := 2) scAlike.nd rfl (Or.inl rfl))
          (fun _ _ _ _ _ => by exact (pts_one (pt_not (pt_val (pe_call G0 hr (by rfl) D0.g D0.F.kp D0.b .nil pass0 (pa_cons (pe_ix ix_seq (pv 0) (pv 2) (fun _ _ => rfl)) (pa_cons (pe_ix ix_seq (pv 1) (pv 2) (fun _ _ => rfl)) pa_nil))))))) (fun _ _ _ _ _ => pv 2)) (pe_lst pa_nil) (nomark _))))))
        pss_nil)
      (pss_cons (ps_if (PW.pt (pw_or (pt_cmpR op_isN (pv 1) pe_non (nomark _)) (pw_or1 (pt_val (pe_callB call_isi (by rfl) B.isi boot_isinstance (pa_cons (pv 1) (pa_cons (pe_bltn (v := .ty "str") (by rfl) B.str boot_str rfl) pa_nil)))))))
        (pss_one (ps_ret (pe_and (pe_cmpR op_eq (pv 0) (pv 1) (nomark _)) (pe_one (pe_cmpR op_eq (pe_callB call_isi (by rfl) B.isi boot_isinstance (pa_cons (pv 0) (pa_cons (pe_bltn (v := .ty "str") (by rfl) B.str boot_str rfl) pa_nil))) (pe_callB call_isi (by rfl) B.isi boot_isinstance (pa_cons (pv 1) (pa_cons (pe_bltn (v := .ty "str") (by rfl) B.str boot_str rfl) pa_nil))) (nomark _)))))) pss_nil)
      (pss_one (ps_ret (pe_and (pe_callB call_isi (by rfl) B.isi boot_isinstance (pa_cons (pv 0) (pa_cons (pe_bltn (v := .ty "int") (by rfl) B.int boot_int rfl) pa_nil)))
        (pe_and (pe_cmpR op_eq (pe_callB call_isi (by rfl) B.isi boot_isinstance (pa_cons (pv 0) (pa_cons (pe_bltn (v := .ty "bool") (by rfl) B.bool boot_bool rfl) pa_nil))) (pe_callB call_isi (by rfl) B.isi boot_isinstance (pa_cons (pv 1) (pa_cons (pe_bltn (v := .ty "bool") (by rfl) B.bool boot_bool rfl) pa_nil))) (nomark _))
          (pe_one (pe_cmpR op_eq (pv 0) (pv 1) (nomark _)))))))), ?_⟩
    have e2 : ∀ T : Addr, H T = none → Same H (upd H T (.tup [.ty "tuple", .ty "list"])) := fun T hT => same_upd hT
    rcases h with h | ⟨a, b, xs, ys, rfl, rfl, h, hl, hl2, hk⟩
    · cases h with
      | bl c =>
        refine ⟨_, rfl, by show 2 ≤ sizeLine; exact small_line (by omega), fun T hT => ⟨_, T, _, _, _, false, rfl, upd_same, pcTL, .base (.bl c), kitTL (b1 := false) (b2 := false) (by decide +kernel) (by decide +kernel) rfl, _, rfl, iteF ?_⟩⟩
        refine ⟨_, rfl, rfl, _, rfl, iteF ⟨_, rfl, _, _, _, _, false, rfl, .ty _, .base (.bl c), kit_ty (by decide +kernel), _, rfl, iteF ?_⟩⟩
        refine ⟨_, rfl, _, _, _, _, true, rfl, .ty _, .base (.bl c), kit_ty (by decide +kernel), _, rfl, iteT ?_⟩
        refine ⟨_, rfl, _, _, _, _, true, rfl, .ty _, .base (.bl c), kit_ty (by decide +kernel), _, rfl, _, _, _, _, true, rfl, .ty _, .base (.bl c), kit_ty (by decide +kernel), rfl, _, rfl, iteT ?_⟩
        refine ⟨_, rfl, _, rfl, by cases c <;> rfl, ?_⟩
        rw [decide_eq_true rfl]
        exact q _ (e2 T hT)
      | int c =>
        refine ⟨_, rfl, by show 2 ≤ sizeLine; exact small_line (by omega), fun T hT => ⟨_, T, _, _, _, false, rfl, upd_same, pcTL, .base (.int c), kitTL (b1 := false) (b2 := false) (by decide +kernel) (by decide +kernel) rfl, _, rfl, iteF ?_⟩⟩
        refine ⟨_, rfl, rfl, _, rfl, iteF ⟨_, rfl, _, _, _, _, false, rfl, .ty _, .base (.int c), kit_ty (by decide +kernel), _, rfl, iteF ?_⟩⟩
        refine ⟨_, rfl, _, _, _, _, true, rfl, .ty _, .base (.int c), kit_ty (by decide +kernel), _, rfl, iteT ?_⟩
        refine ⟨_, rfl, _, _, _, _, false, rfl, .ty _, .base (.int c), kit_ty (by decide +kernel), _, rfl, _, _, _, _, false, rfl, .ty _, .base (.int c), kit_ty (by decide +kernel), rfl, _, rfl, iteT ?_⟩
        refine ⟨_, rfl, _, rfl, rfl, ?_⟩
        rw [decide_eq_true rfl]
        exact q _ (e2 T hT)
      | str c =>
        refine ⟨_, rfl, by show 2 ≤ sizeLine; exact small_line (by omega), fun T hT => ⟨_, T, _, _, _, false, rfl, upd_same, pcTL, .base (.str c), kitTL (b1 := false) (b2 := false) (by decide +kernel) (by decide +kernel) rfl, _, rfl, iteF ?_⟩⟩
        refine ⟨_, rfl, rfl, _, rfl, iteF ⟨_, rfl, _, _, _, _, true, rfl, .ty _, .base (.str c), kit_ty (by decide +kernel), _, rfl, iteT ?_⟩⟩
        refine ⟨_, rfl, _, rfl, rfl, true, (by rw [decide_eq_true rfl]), iteT ?_⟩
        refine ⟨_, rfl, _, _, _, _, true, rfl, .ty _, .base (.str c), kit_ty (by decide +kernel), _, rfl, _, _, _, _, true, rfl, .ty _, .base (.str c), kit_ty (by decide +kernel), rfl, ?_⟩
        exact q _ (e2 T hT)
    · -- two tuples, two lists
      have ty : ∃ t : String, ∃ bl : Bool, (t = "tuple" ∧ bl = false ∨ t = "list" ∧ bl = true) ∧ ∀ H', Same H H' → TyX K H' (.ref a) (.type t) ∧ TyX K H' (.ref b) (.type t) ∧ (SqL K H' a xs ∨ SqT K H' a xs) ∧ (SqL K H' b ys ∨ SqT K H' b ys) := by
        rcases h with ⟨h1, h2⟩ | ⟨h1, h2⟩
        · exact ⟨"tuple", false, .inl ⟨rfl, rfl⟩, fun H' s => ⟨tyTup (s _ _ h1), tyTup (s _ _ h2), .inr (SqT.of (s _ _ h1)), .inr (SqT.of (s _ _ h2))⟩⟩
        · exact ⟨"list", true, .inr ⟨rfl, rfl⟩, fun H' s => ⟨.base (.lst (s _ _ h1)), .base (.lst (s _ _ h2)), .inl (SqL.of (s _ _ h1)), .inl (SqL.of (s _ _ h2))⟩⟩
      obtain ⟨t, bl, htb, ty⟩ := ty
      have kTL : PySem.W.kitAny K (.type t) [.type "tuple", .type "list"] = some true := by
        rcases htb with ⟨rfl, _⟩ | ⟨rfl, _⟩
        · exact kitTL (b1 := true) (b2 := false) (by decide +kernel) (by decide +kernel) rfl
        · exact kitTL (b1 := false) (b2 := true) (by decide +kernel) (by decide +kernel) rfl
      have kL : kitB t "list" = some bl := by
        rcases htb with ⟨rfl, rfl⟩ | ⟨rfl, rfl⟩
        · decide +kernel
        · decide +kernel
      refine ⟨_, rfl, by show 2 ≤ sizeLine; exact small_line (by omega), fun T hT => ⟨_, T, _, _, _, true, rfl, upd_same, pcTL, (ty _ (e2 T hT)).2.1, kTL, _, rfl, iteT ?_⟩⟩
      have s1 := e2 T hT
      revert s1
      generalize upd H T (.tup [.ty "tuple", .ty "list"]) = H1
      intro s1
      refine ⟨_, rfl, by show 2 ≤ sizeLine; exact small_line (by omega), fun T2 hT2 => ⟨_, T2, _, _, _, true, rfl, upd_same, pcTL, (ty _ (s1.trans (same_upd hT2))).1, kTL, _, rfl, iteF ?_⟩⟩
      have s2 := s1.trans (same_upd (o := .tup [.ty "tuple", .ty "list"]) hT2)
      revert s2
      generalize upd H1 T2 (.tup [.ty "tuple", .ty "list"]) = H2
      intro s2
      obtain ⟨ta, tb, qa, qb⟩ := ty _ s2
      refine ⟨_, rfl, _, _, _, _, bl, rfl, .ty _, ta, kit_ty kL, _, rfl, _, _, _, _, bl, rfl, .ty _, tb, kit_ty kL, by cases bl <;> rfl, _, rfl, iteNS rfl ?_⟩
      refine ⟨_, rfl, a, xs, rfl, qa, _, rfl, b, ys, rfl, qb, rfl, _, rfl, iteNS (by rw [hl]) ?_⟩
      refine ⟨_, rfl, b, ys, rfl, qb, (ys.length : Int), rfl, by omega, by omega, fun D hD => lc_range (lo := 0) (n := ((ys.length : Int)).toNat) (fun i H' => H' D = some (.lst []) ∧ Same H2 H') ⟨upd_same, same_upd hD⟩ ?_ ?_⟩
      · rintro i H' hi ⟨hD1, s3⟩
        have hiy : i < ys.length := by omega
        obtain ⟨u, hu1⟩ : ∃ u, xs[i]? = some u := take_get (by omega)
        obtain ⟨v, hv1⟩ : ∃ v, ys[i]? = some v := take_get hiy
        obtain ⟨_, _, qa, qb⟩ := ty _ (s2.trans s3)
        have ea : atI xs (0 + (i : Int)) = some u := by rw [Int.zero_add]; exact atI_nat hu1
        have eb : atI ys (0 + (i : Int)) = some v := by rw [Int.zero_add]; exact atI_nat hv1
        have goal := hk i u v H' (s2.trans s3) hu1 hv1 (fun x H3 => ∃ c, x = .bl c ∧ (fun c H4 => if (!c) = true then tVar 2 (List.set (wipe [some (V.ref a), some (V.ref b), none] [2]) 2 (some (.int (0 + i)))) H4 fun y H5 => ∃ acc, H5 D = some (.lst acc) ∧ acc.length < sizeLine ∧ (upd H5 D (.lst (acc ++ [y]))) D = some (.lst []) ∧ Same H2 (upd H5 D (.lst (acc ++ [y]))) else H4 D = some (.lst []) ∧ Same H2 H4) c H3)
          (fun H3 s4 => ⟨true, rfl, iteF ⟨s4 _ _ hD1, s3.trans s4⟩⟩)
        rcases qa with qa | qa
        · rcases qb with qb | qb
          · exact ⟨rfl, _, rfl, _, rfl, .inl ⟨a, xs, _, u, rfl, rfl, qa, ea, _, rfl, _, rfl, .inl ⟨b, ys, _, v, rfl, rfl, qb, eb, goal⟩⟩⟩
          · exact ⟨rfl, _, rfl, _, rfl, .inl ⟨a, xs, _, u, rfl, rfl, qa, ea, _, rfl, _, rfl, .inr (.inl ⟨b, ys, _, v, rfl, rfl, qb, eb, goal⟩)⟩⟩
        · rcases qb with qb | qb
          · exact ⟨rfl, _, rfl, _, rfl, .inr (.inl ⟨a, xs, _, u, rfl, rfl, qa, ea, _, rfl, _, rfl, .inl ⟨b, ys, _, v, rfl, rfl, qb, eb, goal⟩⟩)⟩
          · exact ⟨rfl, _, rfl, _, rfl, .inr (.inl ⟨a, xs, _, u, rfl, rfl, qa, ea, _, rfl, _, rfl, .inr (.inl ⟨b, ys, _, v, rfl, rfl, qb, eb, goal⟩)⟩)⟩
      · rintro H' ⟨hD1, s3⟩
        refine ⟨by show 0 ≤ sizeLine; omega, fun p hp => ⟨.list [], .list [], .lst (SqL.of (same_upd hp _ _ hD1)) .nil, .lst (SqL.of upd_same) .nil, shaped_nil, shaped_nil, ?_⟩⟩
        exact q _ ((s2.trans s3).trans (same_upd hp))
end
end Dy
set_option Elab.async false
set_option maxRecDepth 100000
set_option maxHeartbeats 4000000
namespace Dy
open PySem PySem.Spec PyProof.Rows L2 GenW RZ
def spPick (K : PySem.W.Frag) : Sp := fun vs H Q _ => ∃ (a s b : Addr) (xs : List V), vs = [.ref a, .ref b] ∧ RwS s H a ∧ Scr K H s ∧ a ≠ b ∧ H b = some (.lst xs) ∧ 1 ≤ xs.length ∧ xs.length ≤ 1000 ∧ ∀ (i : Nat) (v : V) (H' : Hp), xs[i]? = some v → Ex [a] H H' → RwS s H' a → Q v H'
section
variable {P : Program} {w : World} {K : PySem.W.Frag} {mg : Str → Option Value} {base : Heap}
theorem fn_false {k : Nat} {f : Addr} {fd : FuncData} {ps : List Str} : FnOk P w K mg base CX0 k f fd ps (fun _ _ _ _ => False) :=
  ⟨fun _ _ _ _ h => h.elim, fun _ _ _ _ _ _ _ _ _ _ _ _ _ h => h.elim⟩
theorem ok_alike {f : Addr} {fd : FuncData} (D0 : Dn K mg "_law_alike" sAlike ["_law_found", "_law_due"] f fd) (B : Blt mg) : ∀ n : Nat, FnOk P w K mg base CX0 (n + 1) f fd ["_law_found", "_law_due"] (spAlike n)
  | 0 => ok_alike1 D0 B 0 (fun _ _ _ _ => False) fn_false (spAlike 0) fun vs H Q E ⟨x, y, e, h, q⟩ => ⟨x, y, e, q, .inl h⟩
  | n + 1 => ok_alike1 D0 B (n + 1) (spAlike n) (ok_alike D0 B n) (spAlike (n + 1)) fun vs H Q E ⟨x, y, e, h, q⟩ => ⟨x, y, e, q, h.elim .inl fun ⟨a, b, xs, ys, e1, e2, hh, l1, l2, k⟩ => .inr ⟨a, b, xs, ys, e1, e2, hh, l1, l2, fun i u v H1 s h1 h2 Q1 q1 => ⟨u, v, rfl, (k i u v h1 h2).same s, q1⟩⟩⟩
theorem scPick : FnScope ["_law_row", "_law_things"] ["_law_row", "_law_things"] (defScope sPick) := ⟨rfl, rfl, rfl, by decide +kernel, rfl, by decide +kernel, by decide +kernel⟩
theorem ok_pick {f f1 : Addr} {fd fd1 : FuncData} (F : Fun K "_law_pick" "_law_pick" sPick f fd) (B : Blt mg) (D1 : Dn K mg "_law_taken" sTaken ["_law_row", "_law_many"] f1 fd1) : FnOk P w K mg base CX0 2 f fd ["_law_row", "_law_things"] (spPick K) := by
  have G1 : FnOk P w K mg base CX0 1 f1 fd1 ["_law_row", "_law_many"] (spTaken K) := ok_taken D1.F B
  refine F.ok scPick (fun vs H Q E h => ?_) (fun cdv A outer s H vs Q E hr h => ?_)
  · obtain ⟨a, s, b, xs, rfl, _⟩ := h
    rfl
  · obtain ⟨a, sc, b, xs, rfl, hR, hS, nab, hb, h1, h2, q⟩ := h
    refine ⟨_, pss_one (ps_ret (pe_ix ix_list (pv 1) (pe_call G1 hr (by rfl) D1.g D1.F.kp D1.b .nil pass0 (pa_cons (pv 0) (pa_cons (pe_callB call_len_seq (by rfl) B.len PySem.boot_len (pa_cons (pv 1) pa_nil)) pa_nil))) (fun _ _ => rfl))), ?_⟩
    refine ⟨_, rfl, _, rfl, _, rfl, b, xs, rfl, .inl (SqL.of hb), a, sc, (xs.length : Int), rfl, hR, hS, by omega, by omega, fun v H1 hv0 hv1 e1 hR1 => ?_⟩
    have hvl : v.toNat < xs.length := by omega
    obtain ⟨u, hu⟩ := take_get hvl
    exact ⟨b, xs, v, u, rfl, rfl, SqL.of (e1 _ _ (by simp [nab.symm]) hb), atI_of hv0 hu, q _ u H1 hu e1 hR1⟩
end
end Dy
set_option Elab.async false
set_option maxRecDepth 100000
set_option maxHeartbeats 4000000
namespace Dy
open PySem PySem.Spec PyProof.Rows L2 GenW RZ
/-- the classes of errors, as except and isinstance see them -/
structure Exs (K : PySem.W.Frag) (mg : Str → Option Value) (C0 CW CN CS : Addr) : Prop where
  gE : mg "WorksError" = some (.ref C0)
  gW : mg "BadWorks" = some (.ref CW)
  gN : mg "BadNumber" = some (.ref CN)
  gS : mg "BadStep" = some (.ref CS)
  mW : PySem.W.exmOne K (.ref CW) (.ref C0) = some true
  mN : PySem.W.exmOne K (.ref CN) (.ref C0) = some true
  mS : PySem.W.exmOne K (.ref CS) (.ref C0) = some true
  eW : ExcC K CW
  eN : ExcC K CN
  eS : ExcC K CS
  xf : XfC K CW
  no : PySem.W.findIn K (.ref CW) "part" = some none
  kWW : PySem.W.kitOne K (.ref CW) (.ref CW) = some true
  kWN : PySem.W.kitOne K (.ref CW) (.ref CN) = some false
  kWS : PySem.W.kitOne K (.ref CW) (.ref CS) = some false
  kNW : PySem.W.kitOne K (.ref CN) (.ref CW) = some false
  kNN : PySem.W.kitOne K (.ref CN) (.ref CN) = some true
  kNS : PySem.W.kitOne K (.ref CN) (.ref CS) = some false
  kSW : PySem.W.kitOne K (.ref CS) (.ref CW) = some false
  kSN : PySem.W.kitOne K (.ref CS) (.ref CN) = some false
  kSS : PySem.W.kitOne K (.ref CS) (.ref CS) = some true
/-- what comes of each error -/
def RefE (CW CN CS : Addr) (Q : VK) : XK := fun cls d H => (cls = .ref CN ∧ d = none ∧ ∀ H', Same H H' → Q (.str "number") H') ∨ (cls = .ref CS ∧ d = none ∧ ∀ H', Same H H' → Q (.str "step") H') ∨
  (cls = .ref CW ∧ ∃ dd, d = some dd ∧ H dd = some (.xd [("part", .str "works")]) ∧ ∀ (t : Addr) (H' : Hp), Same H H' → H' t = some (.tup [.str "works", .str "works"]) → Q (.ref t) H')
def spRefused (P : Program) (w : World) (K : PySem.W.Frag) (mg : Str → Option Value) (base : Heap) (k : Nat) (CW CN CS : Addr) : Sp := fun vs H Q _ => ∃ (f : Addr) (sp : Hp → VK → XK → Prop), vs = [.ref f] ∧ LamOk P w K mg base k f sp ∧
  ∀ (Q' : VK) (E' : XK), (∀ cls d H', RefE CW CN CS Q cls d H' → E' cls d H') → sp H Q' E'
def tSuite (K : PySem.W.Frag) (CW CN CS : Addr) : Addr → Value → Option Addr → TS := fun a cls d =>
  tSeq (tAsg (tLst tNil) (gName 3))
  (tSeq (tDrop (tBM K "list" rAppend (tVar 3) (tCons (tCB (rIsX K a cls d) (tCons (tVar 2) (tCons (tC (.ref CW)) tNil))) tNil)))
  (tSeq (tDrop (tBM K "list" rAppend (tVar 3) (tCons (tCB (rIsX K a cls d) (tCons (tVar 2) (tCons (tC (.ref CN)) tNil))) tNil)))
  (tSeq (tDrop (tBM K "list" rAppend (tVar 3) (tCons (tCB (rIsX K a cls d) (tCons (tVar 2) (tCons (tC (.ref CS)) tNil))) tNil)))
  (tSeq (tAsg (tLst (tCons (tC (.str "works")) (tCons (tC (.str "number")) (tCons (tC (.str "step")) tNil)))) (gName 4))
  (tSeq (tAsg (tIf (tTest (tOp rEq (tBM K "list" (rCntB K) (tVar 3) (tCons (tC (.bl true)) tNil)) (tC (.int 1)))) (tOp (rIxL K) (tVar 4) (tBM K "list" (rIndex K) (tVar 3) (tCons (tC (.bl true)) tNil))) (tC (.str "other"))) (gName 1))
  (tAsg (tIf (tTest (tOp rEq (tVar 1) (tC (.str "works")))) (tTup (tCons (tC (.str "works")) (tCons (tXf a cls d CW "part" (tVar 2)) tNil))) (tVar 1)) (gName 1)))))))
section
variable {P : Program} {w : World} {K : PySem.W.Frag} {mg : Str → Option Value} {base : Heap}
abbrev nmR : List Str := ["_law_work", "_law_found", "e", "_law_kinds", "_law_names"]
theorem scRefused : FnScope nmR ["_law_work"] (defScope sRefused) := ⟨rfl, rfl, rfl, by decide +kernel, rfl, by decide +kernel, by decide +kernel⟩
theorem ok_refused {f C0 CW CN CS : Addr} {fd : FuncData} (F : Fun K "_law_refused" "_law_refused" sRefused f fd) (B : Blt mg) (X : Exs K mg C0 CW CN CS) (k : Nat) : FnOk P w K mg base CX0 (k + 1) f fd ["_law_work"] (spRefused P w K mg base k CW CN CS) := by
  refine F.ok scRefused (fun vs H Q E h => ?_) (fun cdv A outer s H vs Q E hr h => ?_)
  · obtain ⟨g, sp, rfl, _⟩ := h
    rfl
  · obtain ⟨g, sp, rfl, hL, hsp⟩ := h
    refine ⟨_, pss_cons (ps_set (i := 1) scRefused.nd rfl (Or.inl rfl) pe_non)
      (pss_cons (ps_try_as (i := 2) (c := .ref C0) (tb := fun W => tDrop (tDyn P w K mg base k 0 (WE W))) (ts := tSuite K CW CN CS) (Wout := fun _ _ _ _ => False) rfl rfl scRefused.nd rfl rfl ⟨rfl, by decide, Or.inl X.gE⟩ takes0
        (fun W pn xe tk _ => pss_one (ps_expr (by exact (pe_dyn (k := k) (i := 0) hr rfl (.inl rfl) (fun σ => passAt tk σ)))))
        (fun a oe cls d pn hz hf => by exact (pss_cons (ps_set (i := 3) scRefused.nd rfl (Or.inl rfl) (pe_lst pa_nil))
          (pss_cons (ps_expr (pe_bm PySem.F.plainAttrs_list PySem.F.slot_list_append PySem.F.type_list_append mt_append (pv 3) (pa_cons (pe_callB (call_isX hz hf) (by rfl) B.isi boot_isinstance (pa_cons (pv 2) (pa_cons (pe_glob (v := .ref CW) rfl X.gW rfl) pa_nil))) pa_nil)))
          (pss_cons (ps_expr (pe_bm PySem.F.plainAttrs_list PySem.F.slot_list_append PySem.F.type_list_append mt_append (pv 3) (pa_cons (pe_callB (call_isX hz hf) (by rfl) B.isi boot_isinstance (pa_cons (pv 2) (pa_cons (pe_glob (v := .ref CN) rfl X.gN rfl) pa_nil))) pa_nil)))
          (pss_cons (ps_expr (pe_bm PySem.F.plainAttrs_list PySem.F.slot_list_append PySem.F.type_list_append mt_append (pv 3) (pa_cons (pe_callB (call_isX hz hf) (by rfl) B.isi boot_isinstance (pa_cons (pv 2) (pa_cons (pe_glob (v := .ref CS) rfl X.gS rfl) pa_nil))) pa_nil)))
          (pss_cons (ps_set (i := 4) scRefused.nd rfl (Or.inl rfl) (pe_lst (pa_cons pe_str (pa_cons pe_str (pa_cons pe_str pa_nil)))))
          (pss_cons (ps_set (i := 1) scRefused.nd rfl (Or.inl rfl) (pe_ifExp (pt_cmpR op_eq (pe_bm PySem.F.plainAttrs_list PySem.F.slot_list_count PySem.F.type_list_count mt_countB (pv 3) (pa_cons pe_bl pa_nil)) pe_int (nomark _))
            (pe_ix ix_list (pv 4) (pe_bm PySem.F.plainAttrs_list PySem.F.slot_list_index PySem.F.type_list_index mt_index (pv 3) (pa_cons pe_bl pa_nil)) (fun _ _ => rfl)) pe_str))
          (pss_one (ps_set (i := 1) scRefused.nd rfl (Or.inl rfl) (pe_ifExp (pt_cmpR op_eq (pv 1) pe_str (nomark _)) (pe_tup (pa_cons pe_str (pa_cons (pe_xf X.xf X.no hz hf (pv 2)) pa_nil))) (pv 1))))))))))
        ))
      (pss_one (ps_ret (pv 1)))), ?_⟩
    refine ⟨g, sp, rfl, hL, hsp _ _ fun cls d H1 hE => ?_⟩
    rcases hE with ⟨rfl, rfl, q⟩ | ⟨rfl, rfl, q⟩ | ⟨rfl, dd, rfl, hdd, q⟩
    · refine ⟨true, X.mN, fun _ a0 ha0 => ?_, fun q => nomatch q⟩
      refine ⟨by show 0 ≤ sizeLine; omega, fun lk hlk => ?_⟩
      have s1 := same_upd (o := .lst []) hlk
      refine ⟨_, rfl, .inl ⟨rfl, _, SqL.of upd_same⟩, _, rfl, _, rfl, X.eN, _, .ref CW, false, rfl, (fun u h => h), X.kNW, (fun dx e => nomatch e), lk, _, _, rfl, rfl, upd_same, by show 0 < sizeLine; exact small1000 (by omega), ?_⟩
      refine ⟨_, rfl, .inl ⟨rfl, _, SqL.of upd_same⟩, _, rfl, _, rfl, X.eN, _, .ref CN, true, rfl, (fun u h => h), X.kNN, (fun dx e => nomatch e), lk, _, _, rfl, rfl, upd_same, by show 1 < sizeLine; exact small1000 (by omega), ?_⟩
      refine ⟨_, rfl, .inl ⟨rfl, _, SqL.of upd_same⟩, _, rfl, _, rfl, X.eN, _, .ref CS, false, rfl, (fun u h => h), X.kNS, (fun dx e => nomatch e), lk, _, _, rfl, rfl, upd_same, by show 2 < sizeLine; exact small1000 (by omega), ?_⟩
      have hl4 : ∀ o1 o2 o3 o4 : HO, Same H1 (upd (upd (upd (upd H1 lk o1) lk o2) lk o3) lk o4) := fun o1 o2 o3 o4 => same_at (same_at (same_at (same_upd hlk) hlk) hlk) hlk
      refine ⟨by show 3 ≤ sizeLine; exact small_line (by omega), fun ln hln => ?_⟩
      have s5 := (hl4 (.lst []) (.lst ([] ++ [.bl false])) (.lst ([] ++ [.bl false] ++ [.bl true])) (.lst ([] ++ [.bl false] ++ [.bl true] ++ [.bl false]))).trans (same_upd (o := .lst [.str "works", .str "number", .str "step"]) hln)
      have hk5 : (upd (upd (upd (upd (upd H1 lk (.lst [])) lk (.lst ([] ++ [.bl false]))) lk (.lst ([] ++ [.bl false] ++ [.bl true]))) lk (.lst ([] ++ [.bl false] ++ [.bl true] ++ [.bl false]))) ln (.lst [.str "works", .str "number", .str "step"])) lk = some (.lst ([false, true, false].map V.bl)) := same_upd hln _ _ upd_same
      refine ⟨_, rfl, .inl ⟨rfl, _, SqL.of hk5⟩, lk, [false, true, false], true, rfl, rfl, SqL.of hk5, rfl, true, rfl, iteT ?_⟩
      refine ⟨_, rfl, _, rfl, .inl ⟨rfl, _, SqL.of hk5⟩, lk, _, .bl true, 1, .bl true, rfl, rfl, SqL.of hk5, rfl, rfl, rfl, rfl, (fun m z' hm hz => ?_), ln, _, _, _, rfl, rfl, SqL.of upd_same, rfl, ?_⟩
      · have e : m = 0 := by omega
        subst e
        cases hz
        rfl
      refine ⟨_, rfl, rfl, _, rfl, iteF ?_⟩
      exact ⟨_, rfl, _, rfl, q _ s5⟩
    · refine ⟨true, X.mS, fun _ a0 ha0 => ?_, fun q => nomatch q⟩
      refine ⟨by show 0 ≤ sizeLine; omega, fun lk hlk => ?_⟩
      have s1 := same_upd (o := .lst []) hlk
      refine ⟨_, rfl, .inl ⟨rfl, _, SqL.of upd_same⟩, _, rfl, _, rfl, X.eS, _, .ref CW, false, rfl, (fun u h => h), X.kSW, (fun dx e => nomatch e), lk, _, _, rfl, rfl, upd_same, by show 0 < sizeLine; exact small1000 (by omega), ?_⟩
      refine ⟨_, rfl, .inl ⟨rfl, _, SqL.of upd_same⟩, _, rfl, _, rfl, X.eS, _, .ref CN, false, rfl, (fun u h => h), X.kSN, (fun dx e => nomatch e), lk, _, _, rfl, rfl, upd_same, by show 1 < sizeLine; exact small1000 (by omega), ?_⟩
      refine ⟨_, rfl, .inl ⟨rfl, _, SqL.of upd_same⟩, _, rfl, _, rfl, X.eS, _, .ref CS, true, rfl, (fun u h => h), X.kSS, (fun dx e => nomatch e), lk, _, _, rfl, rfl, upd_same, by show 2 < sizeLine; exact small1000 (by omega), ?_⟩
      have hl4 : ∀ o1 o2 o3 o4 : HO, Same H1 (upd (upd (upd (upd H1 lk o1) lk o2) lk o3) lk o4) := fun o1 o2 o3 o4 => same_at (same_at (same_at (same_upd hlk) hlk) hlk) hlk
      refine ⟨by show 3 ≤ sizeLine; exact small_line (by omega), fun ln hln => ?_⟩
      have s5 := (hl4 (.lst []) (.lst ([] ++ [.bl false])) (.lst ([] ++ [.bl false] ++ [.bl false])) (.lst ([] ++ [.bl false] ++ [.bl false] ++ [.bl true]))).trans (same_upd (o := .lst [.str "works", .str "number", .str "step"]) hln)
      have hk5 : (upd (upd (upd (upd (upd H1 lk (.lst [])) lk (.lst ([] ++ [.bl false]))) lk (.lst ([] ++ [.bl false] ++ [.bl false]))) lk (.lst ([] ++ [.bl false] ++ [.bl false] ++ [.bl true]))) ln (.lst [.str "works", .str "number", .str "step"])) lk = some (.lst ([false, false, true].map V.bl)) := same_upd hln _ _ upd_same
      refine ⟨_, rfl, .inl ⟨rfl, _, SqL.of hk5⟩, lk, [false, false, true], true, rfl, rfl, SqL.of hk5, rfl, true, rfl, iteT ?_⟩
      refine ⟨_, rfl, _, rfl, .inl ⟨rfl, _, SqL.of hk5⟩, lk, _, .bl true, 2, .bl true, rfl, rfl, SqL.of hk5, rfl, rfl, rfl, rfl, (fun m z' hm hz => ?_), ln, _, _, _, rfl, rfl, SqL.of upd_same, rfl, ?_⟩
      · have e : m = 0 ∨ m = 1 := by omega
        rcases e with e | e <;> subst e <;> cases hz <;> rfl
      refine ⟨_, rfl, rfl, _, rfl, iteF ?_⟩
      exact ⟨_, rfl, _, rfl, q _ s5⟩
    · refine ⟨true, X.mW, fun _ a0 ha0 => ?_, fun q => nomatch q⟩
      refine ⟨by show 0 ≤ sizeLine; omega, fun lk hlk => ?_⟩
      have s1 := same_upd (o := .lst []) hlk
      refine ⟨_, rfl, .inl ⟨rfl, _, SqL.of upd_same⟩, _, rfl, _, rfl, X.eW, _, .ref CW, true, rfl, (fun u h => h), X.kWW, (fun dx e => by cases e; exact ⟨_, (same_upd hlk) _ _ hdd⟩), lk, _, _, rfl, rfl, upd_same, by show 0 < sizeLine; exact small1000 (by omega), ?_⟩
      refine ⟨_, rfl, .inl ⟨rfl, _, SqL.of upd_same⟩, _, rfl, _, rfl, X.eW, _, .ref CN, false, rfl, (fun u h => h), X.kWN, (fun dx e => by cases e; exact ⟨_, (same_at (same_upd hlk) hlk) _ _ hdd⟩), lk, _, _, rfl, rfl, upd_same, by show 1 < sizeLine; exact small1000 (by omega), ?_⟩
      refine ⟨_, rfl, .inl ⟨rfl, _, SqL.of upd_same⟩, _, rfl, _, rfl, X.eW, _, .ref CS, false, rfl, (fun u h => h), X.kWS, (fun dx e => by cases e; exact ⟨_, (same_at (same_at (same_upd hlk) hlk) hlk) _ _ hdd⟩), lk, _, _, rfl, rfl, upd_same, by show 2 < sizeLine; exact small1000 (by omega), ?_⟩
      have hl4 : ∀ o1 o2 o3 o4 : HO, Same H1 (upd (upd (upd (upd H1 lk o1) lk o2) lk o3) lk o4) := fun o1 o2 o3 o4 => same_at (same_at (same_at (same_upd hlk) hlk) hlk) hlk
      refine ⟨by show 3 ≤ sizeLine; exact small_line (by omega), fun ln hln => ?_⟩
      have s5 := (hl4 (.lst []) (.lst ([] ++ [.bl true])) (.lst ([] ++ [.bl true] ++ [.bl false])) (.lst ([] ++ [.bl true] ++ [.bl false] ++ [.bl false]))).trans (same_upd (o := .lst [.str "works", .str "number", .str "step"]) hln)
      have hk5 : (upd (upd (upd (upd (upd H1 lk (.lst [])) lk (.lst ([] ++ [.bl true]))) lk (.lst ([] ++ [.bl true] ++ [.bl false]))) lk (.lst ([] ++ [.bl true] ++ [.bl false] ++ [.bl false]))) ln (.lst [.str "works", .str "number", .str "step"])) lk = some (.lst ([true, false, false].map V.bl)) := same_upd hln _ _ upd_same
      refine ⟨_, rfl, .inl ⟨rfl, _, SqL.of hk5⟩, lk, [true, false, false], true, rfl, rfl, SqL.of hk5, rfl, true, rfl, iteT ?_⟩
      refine ⟨_, rfl, _, rfl, .inl ⟨rfl, _, SqL.of hk5⟩, lk, _, .bl true, 0, .bl true, rfl, rfl, SqL.of hk5, rfl, rfl, rfl, rfl, (fun m z' hm hz => ?_), ln, _, _, _, rfl, rfl, SqL.of upd_same, rfl, ?_⟩
      · omega
      refine ⟨_, rfl, rfl, _, rfl, iteT ?_⟩
      refine ⟨_, rfl, rfl, rfl, dd, _, .str "works", rfl, s5 _ _ hdd, (by decide +kernel), by show 2 ≤ sizeLine; exact small_line (by omega), fun t ht => ?_⟩
      exact ⟨_, rfl, q t _ (s5.trans (same_upd ht)) upd_same⟩
end
end Dy
set_option Elab.async false
set_option maxRecDepth 100000
set_option maxHeartbeats 4000000
namespace Dy
open PySem PySem.Spec PyProof.Rows L2 GenW RZ
/-! ### the four lambdas of _law_calls -/
def lamOf (i : Nat) : Expr := match (defBody sCalls).getD i (.Pass ⟨0, 0, 0, 0⟩) with
  | .Expr (.Call _ (a :: _) _ _) _ => a
  | _ => .Name "" ⟨0, 0, 0, 0⟩
def lamP : Expr → Arguments
  | .Lambda p _ _ _ => p
  | _ => { posonlyargs := [], args := [], vararg := none, kwonlyargs := [], kw_defaults := [], kwarg := none, defaults := [] }
def lamB : Expr → Expr
  | .Lambda _ b _ _ => b
  | e => e
def lamS : Expr → Scope
  | .Lambda _ _ s _ => s
  | _ => { kind := .function, names := [], isGenerator := false, isCoroutine := false }
abbrev lamQ : Str := ("_law_calls" : Str) ++ ".<locals>." ++ "<lambda>"
abbrev nmL : List Str := ["_law_one", "_law_other", "_law_third"]
abbrev nmC : List Str := ["_law_one", "_law_other", "_law_third", "_law_works_here"]
/-- the i-th lambda stands at f, with its cells -/
def LamAt (i : Nat) (H : Hp) (f : Addr) (x1 x2 x3 : V) : Prop := ∃ (c' : Addr) (clo : List (Str × Addr)), H f = some (LamO f lamQ (lamP (lamOf i)) (lamB (lamOf i)) (lamS (lamOf i)) clo c') ∧ H c' = some (LamX.CodeO c' lamQ) ∧ CloAt nmL [some x1, some x2, some x3] (lamS (lamOf i)) clo H
theorem LamAt.same {i : Nat} {H H' : Hp} {f : Addr} {x1 x2 x3 : V} (h : LamAt i H f x1 x2 x3) (s : Same H H') : LamAt i H' f x1 x2 x3 := by
  obtain ⟨c', clo, h1, h2, C⟩ := h
  refine ⟨c', clo, s _ _ h1, s _ _ h2, ⟨fun y c e => ?_, C.has, C.inj, C.mem⟩⟩
  obtain ⟨i, v, e1, e2, e3⟩ := C.at_ y c e
  exact ⟨i, v, e1, e2, s _ _ e3⟩
theorem lamN0 : (lamS (lamOf 1)).names = ([("_law_one", .free), ("_law_other", .free), ("_law_third", .free)] : List (Str × NameKind)) := by rfl
theorem lamN1 : (lamS (lamOf 2)).names = ([("_law_one", .free), ("_law_other", .free)] : List (Str × NameKind)) := by rfl
theorem lamN2 : (lamS (lamOf 3)).names = ([("_law_one", .free)] : List (Str × NameKind)) := by rfl
theorem lamN3 : (lamS (lamOf 4)).names = ([("_law_other", .free), ("Bench", .globalImplicit)] : List (Str × NameKind)) := by rfl
section
variable {H : Hp} {c1 c2 c3 : Addr} {x1 x2 x3 : V}
theorem clo0 (h1 : H c1 = some (CellO c1 x1)) (h2 : H c2 = some (CellO c2 x2)) (h3 : H c3 = some (CellO c3 x3)) (n12 : c1 ≠ c2) (n13 : c1 ≠ c3) (n23 : c2 ≠ c3) : CloAt nmL [some x1, some x2, some x3] (lamS (lamOf 1)) [("_law_third", c3), ("_law_other", c2), ("_law_one", c1)] H := by
  have key : ∀ {y : Str} {c : Addr}, (y, c) ∈ [(("_law_third" : Str), c3), ("_law_other", c2), ("_law_one", c1)] → (y = "_law_third" ∧ c = c3) ∨ (y = "_law_other" ∧ c = c2) ∨ (y = "_law_one" ∧ c = c1) := fun {y c} m => by simpa using m
  refine ⟨fun y c e => ?_, fun y e => ?_, fun x y c e1 e2 => ?_, fun p hp => ?_⟩
  · rcases key (PySem.mem_of_lookup e) with ⟨rfl, rfl⟩ | ⟨rfl, rfl⟩ | ⟨rfl, rfl⟩
    · exact ⟨2, x3, rfl, rfl, h3⟩
    · exact ⟨1, x2, rfl, rfl, h2⟩
    · exact ⟨0, x1, rfl, rfl, h1⟩
  · have m := PySem.mem_of_lookup e
    rw [lamN0] at m
    have m : y = "_law_one" ∨ y = "_law_other" ∨ y = "_law_third" := by simpa using m
    rcases m with rfl | rfl | rfl
    · exact ⟨c1, rfl⟩
    · exact ⟨c2, rfl⟩
    · exact ⟨c3, rfl⟩
  · rcases key (PySem.mem_of_lookup e1) with ⟨rfl, rfl⟩ | ⟨rfl, rfl⟩ | ⟨rfl, rfl⟩ <;> rcases key (PySem.mem_of_lookup e2) with ⟨rfl, q⟩ | ⟨rfl, q⟩ | ⟨rfl, q⟩
    all_goals first
      | rfl
      | exact absurd q n12
      | exact absurd q n13
      | exact absurd q n23
      | exact absurd q.symm n12
      | exact absurd q.symm n13
      | exact absurd q.symm n23
  · obtain ⟨y, c⟩ := p
    rcases key hp with ⟨rfl, rfl⟩ | ⟨rfl, rfl⟩ | ⟨rfl, rfl⟩ <;> rfl
theorem clo1 (h1 : H c1 = some (CellO c1 x1)) (h2 : H c2 = some (CellO c2 x2)) (n12 : c1 ≠ c2) : CloAt nmL [some x1, some x2, some x3] (lamS (lamOf 2)) [("_law_other", c2), ("_law_one", c1)] H := by
  have key : ∀ {y : Str} {c : Addr}, (y, c) ∈ [(("_law_other" : Str), c2), ("_law_one", c1)] → (y = "_law_other" ∧ c = c2) ∨ (y = "_law_one" ∧ c = c1) := fun {y c} m => by simpa using m
  refine ⟨fun y c e => ?_, fun y e => ?_, fun x y c e1 e2 => ?_, fun p hp => ?_⟩
  · rcases key (PySem.mem_of_lookup e) with ⟨rfl, rfl⟩ | ⟨rfl, rfl⟩
    · exact ⟨1, x2, rfl, rfl, h2⟩
    · exact ⟨0, x1, rfl, rfl, h1⟩
  · have m := PySem.mem_of_lookup e
    rw [lamN1] at m
    have m : y = "_law_one" ∨ y = "_law_other" := by simpa using m
    rcases m with rfl | rfl
    · exact ⟨c1, rfl⟩
    · exact ⟨c2, rfl⟩
  · rcases key (PySem.mem_of_lookup e1) with ⟨rfl, rfl⟩ | ⟨rfl, rfl⟩ <;> rcases key (PySem.mem_of_lookup e2) with ⟨rfl, q⟩ | ⟨rfl, q⟩
    all_goals first
      | rfl
      | exact absurd q n12
      | exact absurd q.symm n12
  · obtain ⟨y, c⟩ := p
    rcases key hp with ⟨rfl, rfl⟩ | ⟨rfl, rfl⟩ <;> rfl
theorem clo2 (h1 : H c1 = some (CellO c1 x1)) : CloAt nmL [some x1, some x2, some x3] (lamS (lamOf 3)) [("_law_one", c1)] H := by
  have key : ∀ {y : Str} {c : Addr}, (y, c) ∈ [(("_law_one" : Str), c1)] → (y = "_law_one" ∧ c = c1) := fun {y c} m => by simpa using m
  refine ⟨fun y c e => ?_, fun y e => ?_, fun x y c e1 e2 => ?_, fun p hp => ?_⟩
  · obtain ⟨rfl, rfl⟩ := key (PySem.mem_of_lookup e)
    exact ⟨0, x1, rfl, rfl, h1⟩
  · have m := PySem.mem_of_lookup e
    rw [lamN2] at m
    have m : y = "_law_one" := by simpa using m
    subst m
    exact ⟨c1, rfl⟩
  · obtain ⟨rfl, _⟩ := key (PySem.mem_of_lookup e1)
    obtain ⟨rfl, _⟩ := key (PySem.mem_of_lookup e2)
    rfl
  · obtain ⟨y, c⟩ := p
    obtain ⟨rfl, rfl⟩ := key hp
    rfl
theorem clo3 (h2 : H c2 = some (CellO c2 x2)) : CloAt nmL [some x1, some x2, some x3] (lamS (lamOf 4)) [("_law_other", c2)] H := by
  have key : ∀ {y : Str} {c : Addr}, (y, c) ∈ [(("_law_other" : Str), c2)] → (y = "_law_other" ∧ c = c2) := fun {y c} m => by simpa using m
  refine ⟨fun y c e => ?_, fun y e => ?_, fun x y c e1 e2 => ?_, fun p hp => ?_⟩
  · obtain ⟨rfl, rfl⟩ := key (PySem.mem_of_lookup e)
    exact ⟨1, x2, rfl, rfl, h2⟩
  · have m := PySem.mem_of_lookup e
    rw [lamN3] at m
    have m : y = "_law_other" := by
      rcases List.mem_cons.mp m with z | z
      · exact (Prod.mk.inj z).1
      · have z := List.mem_singleton.mp z
        cases (Prod.mk.inj z).2
    subst m
    exact ⟨c2, rfl⟩
  · obtain ⟨rfl, _⟩ := key (PySem.mem_of_lookup e1)
    obtain ⟨rfl, _⟩ := key (PySem.mem_of_lookup e2)
    rfl
  · obtain ⟨y, c⟩ := p
    obtain ⟨rfl, rfl⟩ := key hp
    rfl
end
def spCalls (PL : Addr) : Sp := fun vs H Q _ => ∃ x1 x2 x3, vs = [x1, x2, x3] ∧ LamX.TabS H PL lamQ ∧ ∀ (l f0 f1 f2 f3 : Addr) (H' : Hp), ExtP PL H H' → LamX.TabS H' PL lamQ → H l = none → H' l = some (.lst [.ref f0, .ref f1, .ref f2, .ref f3]) →
  LamAt 1 H' f0 x1 x2 x3 → LamAt 2 H' f1 x1 x2 x3 → LamAt 3 H' f2 x1 x2 x3 → LamAt 4 H' f3 x1 x2 x3 → Q (.ref l) H'
section
variable {P : Program} {w : World} {K : PySem.W.Frag} {mg : Str → Option Value} {base : Heap}
theorem scCalls : FnScope nmC ["_law_one", "_law_other", "_law_third"] (defScope sCalls) := ⟨rfl, rfl, rfl, by decide +kernel, rfl, by decide +kernel, by decide +kernel⟩
/-- the heap while the lambdas come: ready ones, the list -/
structure Mid (PL : Addr) (H H1 : Hp) (l : Addr) (fs : List Addr) : Prop where
  ext : ExtP PL H H1
  tab : LamX.TabS H1 PL lamQ
  new : H l = none
  lst : H1 l = some (.lst (fs.map V.ref))
def LamRaw (i : Nat) (L : Addr) (H : Hp) (f : Addr) : Prop := ∃ c', H f = some (LamO f lamQ (lamP (lamOf i)) (lamB (lamOf i)) (lamS (lamOf i)) (cloFrom (cellsFrom (L + 1) (defScope sCalls).names []) (lamS (lamOf i)).names []) c') ∧ H c' = some (LamX.CodeO c' lamQ)
theorem LamRaw.keep {i : Nat} {L f l PL : Addr} {H H1 : Hp} {xs : List V} {o : HO} (h : LamRaw i L H f) (e : ExtP PL H H1) (t : LamX.TabS H PL lamQ) (hl : H1 l = some (.lst xs)) : LamRaw i L (upd H1 l o) f := by
  obtain ⟨c', h1, h2⟩ := h
  obtain ⟨ps, hP, _⟩ := t
  have n1 : f ≠ PL := fun z => by rw [z, hP] at h1; unfold LamO at h1; cases h1
  have n2 : c' ≠ PL := fun z => by rw [z, hP] at h2; unfold LamX.CodeO at h2; cases h2
  have k1 := e _ _ n1 h1
  have k2 := e _ _ n2 h2
  have m1 : f ≠ l := fun z => by rw [z, hl] at k1; unfold LamO at k1; cases k1
  have m2 : c' ≠ l := fun z => by rw [z, hl] at k2; unfold LamX.CodeO at k2; cases k2
  exact ⟨c', by rw [upd_ne m1]; exact k1, by rw [upd_ne m2]; exact k2⟩
theorem TabS.updl {l PL : Addr} {H1 : Hp} {xs : List V} {o : HO} (t : LamX.TabS H1 PL lamQ) (hl : H1 l = some (.lst xs)) : LamX.TabS (upd H1 l o) PL lamQ := by
  obtain ⟨ps, hP, ht, ha⟩ := t
  refine ⟨ps, by rw [upd_ne (ne_of hP hl (by intro z; cases z))]; exact hP, ht, fun pos cv hc => ?_⟩
  obtain ⟨c, e, h⟩ := ha pos cv hc
  refine ⟨c, e, ?_⟩
  rw [upd_ne (fun z => ?_)]
  · exact h
  · rw [z, hl] at h; unfold LamX.CodeO at h; cases h
end
end Dy
set_option Elab.async false
set_option maxRecDepth 100000
set_option maxHeartbeats 4000000
namespace Dy
open PySem PySem.Spec PyProof.Rows L2 GenW RZ
theorem hfr1 : ∀ y ∈ (lamS (lamOf 1)).names, y.2 = .free → (defScope sCalls).names.lookup y.1 = some .cell ∨ (defScope sCalls).names.lookup y.1 = some .free := by decide +kernel
theorem hfr2 : ∀ y ∈ (lamS (lamOf 2)).names, y.2 = .free → (defScope sCalls).names.lookup y.1 = some .cell ∨ (defScope sCalls).names.lookup y.1 = some .free := by decide +kernel
theorem hfr3 : ∀ y ∈ (lamS (lamOf 3)).names, y.2 = .free → (defScope sCalls).names.lookup y.1 = some .cell ∨ (defScope sCalls).names.lookup y.1 = some .free := by decide +kernel
theorem hfr4 : ∀ y ∈ (lamS (lamOf 4)).names, y.2 = .free → (defScope sCalls).names.lookup y.1 = some .cell ∨ (defScope sCalls).names.lookup y.1 = some .free := by decide +kernel
theorem Mid.ne {PL l : Addr} {H H1 : Hp} {fs : List Addr} (m : Mid PL H H1 l fs) (t : LamX.TabS H PL lamQ) : l ≠ PL := fun z => by
  obtain ⟨ps, hP, _⟩ := t
  have := m.new
  rw [z, hP] at this
  cases this
theorem Mid.more {PL l f1 c' : Addr} {H H1 H2 : Hp} {fs : List Addr} (m : Mid PL H H1 l fs) (t : LamX.TabS H PL lamQ) (e2 : ExtP PL H1 H2) (t2 : LamX.TabS H2 PL lamQ) : H2 l = some (.lst (fs.map V.ref)) ∧ Mid PL H (upd H2 l (.lst (fs.map V.ref ++ [.ref f1]))) l (fs ++ [f1]) := by
  have h := e2 _ _ (m.ne t) m.lst
  refine ⟨h, ⟨fun b o n e => ?_, TabS.updl t2 h, m.new, by rw [upd_same, List.map_append]; rfl⟩⟩
  rw [upd_ne (ne_of_none e m.new)]
  exact e2 _ _ n (m.ext _ _ n e)
theorem LamRaw.fresh {i : Nat} {L f l d' : Addr} {H : Hp} {xs : List V} {o : HO} (hl : H l = some (.lst xs)) (h1 : H f = some (LamO f lamQ (lamP (lamOf i)) (lamB (lamOf i)) (lamS (lamOf i)) (cloFrom (cellsFrom (L + 1) (defScope sCalls).names []) (lamS (lamOf i)).names []) d')) (h2 : H d' = some (LamX.CodeO d' lamQ)) : LamRaw i L (L2.upd H l o) f := by
  have m1 : f ≠ l := fun z => by rw [z, hl] at h1; unfold LamO at h1; cases h1
  have m2 : d' ≠ l := fun z => by rw [z, hl] at h2; unfold LamX.CodeO at h2; cases h2
  exact ⟨d', by rw [upd_ne m1]; exact h1, by rw [upd_ne m2]; exact h2⟩
theorem mem_lookA : ∀ {l : List (Addr × V)} {a : Addr} {v : V}, l.lookup a = some v → (a, v) ∈ l
  | [], a, v, h => by simp at h
  | (b, x) :: l, a, v, h => by
    rw [List.lookup_cons] at h
    cases e : (a == b) with
    | true =>
      rw [e] at h
      have e : a = b := by simpa using e
      subst e
      cases h
      exact List.mem_cons_self
    | false =>
      rw [e] at h
      exact List.mem_cons_of_mem _ (mem_lookA h)
section
variable {P : Program} {w : World} {K : PySem.W.Frag} {mg : Str → Option Value} {base : Heap}
theorem ok_calls {f c PL : Addr} {fd : FuncData} (F : FunC K "_law_calls" "_law_calls" sCalls f fd c) (TB : LamX.TabB base mg c PL) : FnOk P w K mg base CX0 1 f fd ["_law_one", "_law_other", "_law_third"] (spCalls PL) := by
  obtain ⟨oc, od, kV, doc, pm, an, ct, osl, rfl, lk, hcd⟩ := F.ex
  refine fn_by (k := 0) (N := nmC) lk hcd scCalls (fun vs H Q E h => ?_) (fun A outer s s1 H vs Q E hr h hok I => ?_)
  · obtain ⟨x1, x2, x3, rfl, _⟩ := h
    rfl
  · obtain ⟨x1, x2, x3, rfl, hT, q⟩ := h
    refine execs_step (X := cxOf CX0 P w K mg base nmC "_law_calls" (defScope sCalls) f (.ref c) A outer s H E) (R := fun σ H1 => ∃ l : Addr, σ = [some x1, some x2, some x3, some (.ref l)] ∧ Mid PL H H1 l [])
      (ps_set (i := 3) scCalls.nd rfl (Or.inl rfl) (pe_lst pa_nil)) I ⟨by show 0 ≤ sizeLine; omega, fun l hl => ⟨l, rfl, ⟨ExtP.of (same_upd hl), LamX.TabS.ext hT (same_upd hl), hl, upd_same⟩⟩⟩ fun s2 σ2 H2 I2 ⟨l, e2, M2⟩ => ?_
    subst e2
    refine execs_step (X := cxOf CX0 P w K mg base nmC "_law_calls" (defScope sCalls) f (.ref c) A outer s H E) (R := fun σ H1 => ∃ g0 : Addr, σ = [some x1, some x2, some x3, some (.ref l)] ∧ Mid PL H H1 l [g0] ∧ LamRaw 1 s.heap.objs.size H1 g0)
      (ps_expr (pe_bm PySem.F.plainAttrs_list PySem.F.slot_list_append PySem.F.type_list_append mt_append (pv 3) (pa_cons (pe_lam (c := c) (P := PL) TB.code TB.bm TB.gP rfl rfl hfr1) pa_nil))) I2
      ⟨_, rfl, .inl ⟨rfl, _, SqL.of M2.lst⟩, M2.tab, fun g0 d' G e t n0 nf h1 h2 => ⟨l, _, _, rfl, rfl, (M2.more (f1 := g0) (c' := d') hT e t).1, small1000 (by simp), g0, rfl, (M2.more (f1 := g0) (c' := d') hT e t).2, LamRaw.fresh (M2.more (f1 := g0) (c' := d') hT e t).1 h1 h2⟩⟩ fun s3 σ3 H3 I3 ⟨g0, e3, M3, r0⟩ => ?_
    subst e3
    refine execs_step (X := cxOf CX0 P w K mg base nmC "_law_calls" (defScope sCalls) f (.ref c) A outer s H E) (R := fun σ H1 => ∃ g0 g1 : Addr, σ = [some x1, some x2, some x3, some (.ref l)] ∧ Mid PL H H1 l [g0, g1] ∧ LamRaw 1 s.heap.objs.size H1 g0 ∧ LamRaw 2 s.heap.objs.size H1 g1)
      (ps_expr (pe_bm PySem.F.plainAttrs_list PySem.F.slot_list_append PySem.F.type_list_append mt_append (pv 3) (pa_cons (pe_lam (c := c) (P := PL) TB.code TB.bm TB.gP rfl rfl hfr2) pa_nil))) I3
      ⟨_, rfl, .inl ⟨rfl, _, SqL.of M3.lst⟩, M3.tab, fun g1 d' G e t n0 nf h1 h2 => ⟨l, _, _, rfl, rfl, (M3.more (f1 := g1) (c' := d') hT e t).1, small1000 (by simp), g0, g1, rfl, (M3.more (f1 := g1) (c' := d') hT e t).2, LamRaw.keep r0 e M3.tab (M3.more (f1 := g1) (c' := d') hT e t).1, LamRaw.fresh (M3.more (f1 := g1) (c' := d') hT e t).1 h1 h2⟩⟩ fun s4 σ4 H4 I4 ⟨g0, g1, e4, M4, r0, r1⟩ => ?_
    subst e4
    refine execs_step (X := cxOf CX0 P w K mg base nmC "_law_calls" (defScope sCalls) f (.ref c) A outer s H E) (R := fun σ H1 => ∃ g0 g1 g2 : Addr, σ = [some x1, some x2, some x3, some (.ref l)] ∧ Mid PL H H1 l [g0, g1, g2] ∧ LamRaw 1 s.heap.objs.size H1 g0 ∧ LamRaw 2 s.heap.objs.size H1 g1 ∧ LamRaw 3 s.heap.objs.size H1 g2)
      (ps_expr (pe_bm PySem.F.plainAttrs_list PySem.F.slot_list_append PySem.F.type_list_append mt_append (pv 3) (pa_cons (pe_lam (c := c) (P := PL) TB.code TB.bm TB.gP rfl rfl hfr3) pa_nil))) I4
      ⟨_, rfl, .inl ⟨rfl, _, SqL.of M4.lst⟩, M4.tab, fun g2 d' G e t n0 nf h1 h2 => ⟨l, _, _, rfl, rfl, (M4.more (f1 := g2) (c' := d') hT e t).1, small1000 (by simp), g0, g1, g2, rfl, (M4.more (f1 := g2) (c' := d') hT e t).2, LamRaw.keep r0 e M4.tab (M4.more (f1 := g2) (c' := d') hT e t).1, LamRaw.keep r1 e M4.tab (M4.more (f1 := g2) (c' := d') hT e t).1, LamRaw.fresh (M4.more (f1 := g2) (c' := d') hT e t).1 h1 h2⟩⟩ fun s5 σ5 H5 I5 ⟨g0, g1, g2, e5, M5, r0, r1, r2⟩ => ?_
    subst e5
    refine execs_step (X := cxOf CX0 P w K mg base nmC "_law_calls" (defScope sCalls) f (.ref c) A outer s H E) (R := fun σ H1 => ∃ g0 g1 g2 g3 : Addr, σ = [some x1, some x2, some x3, some (.ref l)] ∧ Mid PL H H1 l [g0, g1, g2, g3] ∧ LamRaw 1 s.heap.objs.size H1 g0 ∧ LamRaw 2 s.heap.objs.size H1 g1 ∧ LamRaw 3 s.heap.objs.size H1 g2 ∧ LamRaw 4 s.heap.objs.size H1 g3)
      (ps_expr (pe_bm PySem.F.plainAttrs_list PySem.F.slot_list_append PySem.F.type_list_append mt_append (pv 3) (pa_cons (pe_lam (c := c) (P := PL) TB.code TB.bm TB.gP rfl rfl hfr4) pa_nil))) I5
      ⟨_, rfl, .inl ⟨rfl, _, SqL.of M5.lst⟩, M5.tab, fun g3 d' G e t n0 nf h1 h2 => ⟨l, _, _, rfl, rfl, (M5.more (f1 := g3) (c' := d') hT e t).1, small1000 (by simp), g0, g1, g2, g3, rfl, (M5.more (f1 := g3) (c' := d') hT e t).2, LamRaw.keep r0 e M5.tab (M5.more (f1 := g3) (c' := d') hT e t).1, LamRaw.keep r1 e M5.tab (M5.more (f1 := g3) (c' := d') hT e t).1, LamRaw.keep r2 e M5.tab (M5.more (f1 := g3) (c' := d') hT e t).1, LamRaw.fresh (M5.more (f1 := g3) (c' := d') hT e t).1 h1 h2⟩⟩ fun s6 σ6 H6 I6 ⟨g0, g1, g2, g3, e6, M6, r0, r1, r2, r3⟩ => ?_
    subst e6
    -- return _law_works_here
    refine wpAny_execs_cons (wpAny_Return_some (thn ((pv (X := cxOf CX0 P w K mg base nmC "_law_calls" (defScope sCalls) f (.ref c) A outer s H E) 3).run [] s6 _ H6 (fun v H' => v = .ref l ∧ H' = H6) I6 ⟨_, rfl, rfl, rfl⟩) fun u s7 hh => ?_))
    obtain ⟨v, H7, I7, rv, rfl, rfl⟩ := hh
    have hcell : ∀ (cc : Addr) (y : Str), (cellsFrom (s.heap.objs.size + 1) (defScope sCalls).names []).lookup y = some cc → H7 cc = none := fun cc y e => I7.freeC y cc e
    have f1 := hcell (s.heap.objs.size + 1) "_law_one" rfl
    have f2 := hcell (s.heap.objs.size + 1 + 1) "_law_other" rfl
    have f3 := hcell (s.heap.objs.size + 1 + 1 + 1) "_law_third" rfl
    generalize hcs : ([(s.heap.objs.size + 1, x1), (s.heap.objs.size + 1 + 1, x2), (s.heap.objs.size + 1 + 1 + 1, x3)] : List (Addr × V)) = cs
    have hmem : ∀ (cc : Addr) (v : V), cs.lookup cc = some v → (cc = s.heap.objs.size + 1 ∧ v = x1) ∨ (cc = s.heap.objs.size + 1 + 1 ∧ v = x2) ∨ (cc = s.heap.objs.size + 1 + 1 + 1 ∧ v = x3) := fun cc v e => by
      have m := mem_lookA e
      rw [← hcs] at m
      simpa using m
    have l1 : cs.lookup (s.heap.objs.size + 1) = some x1 := by rw [← hcs]; simp [List.lookup]
    have l2 : cs.lookup (s.heap.objs.size + 1 + 1) = some x2 := by
      rw [← hcs]
      have z : (s.heap.objs.size + 1 + 1 == s.heap.objs.size + 1) = false := by simp
      simp [List.lookup, z]
    have l3 : cs.lookup (s.heap.objs.size + 1 + 1 + 1) = some x3 := by
      rw [← hcs]
      have z : (s.heap.objs.size + 1 + 1 + 1 == s.heap.objs.size + 1) = false := by simp
      have z2 : (s.heap.objs.size + 1 + 1 + 1 == s.heap.objs.size + 1 + 1) = false := by simp
      simp [List.lookup, z, z2]
    obtain ⟨un, hk⟩ := fin_cells (cs := cs) I7 rfl hok fun cc v e => by
      rcases hmem cc v e with ⟨rfl, rfl⟩ | ⟨rfl, rfl⟩ | ⟨rfl, rfl⟩
      · exact ⟨0, "_law_one", rfl, rfl, rfl, rfl, by show s.heap.objs.size ≤ _; omega⟩
      · exact ⟨1, "_law_other", rfl, rfl, rfl, rfl, by show s.heap.objs.size ≤ _; omega⟩
      · exact ⟨2, "_law_third", rfl, rfl, rfl, rfl, by show s.heap.objs.size ≤ _; omega⟩
    have sm : Same H7 (trkC cs H7) := fun b o e => by
      cases z : cs.lookup b with
      | none => rw [trkC_none z]; exact e
      | some v =>
        rcases hmem b v z with ⟨rfl, _⟩ | ⟨rfl, _⟩ | ⟨rfl, _⟩
        · rw [f1] at e; cases e
        · rw [f2] at e; cases e
        · rw [f3] at e; cases e
    have k1 : trkC cs H7 (s.heap.objs.size + 1) = some (CellO (s.heap.objs.size + 1) x1) := trkC_some l1
    have k2 : trkC cs H7 (s.heap.objs.size + 1 + 1) = some (CellO (s.heap.objs.size + 1 + 1) x2) := trkC_some l2
    have k3 : trkC cs H7 (s.heap.objs.size + 1 + 1 + 1) = some (CellO (s.heap.objs.size + 1 + 1 + 1) x3) := trkC_some l3
    have n12 : s.heap.objs.size + 1 ≠ s.heap.objs.size + 1 + 1 := by omega
    have n13 : s.heap.objs.size + 1 ≠ s.heap.objs.size + 1 + 1 + 1 := by omega
    have n23 : s.heap.objs.size + 1 + 1 ≠ s.heap.objs.size + 1 + 1 + 1 := by omega
    obtain ⟨a0, b0, b0'⟩ := r0
    obtain ⟨a1, b1, b1'⟩ := r1
    obtain ⟨a2, b2, b2'⟩ := r2
    obtain ⟨a3, b3, b3'⟩ := r3
    refine ⟨u, rfl, .ref l, trkC cs H7, I7.os, I7.bare, un, hk, rv, q l g0 g1 g2 g3 (trkC cs H7) (M6.ext.trans (ExtP.of sm)) (LamX.TabS.ext M6.tab sm) M6.new (sm _ _ M6.lst) ⟨a0, _, sm _ _ b0, sm _ _ b0', ?_⟩ ⟨a1, _, sm _ _ b1, sm _ _ b1', ?_⟩ ⟨a2, _, sm _ _ b2, sm _ _ b2', ?_⟩ ⟨a3, _, sm _ _ b3, sm _ _ b3', ?_⟩⟩
    · exact clo0 k1 k2 k3 n12 n13 n23
    · exact clo1 k1 k2 n12
    · exact clo2 k1
    · exact clo3 k2
end
end Dy
set_option Elab.async false
set_option maxRecDepth 100000
set_option maxHeartbeats 4000000
namespace Dy
open PySem PySem.Spec PyProof.Rows L2 GenW RZ
theorem show_hide (cs : List Addr) (H : Hp) : showH cs H (hideH cs H) = H := by
  funext b
  by_cases hb : b ∈ cs
  · rw [show_in hb]
  · rw [show_out hb, hide_out hb]
theorem hide_keep {cs : List Addr} {H : Hp} (a : AllExt cs H) {b : Addr} {u : HO} (e : H b = some u) (n : ∀ φ, u ≠ .ext φ) : hideH cs H b = some u := by
  have hb : b ∉ cs := fun hb => by
    obtain ⟨φ, z⟩ := a b hb
    rw [e] at z
    exact n φ (Option.some.inj z)
  rw [hide_out hb]
  exact e
theorem hide_tk {cs : List Addr} {H : Hp} (a : AllExt cs H) : Tk H (hideH cs H) := fun b xs e => hide_keep a e (fun φ z => by cases z)
theorem BenchAt.hide {C : Addr} {H : Hp} {p r o : Addr} {W : WorksD} {st : List (List Int)} {z : Int} {ds : List DeedD} {os : List (List (List Int) × Int)} {cs : List Addr} (b : BenchAt C H p r o W st z ds os) (a : AllExt cs H) : BenchAt C (hideH cs H) p r o W st z ds os := by
  obtain ⟨⟨dx, fs, wv, nv, h, hb, hw, hn⟩, ⟨xs, hr, hx⟩, ⟨ys, ho, hy⟩, ne⟩ := b
  have t := hide_tk a
  exact ⟨⟨dx, fs, wv, nv, hide_keep a h (fun φ z => by cases z), hb, hw.tk t, hn.tk t⟩, ⟨xs, hide_keep a hr (fun φ z => by cases z), hx.mono fun _ _ k => k.tk t⟩, ⟨ys, hide_keep a ho (fun φ z => by cases z), hy.mono fun _ _ k => k.tk t⟩, ne⟩
theorem NoInt.hide {H : Hp} {v : V} {cs : List Addr} (h : NoInt H v) (a : AllExt cs H) : NoInt (hideH cs H) v := by
  cases h with
  | non => exact .non
  | bl b => exact .bl b
  | str x => exact .str x
  | tup h => exact .tup (hide_tk a _ _ h)
theorem BadN.hide {hi : Int} {H : Hp} {v : V} {cs : List Addr} (h : BadN hi H v) (a : AllExt cs H) : BadN hi (hideH cs H) v := by
  rcases h with h | h
  · exact .inl h
  · exact .inr (h.hide a)
theorem LamOk.mono {P : Program} {w : World} {K : PySem.W.Frag} {mg : Str → Option Value} {base : Heap} {j k : Nat} {f : Addr} {sp : Hp → VK → XK → Prop} (h : LamOk P w K mg base j f sp) (hj : j ≤ k) : LamOk P w K mg base k f sp :=
  ⟨h.isF, fun A outer s H Q E hr => h.run A outer s H Q E (hr.mono hj)⟩
def lamSp (i : Nat) (t : XK → TE) (f : Addr) : Hp → VK → XK → Prop := fun H Q E => ∃ (c' : Addr) (clo : List (Str × Addr)) (σ : L2.St), H f = some (LamO f lamQ (lamP (lamOf i)) (lamB (lamOf i)) (lamS (lamOf i)) clo c') ∧ H c' = some (LamX.CodeO c' lamQ) ∧ CloAt nmL σ (lamS (lamOf i)) clo H ∧ σ.length = nmL.length ∧
  t (fun cls d H' => (∀ c ∈ clo.map (·.2), H' c = none) → E cls d (showH (clo.map (·.2)) H H')) σ (hideH (clo.map (·.2)) H) (fun v H' => (∀ c ∈ clo.map (·.2), H' c = none) → Q v (showH (clo.map (·.2)) H H'))
theorem nmL_nd : nmL.Nodup := by decide +kernel
section
variable {P : Program} {w : World} {K : PySem.W.Frag} {mg : Str → Option Value} {base : Heap}
theorem la_takes {N : List Str} {q : Str} {scope : Scope} {f c' : Addr} {clo : List (Str × Addr)} {A : Around} {outer : List Env} {s : Shared} {H : Hp} {E : XK} : Passes (L2.CX P w) (laCx P w K mg base N q scope f c' clo A outer s H E) E := fun pins σ H1 s1 e s' I c =>
  passAt (X := laCx P w K mg base N q scope f c' clo A outer s H E) (W := fun cls d _ H => E cls d H) (takes_of rfl rfl rfl rfl) σ pins H1 s1 e s' I c
def tL0 (PW TC CN C : Addr) : XK → TE := fun E => tMeth C "dye" (spDye PW TC CN C) [] E (tVar 0) (tCons (tVar 1) (tCons (tVar 2) tNil))
def tL1 (CN C : Addr) : XK → TE := fun E => tMeth C "wash" (spWash CN C) [] E (tVar 0) (tCons (tVar 1) tNil)
def tL2 (CS C : Addr) : XK → TE := fun E => tMeth C "undo" (spUndo CS C) [] E (tVar 0) tNil
def tL3 (TL TR TK TN TC CW C : Addr) : XK → TE := fun E => tMake C (spBI TL TR TK TN TC CW C) [] E (tCons (tVar 1) tNil)
theorem lam0_ok {f g PW TC CN C : Addr} {fd : FuncData} (T : BTxt K mg C) (M : Meth K C "dye" g) (b : Binds K fd ["self", "kind", "route"] []) (G : FnOk P w K mg base (L2.CX P w) 9 g fd ["self", "kind", "route"] (spDye PW TC CN C)) : LamOk P w K mg base 10 f (lamSp 1 (tL0 PW TC CN C) f) :=
  lam_ok (k := 9) nmL_nd ⟨rfl, rfl, rfl, by decide +kernel⟩ (fun _ _ _ _ => rfl) fun H Q E ⟨c', clo, σ, h1, h2, h3, h4, h5⟩ => ⟨c', clo, σ, tL0 PW TC CN C, h1, h2, h3, h4, fun A outer s H0 E0 hr => by
    unfold tL0
    exact (pe_meth (pv 0) T.cl M G hr b .nil la_takes (pa_cons (pv 1) (pa_cons (pv 2) pa_nil))), h5⟩
theorem lam1_ok {f g CN C : Addr} {fd : FuncData} (T : BTxt K mg C) (M : Meth K C "wash" g) (b : Binds K fd ["self", "vat"] []) (G : FnOk P w K mg base (L2.CX P w) 3 g fd ["self", "vat"] (spWash CN C)) : LamOk P w K mg base 4 f (lamSp 2 (tL1 CN C) f) :=
  lam_ok (k := 3) nmL_nd ⟨rfl, rfl, rfl, by decide +kernel⟩ (fun _ _ _ _ => rfl) fun H Q E ⟨c', clo, σ, h1, h2, h3, h4, h5⟩ => ⟨c', clo, σ, tL1 CN C, h1, h2, h3, h4, fun A outer s H0 E0 hr => by
    unfold tL1
    exact (pe_meth (pv 0) T.cl M G hr b .nil la_takes (pa_cons (pv 1) pa_nil)), h5⟩
theorem lam2_ok {f g CS C : Addr} {fd : FuncData} (T : BTxt K mg C) (M : Meth K C "undo" g) (b : Binds K fd ["self"] []) (G : FnOk P w K mg base (L2.CX P w) 1 g fd ["self"] (spUndo CS C)) : LamOk P w K mg base 2 f (lamSp 3 (tL2 CS C) f) :=
  lam_ok (k := 1) nmL_nd ⟨rfl, rfl, rfl, by decide +kernel⟩ (fun _ _ _ _ => rfl) fun H Q E ⟨c', clo, σ, h1, h2, h3, h4, h5⟩ => ⟨c', clo, σ, tL2 CS C, h1, h2, h3, h4, fun A outer s H0 E0 hr => by
    unfold tL2
    exact (pe_meth0 (pv 0) T.cl M G hr b .nil la_takes), h5⟩
theorem lam3_ok {f g TL TR TK TN TC CW C : Addr} {fd : FuncData} (T : BTxt K mg C) (M : Mk K C g) (b : Binds K fd ["self", "works"] []) (G : FnOk P w K mg base (L2.CX P w) 14 g fd ["self", "works"] (spBI TL TR TK TN TC CW C)) : LamOk P w K mg base 16 f (lamSp 4 (tL3 TL TR TK TN TC CW C) f) :=
  lam_ok (k := 15) nmL_nd ⟨rfl, rfl, rfl, by decide +kernel⟩ (fun _ _ _ _ => rfl) fun H Q E ⟨c', clo, σ, h1, h2, h3, h4, h5⟩ => ⟨c', clo, σ, tL3 TL TR TK TN TC CW C, h1, h2, h3, h4, fun A outer s H0 E0 hr => by
    unfold tL3
    exact (pe_make M G hr (by rfl) T.g b .nil la_takes (pa_cons (pv 1) pa_nil)), h5⟩
/-! ### what _law_refused sees -/
theorem ref_step {f g p r o CW CN CS C : Addr} {fd : FuncData} {H : Hp} {x2 x3 : V} {W : WorksD} {st : List (List Int)} {z : Int} {os : List (List (List Int) × Int)} {Q : VK} {E : XK} (T : BTxt K mg C) (M : Meth K C "undo" g) (b : Binds K fd ["self"] []) (G : FnOk P w K mg base (L2.CX P w) 1 g fd ["self"] (spUndo CS C))
    (hL : LamAt 3 H f (.ref p) x2 x3) (hB : BenchAt C H p r o W st z [] os) (q : ∀ H', Same H H' → Q (.str "step") H') : spRefused P w K mg base 16 CW CN CS [.ref f] H Q E := by
  obtain ⟨c', clo, h1, h2, h3⟩ := hL
  refine ⟨f, lamSp 3 (tL2 CS C) f, rfl, (lam2_ok T M b G).mono (by decide), fun Q' E' hE => ⟨c', clo, _, h1, h2, h3, rfl, ?_⟩⟩
  have hB2 := hB.hide h3.ext
  obtain ⟨⟨dx, fs, wv, nv, hp, bf, hw, hn⟩, _, _, _⟩ := id hB2
  refine ⟨_, rfl, p, dx, fs, rfl, hp, bf.m _ (by decide +kernel) (by decide +kernel) (by decide +kernel) (by decide +kernel) (by decide +kernel), p, r, o, W, st, z, [], os, rfl, hB2, .inl ⟨rfl, fun _ => ?_⟩⟩
  rw [show_hide]
  exact hE _ _ _ (.inr (.inl ⟨rfl, rfl, q⟩))
theorem ref_wash {f g p r o CW CN CS C : Addr} {fd : FuncData} {H : Hp} {x2 x3 : V} {W : WorksD} {st : List (List Int)} {z : Int} {ds : List DeedD} {os : List (List (List Int) × Int)} {Q : VK} {E : XK} (T : BTxt K mg C) (M : Meth K C "wash" g) (b : Binds K fd ["self", "vat"] []) (G : FnOk P w K mg base (L2.CX P w) 3 g fd ["self", "vat"] (spWash CN C))
    (hL : LamAt 2 H f (.ref p) x2 x3) (hB : BenchAt C H p r o W st z ds os) (hd : ds.length ≤ 100) (ho : os.length ≤ 100) (hx : BadN (W.vats.length - 1) H x2) (q : ∀ H', Same H H' → Q (.str "number") H') : spRefused P w K mg base 16 CW CN CS [.ref f] H Q E := by
  obtain ⟨c', clo, h1, h2, h3⟩ := hL
  refine ⟨f, lamSp 2 (tL1 CN C) f, rfl, (lam1_ok T M b G).mono (by decide), fun Q' E' hE => ⟨c', clo, _, h1, h2, h3, rfl, ?_⟩⟩
  have hB2 := hB.hide h3.ext
  obtain ⟨⟨dx, fs, wv, nv, hp, bf, hw, hn⟩, _, _, _⟩ := id hB2
  refine ⟨_, rfl, p, dx, fs, rfl, hp, bf.m _ (by decide +kernel) (by decide +kernel) (by decide +kernel) (by decide +kernel) (by decide +kernel), _, rfl, p, r, o, x2, W, st, z, ds, os, rfl, hB2, hd, ho, .inr ⟨hx.hide h3.ext, fun _ => ?_⟩⟩
  rw [show_hide]
  exact hE _ _ _ (.inl ⟨rfl, rfl, q⟩)
theorem ref_dye {f g p r o PW TC CW CN CS C : Addr} {fd : FuncData} {H : Hp} {x2 x3 : V} {W : WorksD} {st : List (List Int)} {z : Int} {ds : List DeedD} {os : List (List (List Int) × Int)} {Q : VK} {E : XK} (T : BTxt K mg C) (M : Meth K C "dye" g) (b : Binds K fd ["self", "kind", "route"] []) (G : FnOk P w K mg base (L2.CX P w) 9 g fd ["self", "kind", "route"] (spDye PW TC CN C))
    (hL : LamAt 1 H f (.ref p) x2 x3) (hB : BenchAt C H p r o W st z ds os) (hd : ds.length ≤ 100) (ho : os.length ≤ 100) (hx : BadN (W.kinds.length - 1) H x2 ∨ ∃ (k : Int) (kd : KindD), x2 = .int k ∧ 0 ≤ k ∧ W.kinds[k.toNat]? = some kd ∧ BadN (kd.routes.length - 1) H x3) (q : ∀ H', Same H H' → Q (.str "number") H') : spRefused P w K mg base 16 CW CN CS [.ref f] H Q E := by
  obtain ⟨c', clo, h1, h2, h3⟩ := hL
  refine ⟨f, lamSp 1 (tL0 PW TC CN C) f, rfl, (lam0_ok T M b G).mono (by decide), fun Q' E' hE => ⟨c', clo, _, h1, h2, h3, rfl, ?_⟩⟩
  have hB2 := hB.hide h3.ext
  obtain ⟨⟨dx, fs, wv, nv, hp, bf, hw, hn⟩, _, _, _⟩ := id hB2
  refine ⟨_, rfl, p, dx, fs, rfl, hp, bf.m _ (by decide +kernel) (by decide +kernel) (by decide +kernel) (by decide +kernel) (by decide +kernel), _, rfl, _, rfl, p, r, o, x2, x3, W, st, z, ds, os, rfl, hB2, hd, ho, .inr ⟨?_, fun _ => ?_⟩⟩
  · rcases hx with hx | ⟨k, kd, e, k0, k1, hx⟩
    · exact .inl (hx.hide h3.ext)
    · exact .inr ⟨k, kd, e, k0, k1, hx.hide h3.ext⟩
  · rw [show_hide]
    exact hE _ _ _ (.inl ⟨rfl, rfl, q⟩)
theorem ref_works {f g TL TR TK TN TC CW CN CS C : Addr} {fd : FuncData} {H : Hp} {x1 x2 x3 : V} {Q : VK} {E : XK} (T : BTxt K mg C) (M : Mk K C g) (b : Binds K fd ["self", "works"] []) (G : FnOk P w K mg base (L2.CX P w) 14 g fd ["self", "works"] (spBI TL TR TK TN TC CW C))
    (hL : LamAt 4 H f x1 x2 x3) (hx : NoWorks H x2) (q : ∀ (t : Addr) (H' : Hp), Same H H' → H' t = some (.tup [.str "works", .str "works"]) → Q (.ref t) H') : spRefused P w K mg base 16 CW CN CS [.ref f] H Q E := by
  obtain ⟨c', clo, h1, h2, h3⟩ := hL
  refine ⟨f, lamSp 4 (tL3 TL TR TK TN TC CW C) f, rfl, lam3_ok T M b G, fun Q' E' hE => ⟨c', clo, _, h1, h2, h3, rfl, ?_⟩⟩
  have aE := h3.ext
  refine ⟨_, rfl, fun x dx nx ndx nex => ⟨x, dx, x2, rfl, upd_same, .inr ⟨?_, fun d H' s' hd hnone => ?_⟩⟩⟩
  · have s0 : Same (hideH (clo.map (·.2)) H) (upd (upd (hideH (clo.map (·.2)) H) dx (.own x)) x (.ins C dx [])) := fun bb u e => by
      rw [upd_ne (ne_of_none e nx), upd_ne (ne_of_none e ndx)]
      exact e
    cases hx with
    | non => exact .non
    | tup h => exact .tup (s0 _ _ (hide_keep aE h (fun φ z => by cases z)))
    | lst h => exact .lst (s0 _ _ (hide_keep aE h (fun φ z => by cases z)))
  · refine hE _ _ _ (.inr (.inr ⟨rfl, d, rfl, ?_, fun t H2 s2 ht => q t H2 (fun bb u e => s2 bb u ?_) ht⟩))
    · rw [show_out (fun hc => ?_)]
      · exact hd
      · rw [hnone d hc] at hd; cases hd
    · by_cases hb : bb ∈ clo.map (·.2)
      · rw [show_in hb]; exact e
      · rw [show_out hb]
        have e2 : hideH (clo.map (·.2)) H bb = some u := by rw [hide_out hb]; exact e
        refine s' bb u ?_
        rw [upd_ne (ne_of_none e2 nx), upd_ne (ne_of_none e2 ndx)]
        exact e2
end
end Dy
set_option Elab.async false
set_option maxRecDepth 100000
set_option maxHeartbeats 4000000
namespace Dy
open PySem PySem.Spec PyProof.Rows L2 GenW RZ
/-! ### alike data -/
theorem ad_seq {n : Nat} {H : Hp} {a b : Addr} {xs ys : List V} (h : (H a = some (.tup xs) ∧ H b = some (.tup ys)) ∨ (H a = some (.lst xs) ∧ H b = some (.lst ys))) (hl : xs.length = ys.length) (h2 : ys.length ≤ 1000) (k : ∀ (i : Nat) (u v : V), xs[i]? = some u → ys[i]? = some v → AD n H u v) : AD (n + 1) H (.ref a) (.ref b) :=
  .inr ⟨a, b, xs, ys, rfl, rfl, h, hl, h2, k⟩
theorem ad_TI {H : Hp} {x y : V} {ns : List Int} (hx : TI H x ns) (hy : TI H y ns) (hl : ns.length ≤ 1000) : AD 1 H x y := by
  obtain ⟨a, rfl, ha⟩ := hx
  obtain ⟨b, rfl, hb⟩ := hy
  refine ad_seq (.inl ⟨ha, hb⟩) rfl (by rw [List.length_map]; exact hl) fun i u v h1 h2 => ?_
  rw [h1] at h2
  cases h2
  obtain ⟨z, _, rfl⟩ := map_get h1
  exact .int z
theorem ad_TL {α : Type} {R : Hp → V → α → Prop} {n : Nat} {H : Hp} {x y : V} {as : List α} (hx : TL R H x as) (hy : TL R H y as) (hl : as.length ≤ 1000) (k : ∀ (u v : V) (c : α), c ∈ as → R H u c → R H v c → AD n H u v) : AD (n + 1) H x y := by
  obtain ⟨a, xs, rfl, ha, hA⟩ := hx
  obtain ⟨b, ys, rfl, hb, hB⟩ := hy
  refine ad_seq (.inl ⟨ha, hb⟩) (by rw [hA.len, hB.len]) (by rw [hB.len]; exact hl) fun i u v h1 h2 => ?_
  obtain ⟨c, hc, r1⟩ := hA.back h1
  obtain ⟨c2, hc2, r2⟩ := hB.back h2
  rw [hc] at hc2
  cases hc2
  exact k u v c (List.mem_of_getElem? hc) r1 r2
theorem ad_TT {H : Hp} {x y : V} {st : List (List Int)} (hx : TT H x st) (hy : TT H y st) (hl : st.length ≤ 1000) (h2 : ∀ l ∈ st, l.length ≤ 1000) : AD 2 H x y := ad_TL hx hy hl fun u v c m r1 r2 => ad_TI r1 r2 (h2 c m)
theorem ad_deed {H : Hp} {x y : V} {d : DeedD} (hx : DeedAt H x d) (hy : DeedAt H y d) : AD 1 H x y := by
  cases d with
  | dye k r =>
    obtain ⟨a, rfl, ha⟩ := hx
    obtain ⟨b, rfl, hb⟩ := hy
    refine ad_seq (.inl ⟨ha, hb⟩) rfl (by show 3 ≤ 1000; omega) fun i u v h1 h2 => ?_
    rw [h1] at h2
    cases h2
    match i, h1 with
    | 0, h1 => cases h1; exact .str _
    | 1, h1 => cases h1; exact .int _
    | 2, h1 => cases h1; exact .int _
    | i + 3, h1 => simp at h1
  | wash z =>
    obtain ⟨a, rfl, ha⟩ := hx
    obtain ⟨b, rfl, hb⟩ := hy
    refine ad_seq (.inl ⟨ha, hb⟩) rfl (by show 2 ≤ 1000; omega) fun i u v h1 h2 => ?_
    rw [h1] at h2
    cases h2
    match i, h1 with
    | 0, h1 => cases h1; exact .str _
    | 1, h1 => cases h1; exact .int _
    | i + 2, h1 => simp at h1
theorem ad_deeds {H : Hp} {x y : V} {ds : List DeedD} (hx : DeedsAt H x ds) (hy : DeedsAt H y ds) (hl : ds.length ≤ 1000) : AD 2 H x y := ad_TL hx hy hl fun u v c _ r1 r2 => ad_deed r1 r2
/-! ### the law's state -/
abbrev O3 : Type := List (List Int) × Int × List DeedD
def Old3At (H : Hp) (v : V) (q : O3) : Prop := ∃ a u t, v = .ref a ∧ H a = some (.tup [u, .int q.2.1, t]) ∧ TT H u q.1 ∧ DeedsAt H t q.2.2
theorem Old3At.tk {H H' : Hp} {v : V} {q : O3} (h : Old3At H v q) (t : Tk H H') : Old3At H' v q := by
  obtain ⟨a, u, w, e, x, r1, r2⟩ := h
  exact ⟨a, u, w, e, t a _ x, r1.tk t, r2.tk t⟩
inductive Chain (W : WorksD) : List O3 → List DeedD → Prop where
  | nil : Chain W [] []
  | snoc {os : List O3} {ds : List DeedD} {st : List (List Int)} {z : Int} {d : DeedD} (h : Chain W os ds) (s : StandOk W st) : Chain W (os ++ [(st, z, ds)]) (ds ++ [d])
theorem Chain.len {W : WorksD} {os : List O3} {ds : List DeedD} (h : Chain W os ds) : ds.length = os.length := by
  induction h with
  | nil => rfl
  | snoc h s ih => simp [ih]
def osB (os : List O3) : List (List (List Int) × Int) := os.map fun q => (q.1, q.2.1)
/-- lists, instances -/
def Mv (H : Hp) (b : Addr) : Prop := (∃ xs, H b = some (.lst xs)) ∨ ∃ C dx fs, H b = some (.ins C dx fs)
theorem mv_not {H : Hp} {b : Addr} {u : HO} (h : Mv H b) (e : H b = some u) (n1 : ∀ xs, u ≠ .lst xs) (n2 : ∀ C dx fs, u ≠ .ins C dx fs) : False := by
  rcases h with ⟨xs, h⟩ | ⟨C, dx, fs, h⟩
  · rw [e] at h; exact n1 xs (Option.some.inj h)
  · rw [e] at h; exact n2 C dx fs (Option.some.inj h)
theorem Ex.keep {S : List Addr} {H H' : Hp} (e : Ex S H H') (m : ∀ b ∈ S, Mv H b) {b : Addr} {u : HO} (h : H b = some u) (n1 : ∀ xs, u ≠ .lst xs) (n2 : ∀ C dx fs, u ≠ .ins C dx fs) : H' b = some u := e b u (fun z => mv_not (m b z) h n1 n2) h
theorem TabN.ex {S : List Addr} {H H' : Hp} {P : Addr} (t : TabN H P) (e : Ex S H H') (m : ∀ b ∈ S, Mv H b) : TabN H' P := by
  obtain ⟨ps, h1, h2, h3⟩ := t
  refine ⟨ps, e.keep m h1 (fun _ z => by cases z) (fun _ _ _ z => by cases z), h2, fun pos cv hc => ?_⟩
  obtain ⟨c', P', a, b, d⟩ := h3 pos cv hc
  exact ⟨c', P', a, e.keep m b (fun _ z => by unfold CodeX at z; cases z) (fun _ _ _ z => by unfold CodeX at z; cases z), e.keep m d (fun _ z => by unfold TabX at z; cases z) (fun _ _ _ z => by unfold TabX at z; cases z)⟩
theorem tabS_ex {S : List Addr} {H H' : Hp} {P : Addr} {q : Str} (t : LamX.TabS H P q) (e : Ex S H H') (m : ∀ b ∈ S, Mv H b) : LamX.TabS H' P q := by
  obtain ⟨ps, h1, h2, h3⟩ := t
  refine ⟨ps, e.keep m h1 (fun _ z => by cases z) (fun _ _ _ z => by cases z), h2, fun pos cv hc => ?_⟩
  obtain ⟨c', a, b⟩ := h3 pos cv hc
  exact ⟨c', a, e.keep m b (fun _ z => by unfold LamX.CodeO at z; cases z) (fun _ _ _ z => by unfold LamX.CodeO at z; cases z)⟩
theorem TabN.extP {H H' : Hp} {P L : Addr} {q : Str} (t : TabN H P) (l : LamX.TabS H L q) (n : P ≠ L) (e : ExtP L H H') : TabN H' P := by
  obtain ⟨ps, h1, h2, h3⟩ := t
  obtain ⟨pl, hl, _⟩ := l
  refine ⟨ps, e _ _ n h1, h2, fun pos cv hc => ?_⟩
  obtain ⟨c', P', a, b, d⟩ := h3 pos cv hc
  exact ⟨c', P', a, e _ _ (fun z => by rw [z, hl] at b; unfold CodeX at b; cases b) b, e _ _ (fun z => by rw [z, hl] at d; unfold TabX at d; cases d) d⟩
theorem tabS_one {H H' : Hp} {P L : Addr} {q : Str} {S : List Addr} (t : TabN H P) (l : LamX.TabS H L q) (n : P ≠ L) (e : Ex (S ++ [P]) H H') (m : ∀ b ∈ S, Mv H b) : LamX.TabS H' L q := by
  obtain ⟨ps, h1, _⟩ := t
  obtain ⟨pl, hl, h2, h3⟩ := l
  have out : ∀ {b : Addr} {u : HO}, H b = some u → (∀ xs, u ≠ .lst xs) → (∀ C dx fs, u ≠ .ins C dx fs) → b ≠ P → H' b = some u := fun {b u} h n1 n2 n3 => e b u (fun z => by
    rcases List.mem_append.mp z with z | z
    · exact mv_not (m b z) h n1 n2
    · exact n3 (List.mem_singleton.mp z)) h
  refine ⟨pl, out hl (fun _ z => by cases z) (fun _ _ _ z => by cases z) n.symm, h2, fun pos cv hc => ?_⟩
  obtain ⟨c', a, b⟩ := h3 pos cv hc
  exact ⟨c', a, out b (fun _ z => by unfold LamX.CodeO at z; cases z) (fun _ _ _ z => by unfold LamX.CodeO at z; cases z) (fun z => by rw [z, h1] at b; unfold LamX.CodeO at b; cases b)⟩
structure LL (C PW PL s a p r o : Addr) (H0 : Hp) (W : WorksD) (wv : V) (H : Hp) (stb : List (List Int)) (zb : Int) (dsb : List DeedD) (osb : List (List (List Int) × Int)) (sv dv : V) (lo : Addr) (st : List (List Int)) (ds : List DeedD) (os : List O3) : Prop where
  rw : RwS s H a
  wk : WorksAt H wv W
  be : BenchAt C H p r o W stb zb dsb osb
  sv : TT H sv st
  dv : DeedsAt H dv ds
  ol : ∃ xs, H lo = some (.lst xs) ∧ AllAt (Old3At H) xs os
  tn : TabN H PW
  ts : LamX.TabS H PL lamQ
  nt : PW ≠ PL
  ex : Ex [PW, PL] H0 H
  nar : a ≠ r
  nao : a ≠ o
  nlr : lo ≠ r
  nlo : lo ≠ o
  nla : lo ≠ a
  za : H0 a = none
  zp : H0 p = none
  zr : H0 r = none
  zo : H0 o = none
  zl : H0 lo = none
section
variable {C PW PL s a p r o : Addr} {H0 : Hp} {W : WorksD} {wv : V} {H H' : Hp} {stb stb' : List (List Int)} {zb zb' : Int} {dsb dsb' : List DeedD} {osb osb' : List (List (List Int) × Int)} {sv dv : V} {lo : Addr} {st : List (List Int)} {ds : List DeedD} {os : List O3}
theorem RwS.mv (h : RwS s H a) : Mv H a := by
  obtain ⟨x, y, z, h1, _⟩ := h
  exact .inl ⟨_, h1⟩
theorem BenchAt.mvp (h : BenchAt C H p r o W stb zb dsb osb) : Mv H p := by
  obtain ⟨⟨dx, fs, wv, nv, h, _⟩, _⟩ := h
  exact .inr ⟨_, _, _, h⟩
theorem BenchAt.mvr (h : BenchAt C H p r o W stb zb dsb osb) : Mv H r := by
  obtain ⟨_, ⟨xs, h, _⟩, _⟩ := h
  exact .inl ⟨_, h⟩
theorem BenchAt.mvo (h : BenchAt C H p r o W stb zb dsb osb) : Mv H o := by
  obtain ⟨_, _, ⟨xs, h, _⟩, _⟩ := h
  exact .inl ⟨_, h⟩
theorem BenchAt.nel (h : BenchAt C H p r o W stb zb dsb osb) {b : Addr} {xs : List V} (e : H b = some (.lst xs)) : b ≠ p := by
  obtain ⟨⟨dx, fs, wv, nv, h, _⟩, _⟩ := h
  exact ne_of e h (by intro z; cases z)
theorem ex2 {S T : List Addr} {H0 H H' : Hp} (e : Ex S H0 H) (e2 : Ex T H H') (h : ∀ b ∈ T, b ∈ S ∨ H0 b = none) : Ex S H0 H' := fun b u n z => e2 b u (fun m => by
  rcases h b m with q | q
  · exact n q
  · rw [q] at z; cases z) (e b u n z)
theorem mv1 {b : Addr} (h : Mv H b) : ∀ x ∈ [b], Mv H x := fun x m => by rw [List.mem_singleton.mp m]; exact h
theorem Ex.tkm {S : List Addr} (e : Ex S H H') (m : ∀ b ∈ S, Mv H b) : Tk H H' := fun b xs h => e.keep m h (fun _ z => by cases z) (fun _ _ _ z => by cases z)
/-- a draw -/
theorem LL.taken (L : LL C PW PL s a p r o H0 W wv H stb zb dsb osb sv dv lo st ds os) (e : Ex [a] H H') (hr : RwS s H' a) : LL C PW PL s a p r o H0 W wv H' stb zb dsb osb sv dv lo st ds os := by
  have m := mv1 L.rw.mv
  have t := e.tkm m
  obtain ⟨xs, h1, h2⟩ := L.ol
  obtain ⟨x, y, z, ha, _⟩ := L.rw
  exact ⟨hr, L.wk.tk t, L.be.stay t fun b hb u h => e b u (by
      rcases hb with q | q | q
      · rw [q]; simpa using (L.be.nel ha).symm
      · rw [q]; simpa using L.nar.symm
      · rw [q]; simpa using L.nao.symm) h, L.sv.tk t, L.dv.tk t, ⟨xs, e _ _ (by simpa using L.nla) h1, h2.mono fun _ _ k => k.tk t⟩, L.tn.ex e m, tabS_ex L.ts e m, L.nt, ex2 L.ex e (fun b hb => .inr (by rw [List.mem_singleton.mp hb]; exact L.za)), L.nar, L.nao, L.nlr, L.nlo, L.nla, L.za, L.zp, L.zr, L.zo, L.zl⟩
theorem LL.same (L : LL C PW PL s a p r o H0 W wv H stb zb dsb osb sv dv lo st ds os) (e : Same H H') : LL C PW PL s a p r o H0 W wv H' stb zb dsb osb sv dv lo st ds os := by
  have t := Tk.same e
  obtain ⟨xs, h1, h2⟩ := L.ol
  exact ⟨L.rw.same e, L.wk.tk t, L.be.same e, L.sv.tk t, L.dv.tk t, ⟨xs, e _ _ h1, h2.mono fun _ _ k => k.tk t⟩, L.tn.same e, LamX.TabS.ext L.ts e, L.nt, L.ex.trans (Ex.same e), L.nar, L.nao, L.nlr, L.nlo, L.nla, L.za, L.zp, L.zr, L.zo, L.zl⟩
/-- the lambdas are made -/
theorem LL.calls (L : LL C PW PL s a p r o H0 W wv H stb zb dsb osb sv dv lo st ds os) (e : ExtP PL H H') (ht : LamX.TabS H' PL lamQ) : LL C PW PL s a p r o H0 W wv H' stb zb dsb osb sv dv lo st ds os := by
  obtain ⟨pl, hpl, hx⟩ := L.ts
  have out : ∀ {b : Addr} {u : HO}, H b = some u → (∀ ps, u ≠ .tbl ps) → H' b = some u := fun {b u} h n => e b u (fun z => by rw [z, hpl] at h; exact n pl (Option.some.inj h).symm) h
  have t : Tk H H' := fun b xs h => out h fun ps z => by cases z
  obtain ⟨xs, h1, h2⟩ := L.ol
  obtain ⟨x, y, z, ha, hz⟩ := L.rw
  exact ⟨⟨x, y, z, out ha (fun ps z => by cases z), hz⟩, L.wk.tk t, L.be.stay t fun b hb u h => out h fun ps z => by
      rcases hb with q | q | q
      · subst q; exact mv_not L.be.mvp h (fun _ y => by rw [z] at y; cases y) (fun _ _ _ y => by rw [z] at y; cases y)
      · subst q; exact mv_not L.be.mvr h (fun _ y => by rw [z] at y; cases y) (fun _ _ _ y => by rw [z] at y; cases y)
      · subst q; exact mv_not L.be.mvo h (fun _ y => by rw [z] at y; cases y) (fun _ _ _ y => by rw [z] at y; cases y),
    L.sv.tk t, L.dv.tk t, ⟨xs, out h1 (fun ps z => by cases z), h2.mono fun _ _ k => k.tk t⟩, L.tn.extP L.ts L.nt e, ht, L.nt, ex2 L.ex (Ex.extP e) (fun b hb => .inl (by rw [List.mem_singleton.mp hb]; simp)), L.nar, L.nao, L.nlr, L.nlo, L.nla, L.za, L.zp, L.zr, L.zo, L.zl⟩
/-- a step of the bench -/
theorem LL.bench (L : LL C PW PL s a p r o H0 W wv H stb zb dsb osb sv dv lo st ds os) (e : Ex [p, r, o, PW] H H') (ht : TabN H' PW) (hb : BenchAt C H' p r o W stb' zb' dsb' osb') : LL C PW PL s a p r o H0 W wv H' stb' zb' dsb' osb' sv dv lo st ds os := by
  have m : ∀ b ∈ [p, r, o], Mv H b := fun b hb => by
    rcases List.mem_cons.mp hb with q | q
    · rw [q]; exact L.be.mvp
    · rcases List.mem_cons.mp q with q | q
      · rw [q]; exact L.be.mvr
      · rw [List.mem_singleton.mp q]; exact L.be.mvo
  obtain ⟨pw, hpw, _⟩ := L.tn
  have t : Tk H H' := fun b xs h => e b _ (fun z => by
    have z : b ∈ [p, r, o] ++ [PW] := z
    rcases List.mem_append.mp z with z | z
    · exact mv_not (m b z) h (fun _ z => by cases z) (fun _ _ _ z => by cases z)
    · rw [List.mem_singleton.mp z, hpw] at h; cases h) h
  obtain ⟨xs, h1, h2⟩ := L.ol
  obtain ⟨x, y, z, ha, hz⟩ := L.rw
  have nPa : a ≠ PW := ne_of ha hpw (by intro z; cases z)
  have nPl : lo ≠ PW := ne_of h1 hpw (by intro z; cases z)
  exact ⟨⟨x, y, z, e _ _ (by simp [L.be.nel ha, L.nar, L.nao, nPa]) ha, hz⟩, L.wk.tk t, hb, L.sv.tk t, L.dv.tk t, ⟨xs, e _ _ (by simp [L.be.nel h1, L.nlr, L.nlo, nPl]) h1, h2.mono fun _ _ k => k.tk t⟩, ht, tabS_one (S := [p, r, o]) L.tn L.ts L.nt e m, L.nt,
    ex2 L.ex e (fun b hb => by
      rcases List.mem_cons.mp hb with q | q
      · rw [q]; exact .inr L.zp
      · rcases List.mem_cons.mp q with q | q
        · rw [q]; exact .inr L.zr
        · rcases List.mem_cons.mp q with q | q
          · rw [q]; exact .inr L.zo
          · rw [List.mem_singleton.mp q]; exact .inl (by simp)), L.nar, L.nao, L.nlr, L.nlo, L.nla, L.za, L.zp, L.zr, L.zo, L.zl⟩
/-- a step of the bench that leaves the table -/
theorem LL.bench3 (L : LL C PW PL s a p r o H0 W wv H stb zb dsb osb sv dv lo st ds os) (e : Ex [p, r, o] H H') (hb : BenchAt C H' p r o W stb' zb' dsb' osb') : LL C PW PL s a p r o H0 W wv H' stb' zb' dsb' osb' sv dv lo st ds os := by
  refine L.bench (e.mono (by simp)) (L.tn.ex e fun b hb => ?_) hb
  rcases List.mem_cons.mp hb with q | q
  · rw [q]; exact L.be.mvp
  · rcases List.mem_cons.mp q with q | q
    · rw [q]; exact L.be.mvr
    · rw [List.mem_singleton.mp q]; exact L.be.mvo
theorem LL.zn (L : LL C PW PL s a p r o H0 W wv H stb zb dsb osb sv dv lo st ds os) {b : Addr} (h : H b = none) : H0 b = none := by
  cases z : H0 b with
  | none => rfl
  | some u =>
    obtain ⟨pw, hpw, _⟩ := L.tn
    obtain ⟨pl, hpl, _⟩ := L.ts
    have n1 : b ≠ PW := fun q => by rw [q, hpw] at h; cases h
    have n2 : b ≠ PL := fun q => by rw [q, hpl] at h; cases h
    rw [L.ex b u (by simp [n1, n2]) z] at h
    cases h
/-- new values of the law's names, a new list lo' among them -/
theorem LL.vals {sv' dv' : V} {lo' : Addr} {st' : List (List Int)} {ds' : List DeedD} {os' : List O3} (L : LL C PW PL s a p r o H0 W wv H stb zb dsb osb sv dv lo st ds os) (h1 : TT H sv' st') (h2 : DeedsAt H dv' ds') (h3 : ∃ xs, H lo' = some (.lst xs) ∧ AllAt (Old3At H) xs os') (n1 : lo' ≠ r) (n2 : lo' ≠ o) (n3 : lo' ≠ a) (z : H0 lo' = none) :
    LL C PW PL s a p r o H0 W wv H stb zb dsb osb sv' dv' lo' st' ds' os' := ⟨L.rw, L.wk, L.be, h1, h2, h3, L.tn, L.ts, L.nt, L.ex, L.nar, L.nao, n1, n2, n3, L.za, L.zp, L.zr, L.zo, z⟩
/-- an address that is free is none of the law's -/
theorem LL.fresh (L : LL C PW PL s a p r o H0 W wv H stb zb dsb osb sv dv lo st ds os) {b : Addr} (h : H b = none) : b ≠ r ∧ b ≠ o ∧ b ≠ a := by
  obtain ⟨_, ⟨xs, hr, _⟩, ⟨ys, ho, _⟩, _⟩ := L.be
  exact ⟨fun z => (by rw [z, hr] at h; cases h), fun z => (by rw [z, ho] at h; cases h), L.rw.ne h⟩
theorem LL.scr {K : PySem.W.Frag} {ns : List Int} (L : LL C PW PL s a p r o H0 W wv H stb zb dsb osb sv dv lo st ds os) (h0 : SqL K H0 s (ns.map V.int)) (h1 : ∃ ps, H0 PW = some (.tbl ps)) (h2 : ∃ ps, H0 PL = some (.tbl ps)) : Scr K H s := by
  obtain ⟨pw, h1⟩ := h1
  obtain ⟨pl, h2⟩ := h2
  refine ⟨ns, ?_⟩
  rcases h0 with (h | ⟨o, h⟩) | h
  · exact .inl (.inl (L.ex _ _ (by simp [ne_of h h1 (by intro z; cases z), ne_of h h2 (by intro z; cases z)]) h))
  · exact .inl (.inr ⟨o, L.ex _ _ (by simp [ne_of h h1 (by intro z; cases z), ne_of h h2 (by intro z; cases z)]) h⟩)
  · exact .inr h
end
end Dy
set_option Elab.async false
set_option maxRecDepth 100000
set_option maxHeartbeats 4000000
namespace Dy
open PySem PySem.Spec PyProof.Rows L2 GenW RZ
/-! ### the law's olds as data -/
def pI (ns : List Int) : PyData := .tuple (ns.map PyData.int)
def pT (st : List (List Int)) : PyData := .tuple (st.map pI)
def pD : DeedD → PyData
  | .dye k r => .tuple [.str "dye", .int k, .int r]
  | .wash v => .tuple [.str "wash", .int v]
def pO (q : O3) : PyData := .tuple [pT q.1, .int q.2.1, .tuple (q.2.2.map pD)]
theorem dp_all {α : Type} {K : PySem.W.Frag} {H : Hp} {R : V → α → Prop} {f : α → PyData} (h : ∀ v a, R v a → Dp K H v (f a)) : ∀ {xs : List V} {as : List α}, AllAt R xs as → DpAll K H xs (as.map f)
  | [], [], _ => .nil
  | [], _ :: _, a => absurd a.len (by simp)
  | _ :: _, [], a => absurd a.len (by simp)
  | x :: xs, b :: as, a => by
    obtain ⟨y, h1, h2⟩ := a.at_ 0 b rfl
    have e : x = y := by simpa using h1
    subst e
    refine .cons (h _ _ h2) (dp_all h ⟨by simpa using a.len, fun i c e => ?_⟩)
    have := a.at_ (i + 1) c (by simpa using e)
    simpa using this
theorem dp_TI {K : PySem.W.Frag} {H : Hp} {v : V} {ns : List Int} (h : TI H v ns) : Dp K H v (pI ns) := by
  obtain ⟨a, rfl, ha⟩ := h
  exact .tup (SqT.of ha) (dp_ints ns)
theorem dp_TT {K : PySem.W.Frag} {H : Hp} {v : V} {st : List (List Int)} (h : TT H v st) : Dp K H v (pT st) := by
  obtain ⟨a, xs, rfl, ha, hA⟩ := h
  exact .tup (SqT.of ha) (dp_all (fun _ _ k => dp_TI k) hA)
theorem dp_deed {K : PySem.W.Frag} {H : Hp} {v : V} {d : DeedD} (h : DeedAt H v d) : Dp K H v (pD d) := by
  cases d with
  | dye k r =>
    obtain ⟨a, rfl, ha⟩ := h
    exact .tup (SqT.of ha) (.cons (.str _) (.cons (.int _) (.cons (.int _) .nil)))
  | wash z =>
    obtain ⟨a, rfl, ha⟩ := h
    exact .tup (SqT.of ha) (.cons (.str _) (.cons (.int _) .nil))
theorem dp_old {K : PySem.W.Frag} {H : Hp} {v : V} {q : O3} (h : Old3At H v q) : Dp K H v (pO q) := by
  obtain ⟨a, u, t, rfl, ha, h1, ⟨b, xs, rfl, hb, hB⟩⟩ := h
  exact .tup (SqT.of ha) (.cons (dp_TT h1) (.cons (.int _) (.cons (.tup (SqT.of hb) (dp_all (fun _ _ k => dp_deed k) hB)) .nil)))
/-- a datum that == may look at, of depth n at most -/
def Sh (n : Nat) (d : PyData) : Prop := d.canLay0 = true ∧ d.depth ≤ n
theorem sh_all {α : Type} {n : Nat} {f : α → PyData} (h : ∀ a, Sh n (f a)) : ∀ as : List α, PyData.canLayAll0 (as.map f) = true ∧ PyData.depthAll (as.map f) ≤ n
  | [] => ⟨rfl, by simp [PyData.depthAll]⟩
  | a :: as => by
    obtain ⟨h1, h2⟩ := h a
    obtain ⟨k1, k2⟩ := sh_all h as
    refine ⟨?_, ?_⟩
    · show (PyData.canLay0 (f a) && PyData.canLayAll0 (as.map f)) = true
      rw [h1, k1]; rfl
    · simp only [List.map_cons, PyData.depthAll]
      omega
theorem sh_tup {n : Nat} {ds : List PyData} (h : PyData.canLayAll0 ds = true ∧ PyData.depthAll ds ≤ n) : Sh (n + 1) (.tuple ds) := ⟨h.1, by simp only [PyData.depth]; omega⟩
theorem sh_int (i : Int) : Sh 1 (.int i) := ⟨rfl, by simp [PyData.depth]⟩
theorem Sh.up {n m : Nat} {d : PyData} (h : Sh n d) (l : n ≤ m) : Sh m d := ⟨h.1, Nat.le_trans h.2 l⟩
theorem sh_pI (ns : List Int) : Sh 2 (pI ns) := sh_tup (sh_all sh_int ns)
theorem sh_pT (st : List (List Int)) : Sh 3 (pT st) := sh_tup (sh_all sh_pI st)
theorem sh_pD (d : DeedD) : Sh 3 (pD d) := by
  cases d with
  | dye k r => exact ⟨by show (PyData.canLay0 (.str "dye") && (PyData.canLay0 (.int k) && (PyData.canLay0 (.int r) && true))) = true; rw [(by decide +kernel : PyData.canLay0 (.str "dye") = true)]; rfl, by simp [pD, PyData.depth, PyData.depthAll]⟩
  | wash z => exact ⟨by show (PyData.canLay0 (.str "wash") && (PyData.canLay0 (.int z) && true)) = true; rw [(by decide +kernel : PyData.canLay0 (.str "wash") = true)]; rfl, by simp [pD, PyData.depth, PyData.depthAll]⟩
theorem sh_pO (q : O3) : Sh 5 (pO q) := by
  obtain ⟨h1, h2⟩ := sh_pT q.1
  obtain ⟨h3, h4⟩ := sh_tup (sh_all sh_pD q.2.2)
  refine ⟨?_, ?_⟩
  · show (PyData.canLay0 (pT q.1) && (PyData.canLay0 (.int q.2.1) && (PyData.canLay0 (.tuple (q.2.2.map pD)) && true))) = true
    rw [h1, h3]; rfl
  · simp only [pO, PyData.depth, PyData.depthAll] at h2 h4 ⊢
    omega
theorem shaped_of {n : Nat} {d : PyData} (h : Sh n d) (l : n ≤ 64) : SeqAt.shaped d = true := by
  unfold SeqAt.shaped
  rw [h.1, decide_eq_true (Nat.le_trans h.2 l)]
  rfl
theorem shaped_olds (os : List O3) : SeqAt.shaped (.list (os.map pO)) = true := by
  obtain ⟨h1, h2⟩ := sh_all sh_pO os
  exact shaped_of (n := 6) ⟨h1, by simp only [PyData.depth]; omega⟩ (by omega)
theorem cutV_last (xs : List V) : cutV xs none (some (-1)) = xs.dropLast := by
  unfold cutV
  have e1 : HT.sIx xs.length 0 none = 0 := rfl
  have e2 : HT.sIx xs.length xs.length (some (-1)) = xs.length - 1 := by
    show (if (-1 : Int) < 0 then ((-1 : Int) + (xs.length : Int)).toNat else min (-1 : Int).toNat xs.length) = _
    rw [if_pos (by omega)]
    omega
  rw [e1, e2, List.drop_zero, Nat.sub_zero, List.dropLast_eq_take]
theorem atI_m1 {xs : List V} {x : V} (h : xs[xs.length - 1]? = some x) : atI xs (-1) = some x := by
  have hl : 0 < xs.length := by
    cases xs with
    | nil => simp at h
    | cons _ _ => simp
  unfold atI
  have e : ixN xs.length (-1) = some (xs.length - 1) := by
    unfold ixN
    rw [if_neg (by omega), if_pos (by omega)]
    congr 1
    omega
  rw [e]
  exact h
theorem shaped_strs2 (s t : Str) (h : PyData.canLay0 (.str s) = true) (h2 : PyData.canLay0 (.str t) = true) : SeqAt.shaped (.list [.str s, .str t]) = true ∧ SeqAt.shaped (.tuple [.str s, .str t]) = true := by
  have hd : PyData.depth (.list [.str s, .str t]) ≤ 64 := by simp [PyData.depth, PyData.depthAll]
  have hd2 : PyData.depth (.tuple [.str s, .str t]) ≤ 64 := by simp [PyData.depth, PyData.depthAll]
  have hc : (PyData.canLay0 (.str s) && (PyData.canLay0 (.str t) && true)) = true := by rw [h, h2]; rfl
  exact ⟨shaped_of (n := 64) ⟨hc, hd⟩ (by omega), shaped_of (n := 64) ⟨hc, hd2⟩ (by omega)⟩
end Dy
set_option Elab.async false
set_option maxRecDepth 100000
set_option maxHeartbeats 8000000
namespace Dy
open PySem PySem.Spec PyProof.Rows L2 GenW RZ
theorem ad_state {H : Hp} {l1 l2 : Addr} {x1 x2 y1 y2 : V} {z : Int} (h1 : H l1 = some (.lst [x1, y1, .int z])) (h2 : H l2 = some (.lst [x2, y2, .int z])) (hx : AD 2 H x1 x2) (hy : AD 2 H y1 y2) : AD 3 H (.ref l1) (.ref l2) := by
  refine ad_seq (.inr ⟨h1, h2⟩) rfl (by show 3 ≤ 1000; omega) fun i u v e1 e2 => ?_
  match i, e1, e2 with
  | 0, e1, e2 => cases e1; cases e2; exact hx
  | 1, e1, e2 => cases e1; cases e2; exact hy
  | 2, e1, e2 => cases e1; cases e2; exact AD.flat (.int z)
  | i + 3, e1, e2 => simp at e1
theorem passN {P : Program} {w : World} {X : Cx} : Passes (L2.CX P w) X E0 := fun pins σ H s e s' I c => by
  obtain ⟨_, _, _, _, _, _, _, _, _, _, _, _, z⟩ := c
  exact z.elim
theorem WorksAt.inv {H : Hp} {a : Addr} {W : WorksD} (h : WorksAt H (.ref a) W) : ∃ a2 xs2 a3 xs3, H a = some (.tup [.int W.dyes, .ref a2, .ref a3]) ∧ H a2 = some (.tup xs2) ∧ AllAt (TI H) xs2 W.vats ∧ H a3 = some (.tup xs3) ∧ AllAt (KindAt H) xs3 W.kinds := by
  obtain ⟨a', v2, v3, e, h1, ⟨a2, xs2, rfl, h2, h3⟩, ⟨a3, xs3, rfl, h4, h5⟩⟩ := h
  cases e
  exact ⟨a2, xs2, a3, xs3, h1, h2, h3, h4, h5⟩
theorem KindAt.inv {H : Hp} {v : V} {k : KindD} (h : KindAt H v k) : ∃ a k1 k2 a5 xs5, v = .ref a ∧ H a = some (.tup [k1, k2, .ref a5]) ∧ H a5 = some (.tup xs5) ∧ AllAt (TI H) xs5 k.routes := by
  obtain ⟨a, v1, v2, v3, e, h1, _, _, ⟨a5, xs5, rfl, h4, h5⟩⟩ := h
  exact ⟨a, v1, v2, a5, xs5, e, h1, h4, h5⟩
/-- law's promise -/
def spLaw (K : PySem.W.Frag) (PW PL TL TR TK TN TC : Addr) : Sp := fun vs H Q _ => ∃ (s : Addr) (ns : List Int), vs = [.ref s] ∧ SqL K H s (ns.map V.int) ∧ H PW = some (.tbl #[]) ∧ H PL = some (.tbl #[]) ∧ PW ≠ PL ∧ Tbs TL TR TK TN TC H ∧ ∀ H', Ex [PW, PL] H H' → Q (.bl true) H'
theorem Tbs.ex {PW PL TL TR TK TN TC : Addr} {H H' : Hp} (t : Tbs TL TR TK TN TC H) (e : Ex [PW, PL] H H') (h1 : ∃ ps, H PW = some (.tbl ps)) (h2 : ∃ ps, H PL = some (.tbl ps)) : Tbs TL TR TK TN TC H' := by
  obtain ⟨p1, h1⟩ := h1
  obtain ⟨p2, h2⟩ := h2
  have k : ∀ {T : Addr}, H T = some (TabX T) → H' T = some (TabX T) := fun {T} h => e T _ (by
    have n1 : T ≠ PW := fun z => by rw [← z, h] at h1; exact tabX_ne T p1 (Option.some.inj h1)
    have n2 : T ≠ PL := fun z => by rw [← z, h] at h2; exact tabX_ne T p2 (Option.some.inj h2)
    simp [n1, n2]) h
  exact ⟨k t.l, k t.r, k t.k, k t.n, k t.c⟩
abbrev nmZ : List Str := ["_law_script", "_law_row", "_law_works_here", "_law_bench", "_law_stand", "_law_wrong", "_law_deeds", "_law_olds", "_law_turn", "_law_way", "_law_kind", "_law_number", "_law_good_here", "_law_vat", "_law_odd", "_law_work"]
theorem scLaw : FnScope nmZ ["_law_script"] (defScope sLaw) := ⟨rfl, rfl, rfl, by decide +kernel, rfl, by decide +kernel, by decide +kernel⟩
section
variable {P : Program} {w : World} {K : PySem.W.Frag} {mg : Str → Option Value} {base : Heap}
/-- all that law calls -/
structure Uses (P : Program) (w : World) (K : PySem.W.Frag) (mg : Str → Option Value) (base : Heap) (PW PL TL TR TK TN TC CW CN CS C : Addr) (fT fW fG fP fA fR fC fK fI fD fH fU p1 g1 p2 g2 p3 g3 cC : Addr) (dT dW dG dP dA dR dC dK dI dD dH dU d1 d2 d3 : FuncData) : Prop where
  DT : Dn K mg "_law_taken" sTaken ["_law_row", "_law_many"] fT dT
  GT : FnOk P w K mg base CX0 1 fT dT ["_law_row", "_law_many"] (spTaken K)
  DW : Dn K mg "_law_works" sWorks ["_law_row"] fW dW
  GW : FnOk P w K mg base CX0 3 fW dW ["_law_row"] (spWorks K)
  DG : Dn K mg "_law_good" sGood ["_law_works_here", "_law_stand", "_law_kind", "_law_number"] fG dG
  GG : FnOk P w K mg base CX0 2 fG dG ["_law_works_here", "_law_stand", "_law_kind", "_law_number"] spGood
  DP : Dn K mg "_law_pass" sPass ["_law_stand", "_law_route"] fP dP
  GP : FnOk P w K mg base CX0 1 fP dP ["_law_stand", "_law_route"] spPass
  DA : Dn K mg "_law_alike" sAlike ["_law_found", "_law_due"] fA dA
  GA : FnOk P w K mg base CX0 4 fA dA ["_law_found", "_law_due"] (spAlike 3)
  DR : Dn K mg "_law_refused" sRefused ["_law_work"] fR dR
  GR : FnOk P w K mg base CX0 17 fR dR ["_law_work"] (spRefused P w K mg base 16 CW CN CS)
  DC : Dc K mg "_law_calls" sCalls ["_law_one", "_law_other", "_law_third"] fC dC cC
  GC : FnOk P w K mg base CX0 1 fC dC ["_law_one", "_law_other", "_law_third"] (spCalls PL)
  DK : Dn K mg "_law_pick" sPick ["_law_row", "_law_things"] fK dK
  GK : FnOk P w K mg base CX0 2 fK dK ["_law_row", "_law_things"] (spPick K)
  MI : Mk K C fI
  bI : Binds K dI ["self", "works"] []
  GI : FnOk P w K mg base (L2.CX P w) 14 fI dI ["self", "works"] (spBI TL TR TK TN TC CW C)
  MD : Meth K C "dye" fD
  bD : Binds K dD ["self", "kind", "route"] []
  GD : FnOk P w K mg base (L2.CX P w) 9 fD dD ["self", "kind", "route"] (spDye PW TC CN C)
  MH : Meth K C "wash" fH
  bH : Binds K dH ["self", "vat"] []
  GH : FnOk P w K mg base (L2.CX P w) 3 fH dH ["self", "vat"] (spWash CN C)
  MU : Meth K C "undo" fU
  bU : Binds K dU ["self"] []
  GU : FnOk P w K mg base (L2.CX P w) 1 fU dU ["self"] (spUndo CS C)
  P1 : PropOf K C "stand" p1 g1
  b1 : Binds K d1 ["self"] []
  G1 : FnOk P w K mg base CX0 1 g1 d1 ["self"] (spStand C)
  P2 : PropOf K C "deeds" p2 g2
  b2 : Binds K d2 ["self"] []
  G2 : FnOk P w K mg base CX0 1 g2 d2 ["self"] (spDeeds C)
  P3 : PropOf K C "bad" p3 g3
  b3 : Binds K d3 ["self"] []
  G3 : FnOk P w K mg base CX0 1 g3 d3 ["self"] (spBad C)
theorem ok_law {f PW PL TL TR TK TN TC CW CN CS C fT fW fG fP fA fR fC fK fI fD fH fU p1 g1 p2 g2 p3 g3 cC : Addr} {fd dT dW dG dP dA dR dC dK dI dD dH dU d1 d2 d3 : FuncData} (F : Fun K "law" "law" sLaw f fd) (B : Blt mg) (T : BTxt K mg C)
    (U : Uses P w K mg base PW PL TL TR TK TN TC CW CN CS C fT fW fG fP fA fR fC fK fI fD fH fU p1 g1 p2 g2 p3 g3 cC dT dW dG dP dA dR dC dK dI dD dH dU d1 d2 d3) : FnOk P w K mg base CX0 18 f fd ["_law_script"] (spLaw K PW PL TL TR TK TN TC) := by
  refine F.ok scLaw (fun vs H Q E h => ?_) (fun cdv A outer s H vs Q E hr h => ?_)
  · obtain ⟨sc, ns, rfl, _⟩ := h
    rfl
  · obtain ⟨sc, ns, rfl, hsc, hPW, hPL, nPP, hTb, q⟩ := h
    have hr1 : Room 1 (A.deeper (envOfC "law" (defScope sLaw) s.heap.objs.size f cdv)) := hr.mono (by decide)
    have hr2 : Room 2 (A.deeper (envOfC "law" (defScope sLaw) s.heap.objs.size f cdv)) := hr.mono (by decide)
    have hr3 : Room 3 (A.deeper (envOfC "law" (defScope sLaw) s.heap.objs.size f cdv)) := hr.mono (by decide)
    have hr4 : Room 4 (A.deeper (envOfC "law" (defScope sLaw) s.heap.objs.size f cdv)) := hr.mono (by decide)
    have hr9 : Room 9 (A.deeper (envOfC "law" (defScope sLaw) s.heap.objs.size f cdv)) := hr.mono (by decide)
    have hr15 : Room 15 (A.deeper (envOfC "law" (defScope sLaw) s.heap.objs.size f cdv)) := hr.mono (by decide)
    have hu : (A.deeper (envOfC "law" (defScope sLaw) s.heap.objs.size f cdv)).units + 64 < cLine := hr.units
    refine ⟨_, (pss_cons (ps_set (i := 1) scLaw.nd rfl (Or.inl rfl) (pe_lst (pa_cons (pv 0) (pa_cons pe_int (pa_cons pe_int (pa_cons pe_int pa_nil)))))) (pss_cons (ps_set (i := 2) scLaw.nd rfl (Or.inl rfl) (pe_call U.GW hr3 (by rfl) U.DW.g U.DW.F.kp U.DW.b .nil pass0 (pa_cons (pv 1) pa_nil))) (pss_cons (ps_asg (pe_tup (pa_cons (pe_make U.MI U.GI hr15 (by rfl) T.g U.bI .nil passN (pa_cons (pv 2) pa_nil)) (pa_cons (pe_ix ix_tup (pv 2) pe_int (fun _ _ => rfl)) (pa_cons pe_int (pa_cons (pe_tup pa_nil) (pa_cons (pe_lst pa_nil) pa_nil)))))) (pg_tup (by rfl) (pgs_cons (pg_name (i := 3) scLaw.nd rfl (Or.inl rfl)) (pgs_cons (pg_name (i := 4) scLaw.nd rfl (Or.inl rfl)) (pgs_cons (pg_name (i := 5) scLaw.nd rfl (Or.inl rfl)) (pgs_cons (pg_name (i := 6) scLaw.nd rfl (Or.inl rfl)) (pgs_cons (pg_name (i := 7) scLaw.nd rfl (Or.inl rfl)) pgs_nil))))))) (pss_cons (ps_for PassesOwn.never rfl (pi_range1 (by rfl) B.range (pa_cons (pe_call U.GT hr1 (by rfl) U.DT.g U.DT.F.kp U.DT.b .nil pass0 (pa_cons (pv 1) (pa_cons pe_int pa_nil))) pa_nil)) (pg_name (i := 8) scLaw.nd rfl (Or.inl rfl))
        (pss_cons (ps_set (i := 9) scLaw.nd rfl (Or.inl rfl) (pe_call U.GT hr1 (by rfl) U.DT.g U.DT.F.kp U.DT.b .nil pass0 (pa_cons (pv 1) (pa_cons pe_int pa_nil)))) (pss_cons (ps_if (pt_cmpR op_lt (pv 9) pe_int (nomark _)) (pss_cons (ps_set (i := 10) scLaw.nd rfl (Or.inl rfl) (pe_call U.GT hr1 (by rfl) U.DT.g U.DT.F.kp U.DT.b .nil pass0 (pa_cons (pv 1) (pa_cons (pe_callB call_len_seq (by rfl) B.len PySem.boot_len (pa_cons (pe_ix ix_tup (pv 2) pe_int (fun _ _ => rfl)) pa_nil)) pa_nil)))) (pss_cons (ps_set (i := 11) scLaw.nd rfl (Or.inl rfl) (pe_call U.GT hr1 (by rfl) U.DT.g U.DT.F.kp U.DT.b .nil pass0 (pa_cons (pv 1) (pa_cons (pe_callB call_len_seq (by rfl) B.len PySem.boot_len (pa_cons (pe_ix ix_tup (pe_ix ix_tup (pe_ix ix_tup (pv 2) pe_int (fun _ _ => rfl)) (pv 10) (fun _ _ => rfl)) pe_int (fun _ _ => rfl)) pa_nil)) pa_nil)))) (pss_cons (ps_set (i := 12) scLaw.nd rfl (Or.inl rfl) (pe_call U.GG hr2 (by rfl) U.DG.g U.DG.F.kp U.DG.b .nil pass0 (pa_cons (pv 2) (pa_cons (pv 4) (pa_cons (pv 10) (pa_cons (pv 11) pa_nil)))))) (pss_cons (ps_if (pt_not (pt_val (pe_call U.GA hr4 (by rfl) U.DA.g U.DA.F.kp U.DA.b .nil pass0 (pa_cons (pe_meth (pv 3) T.cl U.MD U.GD hr9 U.bD .nil passN (pa_cons (pv 10) (pa_cons (pv 11) pa_nil))) (pa_cons (pv 12) pa_nil))))) (pss_one (ps_ret pe_bl)) pss_nil) (pss_cons (ps_set (i := 7) scLaw.nd rfl (Or.inl rfl) (pe_op op_cat (pv 7) (pe_lst (pa_cons (pe_tup (pa_cons (pv 4) (pa_cons (pv 5) (pa_cons (pv 6) pa_nil)))) pa_nil)))) (pss_cons (ps_par (i := 4) (j := 5) rfl scLaw.nd rfl rfl (by decide) rfl rfl (pa_cons (pe_ix ix_tup (pe_call U.GP hr1 (by rfl) U.DP.g U.DP.F.kp U.DP.b .nil pass0 (pa_cons (pv 4) (pa_cons (pe_ix ix_tup (pe_ix ix_tup (pe_ix ix_tup (pe_ix ix_tup (pv 2) pe_int (fun _ _ => rfl)) (pv 10) (fun _ _ => rfl)) pe_int (fun _ _ => rfl)) (pv 11) (fun _ _ => rfl)) pa_nil))) pe_int (fun _ _ => rfl)) (pa_cons (pe_op op_add (pv 5) (pe_callTy call_int1 (by rfl) B.int boot_int (pa_cons (pe_not (pv 12)) pa_nil))) pa_nil)) (by rfl)) (pss_one (ps_set (i := 6) scLaw.nd rfl (Or.inl rfl) (pe_op op_catA (pv 6) (pe_tup (pa_cons (pe_tup (pa_cons pe_str (pa_cons (pv 10) (pa_cons (pv 11) pa_nil)))) pa_nil))))))))))) (pss_one (ps_if (pt_cmpR op_eq (pv 9) pe_int (nomark _)) (pss_cons (ps_set (i := 13) scLaw.nd rfl (Or.inl rfl) (pe_call U.GT hr1 (by rfl) U.DT.g U.DT.F.kp U.DT.b .nil pass0 (pa_cons (pv 1) (pa_cons (pe_callB call_len_seq (by rfl) B.len PySem.boot_len (pa_cons (pe_ix ix_tup (pv 2) pe_int (fun _ _ => rfl)) pa_nil)) pa_nil)))) (pss_cons (ps_if (pt_cmpR op_notN (pe_meth (pv 3) T.cl U.MH U.GH hr3 U.bH .nil passN (pa_cons (pv 13) pa_nil)) pe_non (nomark _)) (pss_one (ps_ret pe_bl)) pss_nil) (pss_cons (ps_par (i := 7) (j := 6) rfl scLaw.nd rfl rfl (by decide) rfl rfl (pa_cons (pe_op op_cat (pv 7) (pe_lst (pa_cons (pe_tup (pa_cons (pv 4) (pa_cons (pv 5) (pa_cons (pv 6) pa_nil)))) pa_nil))) (pa_cons (pe_op op_catA (pv 6) (pe_tup (pa_cons (pe_tup (pa_cons pe_str (pa_cons (pv 13) pa_nil))) pa_nil))) pa_nil)) (by rfl)) (pss_one (ps_set (i := 4) scLaw.nd rfl (Or.inl rfl) (pe_op op_catA (pe_op op_catA (pe_slice sl_tupA (pv 4) po_none (po_some (pv 13))) (pe_tup (pa_cons (pe_ix ix_tup (pe_ix ix_tup (pv 2) pe_int (fun _ _ => rfl)) (pv 13) (fun _ _ => rfl)) pa_nil))) (pe_slice sl_tupA (pv 4) (po_some (pe_op op_add (pv 13) pe_int)) po_none))))))) (pss_one (ps_if (pt_cmpR op_eq (pv 9) pe_int (nomark _)) (pss_one (ps_if (pt_cmpR (op_eqD hu) (pv 7) (pe_lst pa_nil) (nomark _)) (pss_one (ps_if (pt_cmpR op_ne (pe_call U.GR hr (by rfl) U.DR.g U.DR.F.kp U.DR.b .nil pass0 (pa_cons (pe_ix ix_list (pe_call U.GC hr1 (by rfl) U.DC.g U.DC.kp U.DC.b .nil pass0 (pa_cons (pv 3) (pa_cons pe_non (pa_cons pe_non pa_nil)))) pe_int (fun _ _ => rfl)) pa_nil)) pe_str (nomark _)) (pss_one (ps_ret pe_bl)) pss_nil)) (pss_cons (ps_expr (pe_meth0 (pv 3) T.cl U.MU U.GU hr1 U.bU .nil passN)) (pss_cons (ps_asg (pe_ix ix_list (pv 7) (pe_un un_neg pe_int) (fun _ _ => rfl)) (pg_tup (by rfl) (pgs_cons (pg_name (i := 4) scLaw.nd rfl (Or.inl rfl)) (pgs_cons (pg_name (i := 5) scLaw.nd rfl (Or.inl rfl)) (pgs_cons (pg_name (i := 6) scLaw.nd rfl (Or.inl rfl)) pgs_nil))))) (pss_one (ps_set (i := 7) scLaw.nd rfl (Or.inl rfl) (pe_slice sl_list (pv 7) po_none (po_some (pe_un un_neg pe_int))))))))) (pss_cons (ps_set (i := 14) scLaw.nd rfl (Or.inl rfl) (pe_call U.GK hr2 (by rfl) U.DK.g U.DK.F.kp U.DK.b .nil pass0 (pa_cons (pv 1) (pa_cons (pe_lst (pa_cons pe_non (pa_cons pe_bl (pa_cons (pe_op op_sub pe_int pe_int) (pa_cons pe_int (pa_cons pe_str (pa_cons (pe_tup (pa_cons pe_int pa_nil)) pa_nil))))))) pa_nil)))) (pss_cons (ps_if (pt_cmpR (op_neD hu) (pe_lc (own := [("_law_work", 15)]) (g := gName 15) (tt := tYes) rfl scLaw.nd (pi_list (pe_slice sl_list (pe_call U.GC hr1 (by rfl) U.DC.g U.DC.kp U.DC.b .nil pass0 (pa_cons (pv 3) (pa_cons (pv 14) (pa_cons pe_int pa_nil)))) po_none (po_some pe_int))) (blkOk_by (N := nmZ) (sc := defScope sLaw) (by decide +kernel)) (fun _ _ _ _ _ => (pg_name (i := 15) scLaw.nd rfl (Or.inl rfl))) (fun _ _ _ _ _ => pts_nil) (fun _ _ _ _ _ => (pe_call U.GR hr (by rfl) U.DR.g U.DR.F.kp U.DR.b .nil pass0 (pa_cons (pv 15) pa_nil)))) (pe_op op_rep (pe_lst (pa_cons pe_str pa_nil)) pe_int) (nomark _)) (pss_one (ps_ret pe_bl)) pss_nil) (pss_one (ps_if (pt_cmpR op_ne (pe_call U.GR hr (by rfl) U.DR.g U.DR.F.kp U.DR.b .nil pass0 (pa_cons (pe_ix ix_list (pe_call U.GC hr1 (by rfl) U.DC.g U.DC.kp U.DC.b .nil pass0 (pa_cons (pv 3) (pa_cons pe_int (pa_cons (pv 14) pa_nil)))) pe_int (fun _ _ => rfl)) pa_nil)) pe_str (nomark _)) (pss_one (ps_ret pe_bl)) pss_nil))))))))) (pss_one (ps_if (pt_not (pt_val (pe_call U.GA hr4 (by rfl) U.DA.g U.DA.F.kp U.DA.b .nil pass0 (pa_cons (pe_lst (pa_cons (pe_prop (pv 3) T.cl U.P1 U.G1 hr2 U.b1 .nil pass0 (by rfl)) (pa_cons (pe_prop (pv 3) T.cl U.P2 U.G2 hr2 U.b2 .nil pass0 (by rfl)) (pa_cons (pe_prop (pv 3) T.cl U.P3 U.G3 hr2 U.b3 .nil pass0 (by rfl)) pa_nil)))) (pa_cons (pe_lst (pa_cons (pv 4) (pa_cons (pv 6) (pa_cons (pv 5) pa_nil)))) pa_nil))))) (pss_one (ps_ret pe_bl)) pss_nil))))) (pss_one (ps_ret (pe_cmpR (op_eqD hu) (pe_call U.GR hr (by rfl) U.DR.g U.DR.F.kp U.DR.b .nil pass0 (pa_cons (pe_ix ix_list (pe_call U.GC hr1 (by rfl) U.DC.g U.DC.kp U.DC.b .nil pass0 (pa_cons (pv 3) (pa_cons (pe_call U.GK hr2 (by rfl) U.DK.g U.DK.F.kp U.DK.b .nil pass0 (pa_cons (pv 1) (pa_cons (pe_lst (pa_cons pe_non (pa_cons (pe_tup pa_nil) (pa_cons (pe_callTy call_list_of (by rfl) B.list boot_list (pa_cons (pv 2) pa_nil)) pa_nil)))) pa_nil))) (pa_cons pe_non pa_nil)))) pe_int (fun _ _ => rfl)) pa_nil)) (pe_tup (pa_cons pe_str (pa_cons pe_str pa_nil))) (nomark _)))))))), ?_⟩
    -- the row, the works
    refine ⟨_, rfl, by show 4 ≤ sizeLine; exact small_line (by omega), fun a ha => ?_⟩
    have s1 := same_upd (o := .lst [.ref sc, .int 0, .int 2008, .int 0]) ha
    refine ⟨_, rfl, a, sc, rfl, ⟨0, 2008, 0, upd_same, by omega, by omega, by omega⟩, ⟨ns, s1.seq hsc⟩, fun wv H2 W e2 rw2 hWA hW => ?_⟩
    obtain ⟨aw, v2, v3, rfl, hwa, hv2, hv3⟩ := id hWA
    have back : ∀ b, H2 b = none → H b = none := fun b z => by
      cases y : H b with
      | none => rfl
      | some u =>
        have := e2 b u (by simp [ne_of_none y ha]) (s1 _ _ y)
        rw [z] at this; cases this
    have keep2 : ∀ b u, H b = some u → H2 b = some u := fun b u y => e2 b u (by simp [ne_of_none y ha]) (s1 _ _ y)
    -- the bench
    refine ⟨_, rfl, fun x dx nx ndx nex => ⟨x, dx, .ref aw, rfl, upd_same, .inl ⟨W, ?_, hW, ?_, fun r o H3 hr0 ho0 e3 hB => ⟨rfl, ?_⟩⟩⟩⟩
    · exact hWA.tk (Tk.same ((same_upd ndx).trans (same_upd (by rw [upd_ne (Ne.symm nex)]; exact nx))))
    · exact hTb.same fun b u y => by
        have := keep2 b u y
        rw [upd_ne (ne_of_none this nx), upd_ne (ne_of_none this ndx)]
        exact this
    have s23 : Same H2 H3 := fun b u y => e3 b u (by simp [ne_of_none y nx]) (by rw [upd_ne (ne_of_none y nx), upd_ne (ne_of_none y ndx)]; exact y)
    obtain ⟨pa, pz, pr, hrow, hrest⟩ := rw2
    have har : a ≠ r := fun z => by
      have y : (L2.upd (L2.upd H2 dx (.own x)) x (.ins C dx [])) a = some (.lst [.ref sc, .int pa, .int pz, .int pr]) := by rw [upd_ne (ne_of_none hrow nx), upd_ne (ne_of_none hrow ndx)]; exact hrow
      rw [z, hr0] at y; cases y
    have hao : a ≠ o := fun z => by
      have y : (L2.upd (L2.upd H2 dx (.own x)) x (.ins C dx [])) a = some (.lst [.ref sc, .int pa, .int pz, .int pr]) := by rw [upd_ne (ne_of_none hrow nx), upd_ne (ne_of_none hrow ndx)]; exact hrow
      rw [z, ho0] at y; cases y
    have back3 : ∀ b, (L2.upd (L2.upd H2 dx (.own x)) x (.ins C dx [])) b = none → H b = none := fun b z => back b (by
      have n1 : b ≠ x := fun y => by rw [y, upd_same] at z; cases z
      rw [upd_ne n1] at z
      have n2 : b ≠ dx := fun y => by rw [y, upd_same] at z; cases z
      rw [upd_ne n2] at z
      exact z)
    have hw3 := s23 _ _ hwa
    refine ⟨_, rfl, _, _, _, _, rfl, rfl, SqT.of hw3, rfl, by show 0 ≤ sizeLine; omega, fun td htd => ⟨by show 0 ≤ sizeLine; omega, fun lo hlo => ⟨by show 5 ≤ sizeLine; exact small_line (by omega), fun tt htt => ?_⟩⟩⟩
    have s34 := ((same_upd (o := .tup []) htd).trans (same_upd (o := .lst []) hlo)).trans (same_upd (o := .tup [.ref x, v2, .int 0, .ref td, .ref lo]) htt)
    refine ⟨tt, _, rfl, SqT.of upd_same, rfl, _, _, rfl, _, _, rfl, _, _, rfl, _, _, rfl, _, _, rfl, rfl, ?_⟩
    have htd4 : (L2.upd (L2.upd (L2.upd H3 td (.tup [])) lo (.lst [])) tt (.tup [.ref x, v2, .int 0, .ref td, .ref lo])) td = some (.tup []) := same_upd htt _ _ (same_upd hlo _ _ upd_same)
    have hlo4 : (L2.upd (L2.upd (L2.upd H3 td (.tup [])) lo (.lst [])) tt (.tup [.ref x, v2, .int 0, .ref td, .ref lo])) lo = some (.lst []) := same_upd htt _ _ upd_same
    have hlo3 : H3 lo = none := by
      rw [upd_ne (fun z => by rw [z, upd_same] at hlo; cases hlo)] at hlo
      exact hlo
    revert s34 htd4 hlo4
    generalize L2.upd (L2.upd (L2.upd H3 td (.tup [])) lo (.lst [])) tt (.tup [.ref x, v2, .int 0, .ref td, .ref lo]) = H4
    intro s34 htd4 hlo4
    have s24 := s23.trans s34
    have hlo2 : H2 lo = none := s23.free hlo3
    obtain ⟨_, ⟨xsr, hxr3, _⟩, ⟨xso, hxo3, _⟩, _⟩ := id hB
    have L0 : LL C PW PL sc a x r o H W (.ref aw) H4 W.vats 0 [] [] v2 (.ref td) lo W.vats [] [] := {
      rw := ⟨pa, pz, pr, s24 _ _ hrow, hrest⟩
      wk := hWA.tk (Tk.same s24)
      be := hB.same s34
      sv := hv2.tk (Tk.same s24)
      dv := ⟨td, [], rfl, htd4, AllAt.nil⟩
      ol := ⟨[], hlo4, AllAt.nil⟩
      tn := TabN.nil (s24 _ _ (keep2 _ _ hPW))
      ts := LamX.TabS.nil (s24 _ _ (keep2 _ _ hPL))
      nt := nPP
      ex := fun b u _ y => s24 _ _ (keep2 _ _ y)
      nar := har
      nao := hao
      nlr := fun z => by rw [z, hxr3] at hlo3; cases hlo3
      nlo := fun z => by rw [z, hxo3] at hlo3; cases hlo3
      nla := fun z => by rw [z, hrow] at hlo2; cases hlo2
      za := ha
      zp := back _ nx
      zr := back3 _ hr0
      zo := back3 _ ho0
      zl := back _ hlo2 }
    have so0 : StandOk W W.vats := ⟨rfl, hW.vat⟩
    refine ⟨_, rfl, a, sc, 25, rfl, L0.rw, L0.scr hsc ⟨_, hPW⟩ ⟨_, hPL⟩, by decide, by decide, fun n25 H5 hn0 hn25 e5 r5 => ⟨n25, rfl, by omega, by omega, for_range (lo := 0) (n := n25.toNat) (fun i σ H' => ∃ (sv : V) (wr : Int) (ad lo : Addr) (st : List (List Int)) (ds : List DeedD) (os : List O3) (o8 o9 o10 o11 o12 o13 o14 : Option V),
        σ = [some (.ref sc), some (.ref a), some (.ref aw), some (.ref x), some sv, some (.int wr), some (.ref ad), some (.ref lo), o8, o9, o10, o11, o12, o13, o14, none] ∧ LL C PW PL sc a x r o H W (.ref aw) H' st wr ds (osB os) sv (.ref ad) lo st ds os ∧ Chain W os ds ∧ StandOk W st ∧ os.length ≤ i)
      ⟨v2, 0, td, lo, W.vats, [], [], none, none, none, none, none, none, none, rfl, L0.taken e5 r5, .nil, so0, Nat.le_refl _⟩ ?_ ?_⟩⟩
    · rintro i σ H' hi ⟨sv, wr, ad, lo, st, ds, os, o8, o9, o10, o11, o12, o13, o14, rfl, L, hch, hso, hol⟩
      have hdl := hch.len
      have hobl : (osB os).length = os.length := by unfold osB; rw [List.length_map]
      have hi24 : i < 25 := by omega
      refine ⟨_, rfl, a, sc, 6, rfl, L.rw, L.scr hsc ⟨_, hPW⟩ ⟨_, hPL⟩, by decide, by decide, fun way H1 hy0 hy6 e1 r1 => ⟨_, rfl, _, _, rfl, rfl, _, rfl, ?_⟩⟩
      have L1 := L.taken e1 r1
      refine ite2 (fun c => ?_) (fun c => ⟨_, rfl, rfl, _, rfl, ite2 (fun c2 => ?_) (fun c2 => ⟨_, rfl, rfl, _, rfl, ite2 (fun c3 => ?_) (fun c3 => ?_)⟩)⟩)
      · -- dye
        obtain ⟨a2, xs2, a3, xs3, hw1, hw2, hx2, hw3, hx3⟩ := L1.wk.inv
        have hk1 := hW.k1
        have hk3 := hW.k3
        have hk3l := hx3.len
        refine ⟨_, rfl, _, rfl, _, _, _, _, rfl, rfl, SqT.of hw1, rfl, a3, xs3, rfl, .inr (SqT.of hw3), a, sc, (xs3.length : Int), rfl, L1.rw, L1.scr hsc ⟨_, hPW⟩ ⟨_, hPL⟩, by omega, by omega, fun k H2' hk0 hkl e2' r2' => ?_⟩
        have L2' := L1.taken e2' r2'
        obtain ⟨b2, ys2, b3, ys3, gw1, gw2, gx2, gw3, gx3⟩ := L2'.wk.inv
        obtain ⟨kd, hkd⟩ : ∃ kd, W.kinds[k.toNat]? = some kd := take_get (by omega)
        have hkok := hW.kind kd (List.mem_of_getElem? hkd)
        obtain ⟨xk, hxk, hka⟩ := gx3.at_ _ _ hkd
        obtain ⟨ak, k1', k2', a5, xs5, rfl, hak, ha5, hx5⟩ := hka.inv
        have hr1' := hkok.r1
        have hr4' := hkok.r4
        have hx5l := hx5.len
        refine ⟨_, rfl, _, rfl, _, _, _, _, rfl, rfl, SqT.of gw1, rfl, _, rfl, _, _, _, _, rfl, rfl, SqT.of gw3, atI_of hk0 hxk, _, _, _, _, rfl, rfl, SqT.of hak, rfl, a5, xs5, rfl, .inr (SqT.of ha5), a, sc, (xs5.length : Int), rfl, L2'.rw, L2'.scr hsc ⟨_, hPW⟩ ⟨_, hPL⟩, by omega, by omega, fun n H3' hn0' hnl e3' r3' => ?_⟩
        have L3 := L2'.taken e3' r3'
        obtain ⟨rt, hrt⟩ : ∃ rt, kd.routes[n.toNat]? = some rt := take_get (by omega)
        obtain ⟨rr1, rr2, rr3⟩ := hkok.route rt (List.mem_of_getElem? hrt)
        refine ⟨_, rfl, _, rfl, _, rfl, _, rfl, .ref aw, sv, k, n, W, st, kd, rt, rfl, L3.wk, hW, L3.sv, hso, hk0, hkd, hn0', hrt, fun H4' s4' => ?_⟩
        have L4 := L3.same s4'
        obtain ⟨⟨dx4, fs4, wv4, nv4, hp4, bf4, _, _⟩, ⟨xr4, hxr4, _⟩, ⟨xo4, hxo4, _⟩, _⟩ := id L4.be
        obtain ⟨pw4, hpw4, _⟩ := id L4.tn
        have hTb4 := hTb.ex L4.ex ⟨_, hPW⟩ ⟨_, hPL⟩
        refine ⟨_, rfl, x, dx4, fs4, rfl, hp4, bf4.m _ (by decide +kernel) (by decide +kernel) (by decide +kernel) (by decide +kernel) (by decide +kernel), _, rfl, _, rfl, x, r, o, .int k, .int n, W, st, wr, ds, osB os, rfl, L4.be, by omega, by omega,
          .inl ⟨k, n, kd, rt, rfl, rfl, hk0, hkd, hn0', hrt, hW, hso, L4.tn, hTb4.c, by simp [ne_of hpw4 hp4 (by intro z; cases z), ne_of hpw4 hxr4 (by intro z; cases z), ne_of hpw4 hxo4 (by intro z; cases z)], fun H5' e5' t5' b5' => ⟨_, rfl, .bl _, .bl _, rfl, AD.flat (.bl _), fun H6' s6' => ⟨true, rfl, iteF ?_⟩⟩⟩⟩
        have L6 := (L4.bench e5' t5' b5').same s6'
        obtain ⟨xs, hxl, hxa⟩ := id L6.ol
        have hxal := hxa.len
        refine ⟨_, rfl, _, rfl, _, rfl, _, rfl, by show 3 ≤ sizeLine; exact small_line (by omega), fun t1 ht1 => ⟨by show 1 ≤ sizeLine; exact small_line (by omega), fun l1 hl1 => ⟨lo, l1, xs, _, rfl, rfl, same_upd hl1 _ _ (same_upd ht1 _ _ hxl), upd_same, small_line (by simp only [List.length_cons, List.length_nil]; omega), fun lo2 hlo2 => ?_⟩⟩⟩
        have s67 := ((same_upd (o := .tup [sv, .int wr, .ref ad]) ht1).trans (same_upd (o := .lst [.ref t1]) hl1)).trans (same_upd (o := .lst (xs ++ [.ref t1])) hlo2)
        have ht17 : (L2.upd (L2.upd (L2.upd H6' t1 (.tup [sv, .int wr, .ref ad])) l1 (.lst [.ref t1])) lo2 (.lst (xs ++ [.ref t1]))) t1 = some (.tup [sv, .int wr, .ref ad]) := same_upd hlo2 _ _ (same_upd hl1 _ _ upd_same)
        have hlo27 : (L2.upd (L2.upd (L2.upd H6' t1 (.tup [sv, .int wr, .ref ad])) l1 (.lst [.ref t1])) lo2 (.lst (xs ++ [.ref t1]))) lo2 = some (.lst (xs ++ [.ref t1])) := upd_same
        have hlo26 : H6' lo2 = none := by
          have z := hlo2
          rw [upd_ne (fun y => by rw [y, upd_same] at z; cases z)] at z
          rw [upd_ne (fun y => by rw [y, upd_same] at z; cases z)] at z
          exact z
        revert s67 ht17 hlo27
        generalize L2.upd (L2.upd (L2.upd H6' t1 (.tup [sv, .int wr, .ref ad])) l1 (.lst [.ref t1])) lo2 (.lst (xs ++ [.ref t1])) = H7
        intro s67 ht17 hlo27
        have L7 := L6.same s67
        obtain ⟨d2, zs2, d3, zs3, qw1, qw2, qx2, qw3, qx3⟩ := L7.wk.inv
        obtain ⟨yk, hyk, hkb⟩ := qx3.at_ _ _ hkd
        obtain ⟨bk, j1, j2, b5, ys5, rfl, hbk, hb5, hy5⟩ := hkb.inv
        obtain ⟨xrt, hxrt, hti⟩ := hy5.at_ _ _ hrt
        refine ⟨_, rfl, _, rfl, _, _, _, _, rfl, rfl, SqT.of qw1, rfl, _, rfl, _, _, _, _, rfl, rfl, SqT.of qw3, atI_of hk0 hyk, _, _, _, _, rfl, rfl, SqT.of hbk, rfl, _, rfl, _, _, _, _, rfl, rfl, SqT.of hb5, atI_of hn0' hxrt, sv, xrt, W, st, rt, rfl, L7.sv, hti, hso, hW.d4, hW.v4, ⟨rr1, rr2, rr3⟩, fun tp u vv H8 s8 htp hu' hv' => ?_⟩
        refine ⟨tp, _, 0, u, rfl, rfl, SqT.of htp, rfl, _, rfl, _, rfl, _, rfl, .inr ⟨_, rfl, wr, _, rfl, rfl, _, _, rfl, ?_⟩⟩
        have L8 := L7.same s8
        obtain ⟨ad', xsd, ead, had, hAd⟩ := id L8.dv
        cases ead
        have hAdl := hAd.len
        refine ⟨_, rfl, _, rfl, _, rfl, by show 3 ≤ sizeLine; exact small_line (by omega), fun t3 ht3 => ⟨by show 1 ≤ sizeLine; exact small_line (by omega), fun t4 ht4 => catV (same_upd ht4 _ _ (same_upd ht3 _ _ had)) upd_same (small_line (by simp only [List.length_cons, List.length_nil]; omega)) fun ad2 H10 s10 hd10 => ?_⟩⟩
        have s810 := ((same_upd (o := .tup [.str "dye", .int k, .int n]) ht3).trans (same_upd (o := .tup [.ref t3]) ht4)).trans s10
        have ht310 : H10 t3 = some (.tup [.str "dye", .int k, .int n]) := s10 _ _ (same_upd ht4 _ _ upd_same)
        have L10' := L8.same s810
        have s610 := (s67.trans s8).trans s810
        have fr := L6.fresh hlo26
        have hdd : DeedAt H10 (.ref t3) (.dye k n) := ⟨t3, rfl, ht310⟩
        have LV := L10'.vals (sv' := u) (dv' := .ref ad2) (lo' := lo2) (st' := (passD rt st []).1) (ds' := ds ++ [.dye k n]) (os' := os ++ [(st, wr, ds)]) (hu'.tk (Tk.same s810)) ⟨ad2, _, rfl, hd10, (hAd.mono fun _ _ q => q.tk (Tk.same s810)).snoc hdd⟩
          ⟨_, s810 _ _ (s8 _ _ hlo27), (hxa.mono fun _ _ q => q.tk (Tk.same s610)).snoc ⟨t1, sv, .ref ad, rfl, s810 _ _ (s8 _ _ ht17), L10'.sv, L10'.dv⟩⟩ fr.1 fr.2.1 fr.2.2 (L6.zn hlo26)
        have eB : osB os ++ [(st, wr)] = osB (os ++ [(st, wr, ds)]) := by simp [osB]
        have eZ : (wr + if goodD W kd rt st = true then (0 : Int) else 1) = wr + (if (!goodD W kd rt st) = true then (1 : Int) else 0) := by cases goodD W kd rt st <;> rfl
        rw [eB, eZ] at LV
        have hps := pass_ok (w := W) (r := rt) hso (Lot.nil _) rr3
        have LTt := LV
        obtain ⟨⟨dxT, fsT, wvT, nvT, hpT, bfT, _, _⟩, _, _, _⟩ := id LTt.be
        have hsoT : StandOk W ((passD rt st []).1) := hps.1
        have hchT : Chain W (os ++ [(st, wr, ds)]) (ds ++ [.dye k n]) := hch.snoc hso
        have holT : (os ++ [(st, wr, ds)]).length ≤ i + 1 := by rw [List.length_append]; simp; omega
        have hdlT := hchT.len
        have hstT : ((passD rt st []).1).length ≤ 1000 := by have := hsoT.len; have := hW.v4; omega
        have hltT : ∀ l ∈ ((passD rt st []).1), l.length ≤ 1000 := fun l hl => by have := (hsoT.lot l hl).len hW.d4; omega
        refine ⟨_, rfl, x, dxT, fsT, rfl, hpT, x, r, o, W, _, _, _, _, rfl, LTt.be, fun nv hnv => ⟨_, rfl, x, dxT, fsT, rfl, hpT, x, r, o, W, _, _, _, _, rfl, LTt.be, fun dt HT sT hdt => ⟨_, rfl, x, dxT, fsT, rfl, sT _ _ hpT, x, r, o, W, _, _, _, _, rfl, (LTt.same sT).be, by show 3 ≤ sizeLine; exact small_line (by omega), fun m1 hm1 => ⟨_, rfl, _, rfl, _, rfl, by show 3 ≤ sizeLine; exact small_line (by omega), fun m2 hm2 => ⟨.ref m1, .ref m2, rfl, ?_, fun HU sU => ⟨true, rfl, iteF ?_⟩⟩⟩⟩⟩⟩
        · have sM := (same_upd (o := .lst [nv, dt, .int (wr + (if (!goodD W kd rt st) = true then (1 : Int) else 0))]) hm1).trans (same_upd (o := .lst [u, .ref ad2, .int (wr + (if (!goodD W kd rt st) = true then (1 : Int) else 0))]) hm2)
          have LM := (LTt.same sT).same sM
          exact ad_state (same_upd hm2 _ _ upd_same) upd_same (ad_TT ((hnv.tk (Tk.same sT)).tk (Tk.same sM)) LM.sv hstT hltT) (ad_deeds (hdt.tk (Tk.same sM)) LM.dv (by omega))
        · exact ⟨u, wr + (if (!goodD W kd rt st) = true then (1 : Int) else 0), ad2, lo2, (passD rt st []).1, ds ++ [.dye k n], os ++ [(st, wr, ds)], some (.int (0 + i)), some (.int way), some (.int k), some (.int n), some (.bl (goodD W kd rt st)), o13, o14, rfl, ((LTt.same sT).same ((same_upd hm1).trans (same_upd hm2))).same sU, hchT, hsoT, holT⟩
      · -- wash
        obtain ⟨a2, xs2, a3, xs3, hw1, hw2, hx2, hw3, hx3⟩ := L1.wk.inv
        have hv1 := hW.v1
        have hv4 := hW.v4
        have hv2l := hx2.len
        refine ⟨_, rfl, _, rfl, _, _, _, _, rfl, rfl, SqT.of hw1, rfl, a2, xs2, rfl, .inr (SqT.of hw2), a, sc, (xs2.length : Int), rfl, L1.rw, L1.scr hsc ⟨_, hPW⟩ ⟨_, hPL⟩, by omega, by omega, fun v H2' hv0 hvl e2' r2' => ?_⟩
        have L2' := L1.taken e2' r2'
        have hvb : 0 ≤ v ∧ v < (W.vats.length : Int) := ⟨hv0, by omega⟩
        obtain ⟨⟨dx4, fs4, wv4, nv4, hp4, bf4, _, _⟩, _, _, _⟩ := id L2'.be
        refine ⟨_, rfl, x, dx4, fs4, rfl, hp4, bf4.m _ (by decide +kernel) (by decide +kernel) (by decide +kernel) (by decide +kernel) (by decide +kernel), _, rfl, x, r, o, .int v, W, st, wr, ds, osB os, rfl, L2'.be, by omega, by omega,
          .inl ⟨v, rfl, hv0, hvb.2, hso, hW.v4, fun H3' e3' b3' => ⟨rfl, false, rfl, iteF ?_⟩⟩⟩
        have L6 := L2'.bench3 e3' b3'
        obtain ⟨xs, hxl, hxa⟩ := id L6.ol
        have hxal := hxa.len
        obtain ⟨ad', xsd, ead, had, hAd⟩ := id L6.dv
        cases ead
        have hAdl := hAd.len
        refine ⟨_, rfl, _, rfl, _, rfl, _, rfl, by show 3 ≤ sizeLine; exact small_line (by omega), fun t1 ht1 => ⟨by show 1 ≤ sizeLine; exact small_line (by omega), fun l1 hl1 => ⟨lo, l1, xs, _, rfl, rfl, same_upd hl1 _ _ (same_upd ht1 _ _ hxl), upd_same, small_line (by simp only [List.length_cons, List.length_nil]; omega), fun lo2 hlo2 => ?_⟩⟩⟩
        have s67 := ((same_upd (o := .tup [sv, .int wr, .ref ad]) ht1).trans (same_upd (o := .lst [.ref t1]) hl1)).trans (same_upd (o := .lst (xs ++ [.ref t1])) hlo2)
        have ht17 : (L2.upd (L2.upd (L2.upd H3' t1 (.tup [sv, .int wr, .ref ad])) l1 (.lst [.ref t1])) lo2 (.lst (xs ++ [.ref t1]))) t1 = some (.tup [sv, .int wr, .ref ad]) := same_upd hlo2 _ _ (same_upd hl1 _ _ upd_same)
        have hlo27 : (L2.upd (L2.upd (L2.upd H3' t1 (.tup [sv, .int wr, .ref ad])) l1 (.lst [.ref t1])) lo2 (.lst (xs ++ [.ref t1]))) lo2 = some (.lst (xs ++ [.ref t1])) := upd_same
        have hlo26 : H3' lo2 = none := by
          have z := hlo2
          rw [upd_ne (fun y => by rw [y, upd_same] at z; cases z)] at z
          rw [upd_ne (fun y => by rw [y, upd_same] at z; cases z)] at z
          exact z
        revert s67 ht17 hlo27
        generalize L2.upd (L2.upd (L2.upd H3' t1 (.tup [sv, .int wr, .ref ad])) l1 (.lst [.ref t1])) lo2 (.lst (xs ++ [.ref t1])) = H7
        intro s67 ht17 hlo27
        refine ⟨_, rfl, _, rfl, by show 2 ≤ sizeLine; exact small_line (by omega), fun t3 ht3 => ⟨by show 1 ≤ sizeLine; exact small_line (by omega), fun t4 ht4 => catV (same_upd ht4 _ _ (same_upd ht3 _ _ (s67 _ _ had))) upd_same (small_line (by simp only [List.length_cons, List.length_nil]; omega)) fun ad2 H10 s10 hd10 => ⟨_, _, rfl, ?_⟩⟩⟩
        have s710 := ((same_upd (o := .tup [.str "wash", .int v]) ht3).trans (same_upd (o := .tup [.ref t3]) ht4)).trans s10
        have ht310 : H10 t3 = some (.tup [.str "wash", .int v]) := s10 _ _ (same_upd ht4 _ _ upd_same)
        have s610 := s67.trans s710
        have L10' := L6.same s610
        obtain ⟨asv, zs, easv, hz1, hz2⟩ := id L10'.sv
        subst easv
        obtain ⟨b2, ys2, b3, ys3, gw1, gw2, gx2, gw3, gx3⟩ := L10'.wk.inv
        have hzl : zs.length = W.vats.length := by rw [hz2.len, hso.len]
        -- _law_stand[:_law_vat]
        refine ⟨_, rfl, _, rfl, v, rfl, sliceV hz1 fun c1 G3 q3 hc1 => ?_⟩
        rw [cutV_to (by rw [hzl]; exact hvb)] at hc1
        obtain ⟨e, he, hte⟩ := gx2.at_ v.toNat _ (getD_get (by omega : v.toNat < W.vats.length))
        refine ⟨_, rfl, _, _, _, _, rfl, rfl, SqT.of (q3 _ _ gw1), rfl, _, rfl, _, _, _, _, rfl, rfl, SqT.of (q3 _ _ gw2), atI_of hv0 he, by show 1 ≤ sizeLine; exact small_line (by omega), fun c2' hc2' => ?_⟩
        have q4 := same_upd (o := .tup [e]) hc2'
        refine catV (q4 _ _ hc1) upd_same (by simp only [List.length_take, List.length_cons, List.length_nil]; exact small_line (by omega)) fun c3' G5 q5 hc3' => ?_
        have q35 := (q3.trans q4).trans q5
        refine ⟨_, rfl, _, rfl, _, _, rfl, rfl, _, rfl, ?_⟩
        delta tNoPart
        refine sliceV (q35 _ _ hz1) fun c6 G6 q6 hc6 => ?_
        rw [cutV_from (by rw [hzl]; exact hvb)] at hc6
        refine catV (q6 _ _ hc3') hc6 (by simp only [List.length_append, List.length_take, List.length_drop, List.length_cons, List.length_nil]; exact small_line (by omega)) fun c7 G7' q7 hc7 => ?_
        have q17 := (q35.trans q6).trans q7
        have L11' := L10'.same q17
        have hz8 := hz2.mono (R' := TI G7') fun _ _ k => k.tk (Tk.same q17)
        have ht8 : TI G7' e (W.vats.getD v.toNat []) := hte.tk (Tk.same q17)
        have hdd : DeedAt G7' (.ref t3) (.wash v) := ⟨t3, rfl, q17 _ _ ht310⟩
        have s6F := s610.trans q17
        have fr := L6.fresh hlo26
        have LV := L11'.vals (sv' := .ref c7) (dv' := .ref ad2) (lo' := lo2) (st' := washD W.vats st v) (ds' := ds ++ [.wash v]) (os' := os ++ [(st, wr, ds)]) ⟨c7, _, rfl, hc7, ((hz8.take v.toNat).snoc ht8).append (hz8.drop (v.toNat + 1))⟩ ⟨ad2, _, rfl, q17 _ _ hd10, (hAd.mono fun _ _ q => q.tk (Tk.same s6F)).snoc hdd⟩
          ⟨_, q17 _ _ (s710 _ _ hlo27), (hxa.mono fun _ _ q => q.tk (Tk.same s6F)).snoc ⟨t1, .ref asv, .ref ad, rfl, q17 _ _ (s710 _ _ ht17), L11'.sv, L11'.dv⟩⟩ fr.1 fr.2.1 fr.2.2 (L6.zn hlo26)
        have eB : osB os ++ [(st, wr)] = osB (os ++ [(st, wr, ds)]) := by simp [osB]
        rw [eB] at LV
        have LTt := LV
        obtain ⟨⟨dxT, fsT, wvT, nvT, hpT, bfT, _, _⟩, _, _, _⟩ := id LTt.be
        have hsoT : StandOk W (washD W.vats st v) := wash_ok hW hso hvb
        have hchT : Chain W (os ++ [(st, wr, ds)]) (ds ++ [.wash v]) := hch.snoc hso
        have holT : (os ++ [(st, wr, ds)]).length ≤ i + 1 := by rw [List.length_append]; simp; omega
        have hdlT := hchT.len
        have hstT : (washD W.vats st v).length ≤ 1000 := by have := hsoT.len; have := hW.v4; omega
        have hltT : ∀ l ∈ (washD W.vats st v), l.length ≤ 1000 := fun l hl => by have := (hsoT.lot l hl).len hW.d4; omega
        refine ⟨_, rfl, x, dxT, fsT, rfl, hpT, x, r, o, W, _, _, _, _, rfl, LTt.be, fun nv hnv => ⟨_, rfl, x, dxT, fsT, rfl, hpT, x, r, o, W, _, _, _, _, rfl, LTt.be, fun dt HT sT hdt => ⟨_, rfl, x, dxT, fsT, rfl, sT _ _ hpT, x, r, o, W, _, _, _, _, rfl, (LTt.same sT).be, by show 3 ≤ sizeLine; exact small_line (by omega), fun m1 hm1 => ⟨_, rfl, _, rfl, _, rfl, by show 3 ≤ sizeLine; exact small_line (by omega), fun m2 hm2 => ⟨.ref m1, .ref m2, rfl, ?_, fun HU sU => ⟨true, rfl, iteF ?_⟩⟩⟩⟩⟩⟩
        · have sM := (same_upd (o := .lst [nv, dt, .int (wr)]) hm1).trans (same_upd (o := .lst [.ref c7, .ref ad2, .int (wr)]) hm2)
          have LM := (LTt.same sT).same sM
          exact ad_state (same_upd hm2 _ _ upd_same) upd_same (ad_TT ((hnv.tk (Tk.same sT)).tk (Tk.same sM)) LM.sv hstT hltT) (ad_deeds (hdt.tk (Tk.same sM)) LM.dv (by omega))
        · exact ⟨.ref c7, wr, ad2, lo2, washD W.vats st v, ds ++ [.wash v], os ++ [(st, wr, ds)], some (.int (0 + i)), some (.int way), o10, o11, o12, some (.int v), o14, rfl, ((LTt.same sT).same ((same_upd hm1).trans (same_upd hm2))).same sU, hchT, hsoT, holT⟩
      · -- undo
        obtain ⟨xs, hxl, hxa⟩ := id L1.ol
        refine ⟨_, rfl, by show 0 ≤ sizeLine; omega, fun l2 hl2 => ⟨.list (os.map pO), .list [], .lst (SqL.of (same_upd hl2 _ _ hxl)) (dp_all (fun _ _ k => dp_old (k.tk (Tk.same (same_upd hl2)))) hxa), .lst (SqL.of upd_same) .nil, shaped_olds os, shaped_ints [], _, rfl, ?_⟩⟩
        rw [eqv_nil]
        have L2' := L1.same (same_upd (o := .lst []) hl2)
        revert L2'
        generalize L2.upd H1 l2 (.lst []) = H2'
        intro L2'
        refine ite2 (fun c4 => ?_) (fun c4 => ?_)
        · have eos : os = [] := by
            have c4 := of_decide_eq_true c4
            exact List.map_eq_nil_iff.mp c4
          have eds : ds = [] := List.length_eq_zero_iff.mp (by rw [hdl, eos]; rfl)
          refine ⟨_, rfl, .ref x, .non, .non, rfl, L2'.ts, fun l f0 f1 f2 f3 H3' e3' t3' hl0 hl m0 m1 m2 m3 => ⟨l, _, 2, _, rfl, rfl, SqL.of hl, rfl, ?_⟩⟩
          have L3 := L2'.calls e3' t3'
          refine ref_step (E := E0) (W := W) (st := st) (z := wr) (os := osB os) T U.MU U.bU U.GU m2 (by rw [← eds]; exact L3.be) fun H4' s4' => ⟨rfl, false, rfl, iteF ?_⟩
          have L4 := L3.same s4'
          have LTt := L4
          obtain ⟨⟨dxT, fsT, wvT, nvT, hpT, bfT, _, _⟩, _, _, _⟩ := id LTt.be
          have hsoT : StandOk W (st) := hso
          have hchT : Chain W (os) (ds) := hch
          have holT : (os).length ≤ i + 1 := by omega
          have hdlT := hchT.len
          have hstT : (st).length ≤ 1000 := by have := hsoT.len; have := hW.v4; omega
          have hltT : ∀ l ∈ (st), l.length ≤ 1000 := fun l hl => by have := (hsoT.lot l hl).len hW.d4; omega
          refine ⟨_, rfl, x, dxT, fsT, rfl, hpT, x, r, o, W, _, _, _, _, rfl, LTt.be, fun nv hnv => ⟨_, rfl, x, dxT, fsT, rfl, hpT, x, r, o, W, _, _, _, _, rfl, LTt.be, fun dt HT sT hdt => ⟨_, rfl, x, dxT, fsT, rfl, sT _ _ hpT, x, r, o, W, _, _, _, _, rfl, (LTt.same sT).be, by show 3 ≤ sizeLine; exact small_line (by omega), fun m1 hm1 => ⟨_, rfl, _, rfl, _, rfl, by show 3 ≤ sizeLine; exact small_line (by omega), fun m2 hm2 => ⟨.ref m1, .ref m2, rfl, ?_, fun HU sU => ⟨true, rfl, iteF ?_⟩⟩⟩⟩⟩⟩
          · have sM := (same_upd (o := .lst [nv, dt, .int (wr)]) hm1).trans (same_upd (o := .lst [sv, .ref ad, .int (wr)]) hm2)
            have LM := (LTt.same sT).same sM
            exact ad_state (same_upd hm2 _ _ upd_same) upd_same (ad_TT ((hnv.tk (Tk.same sT)).tk (Tk.same sM)) LM.sv hstT hltT) (ad_deeds (hdt.tk (Tk.same sM)) LM.dv (by omega))
          · exact ⟨sv, wr, ad, lo, st, ds, os, some (.int (0 + i)), some (.int way), o10, o11, o12, o13, o14, rfl, ((LTt.same sT).same ((same_upd hm1).trans (same_upd hm2))).same sU, hchT, hsoT, holT⟩
        · refine ⟨_, rfl, ?_⟩
          obtain ⟨⟨dx4, fs4, wv4, nv4, hp4, bf4, _, _⟩, _, _, _⟩ := id L2'.be
          cases hch with
          | nil => exact absurd (decide_eq_true (show List.map pO [] = [] from rfl)) c4
          | @snoc os ds st0 z0 d0 hch' hso0 =>
            refine ⟨x, dx4, fs4, rfl, hp4, bf4.m _ (by decide +kernel) (by decide +kernel) (by decide +kernel) (by decide +kernel) (by decide +kernel), x, r, o, W, st, wr, _, _, rfl, L2'.be, .inr ⟨ds, d0, osB os, (st0, z0), rfl, by simp [osB], fun H3' e3' b3' => ?_⟩⟩
            have L3 := L2'.bench3 e3' b3'
            obtain ⟨ys, hyl, hya⟩ := id L3.ol
            obtain ⟨y, hy1, ⟨ay, uy, ty, rfl, hay, huy, hty⟩, hy3⟩ := last_of hya
            obtain ⟨ad0, xd0, rfl, had0, hAd0⟩ := id hty
            refine ⟨_, rfl, 1, rfl, lo, ys, -1, _, rfl, rfl, SqL.of hyl, atI_m1 hy1, ay, _, rfl, SqT.of hay, rfl, _, _, rfl, _, _, rfl, _, _, rfl, rfl, ?_⟩
            refine ⟨_, rfl, 1, rfl, -1, rfl, lo, ys, rfl, SqL.of hyl, fun lo2 hlo2 => ?_⟩
            rw [cutV_last]
            have s34 := same_upd (o := .lst ys.dropLast) hlo2
            have fr := L3.fresh hlo2
            have LV := (L3.same s34).vals (sv' := uy) (dv' := .ref ad0) (lo' := lo2) (st' := st0) (ds' := ds) (os' := os) (huy.tk (Tk.same s34)) (hty.tk (Tk.same s34)) ⟨_, upd_same, hy3.mono fun _ _ q => q.tk (Tk.same s34)⟩ fr.1 fr.2.1 fr.2.2 (L3.zn hlo2)
            have LTt := LV
            obtain ⟨⟨dxT, fsT, wvT, nvT, hpT, bfT, _, _⟩, _, _, _⟩ := id LTt.be
            have hsoT : StandOk W (st0) := hso0
            have hchT : Chain W (os) (ds) := hch'
            have holT : (os).length ≤ i + 1 := by have := hol; rw [List.length_append] at this; simp at this; omega
            have hdlT := hchT.len
            have hstT : (st0).length ≤ 1000 := by have := hsoT.len; have := hW.v4; omega
            have hltT : ∀ l ∈ (st0), l.length ≤ 1000 := fun l hl => by have := (hsoT.lot l hl).len hW.d4; omega
            refine ⟨_, rfl, x, dxT, fsT, rfl, hpT, x, r, o, W, _, _, _, _, rfl, LTt.be, fun nv hnv => ⟨_, rfl, x, dxT, fsT, rfl, hpT, x, r, o, W, _, _, _, _, rfl, LTt.be, fun dt HT sT hdt => ⟨_, rfl, x, dxT, fsT, rfl, sT _ _ hpT, x, r, o, W, _, _, _, _, rfl, (LTt.same sT).be, by show 3 ≤ sizeLine; exact small_line (by omega), fun m1 hm1 => ⟨_, rfl, _, rfl, _, rfl, by show 3 ≤ sizeLine; exact small_line (by omega), fun m2 hm2 => ⟨.ref m1, .ref m2, rfl, ?_, fun HU sU => ⟨true, rfl, iteF ?_⟩⟩⟩⟩⟩⟩
            · have sM := (same_upd (o := .lst [nv, dt, .int (z0)]) hm1).trans (same_upd (o := .lst [uy, .ref ad0, .int (z0)]) hm2)
              have LM := (LTt.same sT).same sM
              exact ad_state (same_upd hm2 _ _ upd_same) upd_same (ad_TT ((hnv.tk (Tk.same sT)).tk (Tk.same sM)) LM.sv hstT hltT) (ad_deeds (hdt.tk (Tk.same sM)) LM.dv (by omega))
            · exact ⟨uy, z0, ad0, lo2, st0, ds, os, some (.int (0 + i)), some (.int way), o10, o11, o12, o13, o14, rfl, ((LTt.same sT).same ((same_upd hm1).trans (same_upd hm2))).same sU, hchT, hsoT, holT⟩
      · -- a bad number
        refine ⟨_, rfl, 0, 1, rfl, rfl, by show 1 ≤ sizeLine; exact small_line (by omega), fun tz htz => ⟨by show 6 ≤ sizeLine; exact small_line (by omega), fun lp hlp => ?_⟩⟩
        have s12 := (same_upd (o := .tup [.int 0]) htz).trans (same_upd (o := .lst [.non, .bl true, .int (0 - 1), .int 9, .str "0", .ref tz]) hlp)
        have htz2 : (L2.upd (L2.upd H1 tz (.tup [.int 0])) lp (.lst [.non, .bl true, .int (0 - 1), .int 9, .str "0", .ref tz])) tz = some (.tup [.int 0]) := same_upd hlp _ _ upd_same
        have hlp2 : (L2.upd (L2.upd H1 tz (.tup [.int 0])) lp (.lst [.non, .bl true, .int (0 - 1), .int 9, .str "0", .ref tz])) lp = some (.lst [.non, .bl true, .int (0 - 1), .int 9, .str "0", .ref tz]) := upd_same
        have nlp : a ≠ lp := fun z => by
          obtain ⟨_, _, _, y, _⟩ := L1.rw
          have y2 := same_upd (o := .tup [.int 0]) htz _ _ y
          rw [z, hlp] at y2
          cases y2
        revert s12 htz2 hlp2
        generalize L2.upd (L2.upd H1 tz (.tup [.int 0])) lp (.lst [.non, .bl true, .int (0 - 1), .int 9, .str "0", .ref tz]) = H2'
        intro s12 htz2 hlp2
        have L2' := L1.same s12
        refine ⟨a, sc, lp, _, rfl, L2'.rw, L2'.scr hsc ⟨_, hPW⟩ ⟨_, hPL⟩, nlp, hlp2, by simp, by simp, fun j odd H3' hj e3' r3' => ?_⟩
        have L3 := L2'.taken e3' r3'
        have htz3 : H3' tz = some (.tup [.int 0]) := L2'.rw.tk e3' _ _ htz2
        have bad : ∀ (hi : Int) (H' : Hp), hi ≤ 8 → Tk H3' H' → BadN hi H' odd := fun hi H' hh t => by
          match j, hj with
          | 0, hj => cases hj; exact .inr .non
          | 1, hj => cases hj; exact .inr (.bl _)
          | 2, hj => cases hj; exact .inl ⟨0 - 1, rfl, by omega⟩
          | 3, hj => cases hj; exact .inl ⟨9, rfl, by omega⟩
          | 4, hj => cases hj; exact .inr (.str _)
          | 5, hj => cases hj; exact .inr (.tup (t _ _ htz3))
          | j + 6, hj => simp at hj
        have hv4 := hW.v4
        have hk3 := hW.k3
        obtain ⟨kd0, hkd0⟩ : ∃ kd, W.kinds[0]? = some kd := take_get hW.k1
        have hkr := (hW.kind kd0 (List.mem_of_getElem? hkd0)).r4
        refine ⟨_, rfl, _, rfl, .ref x, odd, .int 0, rfl, L3.ts, fun l f0 f1 f2 f3 H4' e4' t4' hl0 hl m0 m1 m2 m3 => ?_⟩
        have L4 := L3.calls e4' t4'
        have tk4 : Tk H3' H4' := fun b xs h => e4' b _ (fun z => by
          obtain ⟨pl, hpl, _⟩ := L3.ts
          rw [z, hpl] at h; cases h) h
        refine ⟨2, rfl, l, _, rfl, SqL.of hl, fun l2 hl2 => ?_⟩
        have s45 := same_upd (o := .lst (cutV [V.ref f0, V.ref f1, V.ref f2, V.ref f3] none (some 2))) hl2
        have hl25 : (L2.upd H4' l2 (.lst (cutV [V.ref f0, V.ref f1, V.ref f2, V.ref f3] none (some 2)))) l2 = some (.lst [.ref f0, .ref f1]) := upd_same
        revert s45 hl25
        generalize L2.upd H4' l2 (.lst (cutV [V.ref f0, V.ref f1, V.ref f2, V.ref f3] none (some 2))) = H5'
        intro s45 hl25
        have L5 := L4.same s45
        have tk5 := tk4.trans (Tk.same s45)
        refine ⟨l2, rfl, ⟨_, SqL.of hl25⟩, fun D hD => lc_list (K := K) (a := l2) (xs := [.ref f0, .ref f1]) (fun q H' => H' D = some (.lst (List.replicate q (.str "number"))) ∧ Same H5' H') ⟨upd_same, same_upd hD⟩ (fun q H' _ e => SqL.of (e.2 _ _ hl25)) ?_ ?_⟩
        · rintro q y H' hq ⟨hD', s5'⟩
          have L6 := L5.same s5'
          have s46 := s45.trans s5'
          have fin : ∀ H7 : Hp, Same H' H7 → ∃ acc, H7 D = some (.lst acc) ∧ acc.length < sizeLine ∧ (L2.upd H7 D (.lst (acc ++ [.str "number"]))) D = some (.lst (List.replicate (q + 1) (.str "number"))) ∧ Same H5' (L2.upd H7 D (.lst (acc ++ [.str "number"]))) := fun H7 s7 =>
            ⟨_, s7 _ _ hD', (by
              have : q < 2 := (List.getElem?_eq_some_iff.mp hq).1
              rw [List.length_replicate]; exact small1000 (by omega)), by rw [upd_same, List.replicate_succ'], same_at (s5'.trans s7) hD⟩
          match q, hq, fin with
          | 0, hq, fin =>
            cases hq
            exact ⟨rfl, _, rfl, ref_dye (E := E0) T U.MD U.bD U.GD (m0.same s46) L6.be (by omega) (by omega) (.inl (bad _ _ (by omega) (tk4.trans (Tk.same s46)))) fun H7 s7 => fin H7 s7⟩
          | 1, hq, fin =>
            cases hq
            exact ⟨rfl, _, rfl, ref_wash (E := E0) T U.MH U.bH U.GH (m1.same s46) L6.be (by omega) (by omega) (bad _ _ (by omega) (tk4.trans (Tk.same s46))) fun H7 s7 => fin H7 s7⟩
          | q + 2, hq, fin => simp at hq
        · rintro H6' ⟨hD6, s56⟩
          have L6 := L5.same s56
          have hD6 : H6' D = some (.lst [.str "number", .str "number"]) := hD6
          refine ⟨by show 1 ≤ sizeLine; exact small_line (by omega), fun l3 hl3 => ⟨l3, 2, _, rfl, rfl, upd_same, by omega, by omega, by show 1 * 2 ≤ sizeLine; exact small_line (by omega), fun l4 hl4 => ?_⟩⟩
          have s68 := (same_upd (o := .lst [.str "number"]) hl3).trans (same_upd (o := .lst (List.replicate (2 : Int).toNat [V.str "number"]).flatten) hl4)
          have hcl : PyData.canLay0 (.str "number") = true := by decide +kernel
          have shp := (shaped_strs2 "number" "number" hcl hcl).1
          refine ⟨.list [.str "number", .str "number"], .list [.str "number", .str "number"], .lst (SqL.of (s68 _ _ hD6)) (.cons (.str _) (.cons (.str _) .nil)), .lst (SqL.of (xs := [.str "number", .str "number"]) upd_same) (.cons (.str _) (.cons (.str _) .nil)), shp, shp, false, ?_, iteF ?_⟩
          · have e : PyData.eqv (.list [.str "number", .str "number"]) (.list [.str "number", .str "number"]) = true := by decide +kernel
            show V.bl (!PyData.eqv _ _) = V.bl false
            rw [e]
            rfl
          have L8 := L6.same s68
          have tk8 := (tk5.trans (Tk.same s56)).trans (Tk.same s68)
          refine ⟨_, rfl, _, rfl, .ref x, .int 0, odd, rfl, L8.ts, fun l f0 f1 f2 f3 H9 e9 t9 hl0 hl m0 m1 m2 m3 => ⟨l, _, 0, _, rfl, rfl, SqL.of hl, rfl, ?_⟩⟩
          have L9 := L8.calls e9 t9
          have tk9 : Tk H3' H9 := tk8.trans fun b xs h => e9 b _ (fun z => by
            obtain ⟨pl, hpl, _⟩ := L8.ts
            rw [z, hpl] at h; cases h) h
          refine ref_dye (E := E0) T U.MD U.bD U.GD m0 L9.be (by omega) (by omega) (.inr ⟨0, kd0, rfl, by omega, hkd0, bad _ _ (by omega) tk9⟩) fun H10 s10 => ⟨rfl, false, rfl, iteF ?_⟩
          have L10' := L9.same s10
          have LTt := L10'
          obtain ⟨⟨dxT, fsT, wvT, nvT, hpT, bfT, _, _⟩, _, _, _⟩ := id LTt.be
          have hsoT : StandOk W (st) := hso
          have hchT : Chain W (os) (ds) := hch
          have holT : (os).length ≤ i + 1 := by omega
          have hdlT := hchT.len
          have hstT : (st).length ≤ 1000 := by have := hsoT.len; have := hW.v4; omega
          have hltT : ∀ l ∈ (st), l.length ≤ 1000 := fun l hl => by have := (hsoT.lot l hl).len hW.d4; omega
          refine ⟨_, rfl, x, dxT, fsT, rfl, hpT, x, r, o, W, _, _, _, _, rfl, LTt.be, fun nv hnv => ⟨_, rfl, x, dxT, fsT, rfl, hpT, x, r, o, W, _, _, _, _, rfl, LTt.be, fun dt HT sT hdt => ⟨_, rfl, x, dxT, fsT, rfl, sT _ _ hpT, x, r, o, W, _, _, _, _, rfl, (LTt.same sT).be, by show 3 ≤ sizeLine; exact small_line (by omega), fun m1 hm1 => ⟨_, rfl, _, rfl, _, rfl, by show 3 ≤ sizeLine; exact small_line (by omega), fun m2 hm2 => ⟨.ref m1, .ref m2, rfl, ?_, fun HU sU => ⟨true, rfl, iteF ?_⟩⟩⟩⟩⟩⟩
          · have sM := (same_upd (o := .lst [nv, dt, .int (wr)]) hm1).trans (same_upd (o := .lst [sv, .ref ad, .int (wr)]) hm2)
            have LM := (LTt.same sT).same sM
            exact ad_state (same_upd hm2 _ _ upd_same) upd_same (ad_TT ((hnv.tk (Tk.same sT)).tk (Tk.same sM)) LM.sv hstT hltT) (ad_deeds (hdt.tk (Tk.same sM)) LM.dv (by omega))
          · exact ⟨sv, wr, ad, lo, st, ds, os, some (.int (0 + i)), some (.int way), o10, o11, o12, o13, some odd, rfl, ((LTt.same sT).same ((same_upd hm1).trans (same_upd hm2))).same sU, hchT, hsoT, holT⟩
    · rintro σ H' ⟨sv, wr, ad, lo, st, ds, os, o8, o9, o10, o11, o12, o13, o14, rfl, L, hch, hso, hol⟩
      -- the end
      refine ⟨_, rfl, _, rfl, by show 0 ≤ sizeLine; omega, fun te hte => ?_⟩
      have s1' := same_upd (o := .tup []) hte
      obtain ⟨b2, ys2, b3, ys3, gw1, gw2, gx2, gw3, gx3⟩ := (L.same s1').wk.inv
      refine ⟨_, rfl, aw, _, rfl, .inr (SqT.of gw1), fun lw hlw => ⟨by show 3 ≤ sizeLine; exact small_line (by omega), fun lp hlp => ?_⟩⟩
      have s13 := (s1'.trans (same_upd (o := .lst [.int W.dyes, .ref b2, .ref b3]) hlw)).trans (same_upd (o := .lst [.non, .ref te, .ref lw]) hlp)
      have hte3 : (L2.upd (L2.upd (L2.upd H' te (.tup [])) lw (.lst [.int W.dyes, .ref b2, .ref b3])) lp (.lst [.non, .ref te, .ref lw])) te = some (.tup []) := same_upd hlp _ _ (same_upd hlw _ _ upd_same)
      have hlw3 : (L2.upd (L2.upd (L2.upd H' te (.tup [])) lw (.lst [.int W.dyes, .ref b2, .ref b3])) lp (.lst [.non, .ref te, .ref lw])) lw = some (.lst [.int W.dyes, .ref b2, .ref b3]) := same_upd hlp _ _ upd_same
      have hlp3 : (L2.upd (L2.upd (L2.upd H' te (.tup [])) lw (.lst [.int W.dyes, .ref b2, .ref b3])) lp (.lst [.non, .ref te, .ref lw])) lp = some (.lst [.non, .ref te, .ref lw]) := upd_same
      have nlp : a ≠ lp := fun z => by
        obtain ⟨_, _, _, y, _⟩ := L.rw
        have y2 := same_upd (o := .lst [.int W.dyes, .ref b2, .ref b3]) hlw _ _ (s1' _ _ y)
        rw [z, hlp] at y2
        cases y2
      have nlw : a ≠ lw := fun z => by
        obtain ⟨_, _, _, y, _⟩ := L.rw
        have y2 := s1' _ _ y
        rw [z, hlw] at y2
        cases y2
      revert s13 hte3 hlw3 hlp3
      generalize L2.upd (L2.upd (L2.upd H' te (.tup [])) lw (.lst [.int W.dyes, .ref b2, .ref b3])) lp (.lst [.non, .ref te, .ref lw]) = H3'
      intro s13 hte3 hlw3 hlp3
      have L3 := L.same s13
      refine ⟨a, sc, lp, _, rfl, L3.rw, L3.scr hsc ⟨_, hPW⟩ ⟨_, hPL⟩, nlp, hlp3, by simp, by simp, fun j odd H4' hj e4' r4' => ?_⟩
      have L4 := L3.taken e4' r4'
      refine ⟨.ref x, odd, .non, rfl, L4.ts, fun l f0 f1 f2 f3 H5' e5' t5' hl0 hl m0 m1 m2 m3 => ⟨l, _, 3, _, rfl, rfl, SqL.of hl, rfl, ?_⟩⟩
      have L5 := L4.calls e5' t5'
      have no : NoWorks H5' odd := by
        have out : ∀ {b : Addr} {u : HO}, H4' b = some u → (∀ ps, u ≠ .tbl ps) → H5' b = some u := fun {b u} h n => e5' b u (fun z => by
          obtain ⟨pl, hpl, _⟩ := L4.ts
          rw [z, hpl] at h; exact n pl (Option.some.inj h).symm) h
        match j, hj with
        | 0, hj => cases hj; exact .non
        | 1, hj => cases hj; exact .tup (out (L3.rw.tk e4' _ _ hte3) fun ps z => by cases z)
        | 2, hj => cases hj; exact .lst (out (e4' _ _ (by simp [nlw.symm]) hlw3) fun ps z => by cases z)
        | j + 3, hj => simp at hj
      refine ref_works (E := E0) T U.MI U.bI U.GI m3 no fun t H6' s6' ht => ?_
      have L6 := L5.same s6'
      have hcl : PyData.canLay0 (.str "works") = true := by decide +kernel
      have shp := (shaped_strs2 "works" "works" hcl hcl).2
      refine ⟨by show 2 ≤ sizeLine; exact small_line (by omega), fun t2 ht2 => ⟨.tuple [.str "works", .str "works"], .tuple [.str "works", .str "works"], .tup (SqT.of (same_upd ht2 _ _ ht)) (.cons (.str _) (.cons (.str _) .nil)), .tup (SqT.of upd_same) (.cons (.str _) (.cons (.str _) .nil)), shp, shp, ?_⟩⟩
      have e : PyData.eqv (.tuple [.str "works", .str "works"]) (.tuple [.str "works", .str "works"]) = true := by decide +kernel
      rw [e]
      exact q _ (L6.same (same_upd ht2)).ex
end
end Dy
set_option Elab.async false
set_option maxRecDepth 100000
set_option maxHeartbeats 4000000
namespace Dy
open PySem PySem.Spec PyProof.Rows L2 GenW LamX
/-- H with the tables at xs told by their form alone -/
def hxT (xs : List Addr) (H : Hp) : Hp := fun b => if b ∈ xs then some (TabX b) else H b
theorem hxT_in {xs : List Addr} {H : Hp} {b : Addr} (h : b ∈ xs) : hxT xs H b = some (TabX b) := if_pos h
theorem hxT_out {xs : List Addr} {H : Hp} {b : Addr} (h : b ∉ xs) : hxT xs H b = H b := if_neg h
/-- a promise over tables told by their form is one over empty tables -/
theorem fn_plainTabs {P : Program} {w : World} {K : PySem.W.Frag} {mg : Str → Option Value} {base : Heap} {CX : CXT} {k : Nat} {f : Addr} {fd : FuncData} {ps : List Str} {sp : Sp} (F : FnOk P w K mg base CX k f fd ps sp) (xs : List Addr) :
    FnOk P w K mg base (fun o _ s _ e s' => ∃ H0, CX o H0 s (fun _ _ _ => False) e s') k f fd ps
      (fun vs H Q _ => (∀ b ∈ xs, H b = some (.tbl #[])) ∧ ∃ Q1 : VK, sp vs (hxT xs H) Q1 (fun _ _ _ => False) ∧ ∀ v H', Q1 v H' → (∀ b ∈ xs, H' b = some (TabX b)) ∧ ∀ H2, Q v H2) := by
  refine ⟨fun vs H Q E q => (by obtain ⟨_, Q1, q1, _⟩ := q; exact F.len _ _ _ _ q1), fun A outer s H args us vs Q E hr he hb hv ⟨hT, Q1, h, hQ⟩ => ?_⟩
  have out : ∀ {b : Addr} {o : Option HO}, H b = o → o ≠ some (.tbl #[]) → b ∉ xs := fun {b o} e n z => n (e.symm.trans (hT b z))
  have non : ∀ {b : Addr}, H b = none → hxT xs H b = none := fun {b} e => (hxT_out (out e (fun z => by cases z))).trans e
  have ok1 : HOk P w (hxT xs H) s.heap := fun b o z => by
    by_cases hb : b ∈ xs
    · have z' := Option.some.inj ((hxT_in hb).symm.trans z)
      subst z'
      exact tabX_ok (he.hok b _ (hT b hb)) True.intro
    · exact (he.hok b o ((hxT_out hb).symm.trans z)).stay (fun _ _ _ q => q) (fun c q => (hxT_out (out q (fun z => by cases z))).trans q) fun c ys q => (hxT_out (out q (fun z => by cases z))).trans q
  refine codeAny_mono (F.run A outer s (hxT xs H) args us vs _ _ hr ⟨he.frames, he.mod, fun b o e => ⟨(he.bs b o e).1, non (he.bs b o e).2⟩, he.bsz, he.funs, fun b hb => non (he.frf b hb), ok1, he.bare⟩ hb hv h) fun r s' q => ?_
  cases r with
  | error e => exact ⟨_, q⟩
  | ok fl =>
    cases fl with
    | next => exact False.elim q
    | brk => exact False.elim q
    | cont => exact False.elim q
    | ret u =>
      obtain ⟨v, H', os, bare, un, ok2, rv, q1⟩ := q
      obtain ⟨tX, q⟩ := hQ v H' q1
      have T : ∀ b, b ∈ xs → ∃ more : Array Value, s'.heap.get? b = some { cls := .none, data := .fields more } := fun b hb => by
        obtain ⟨⟨more, e, _⟩, _⟩ := ok2 b _ (tX b hb)
        exact ⟨more, e⟩
      have out2 : ∀ {b : Addr} {o : HO}, H' b = some o → (∀ c, o ≠ TabX c) → b ∉ xs := fun {b o} e n z => n b (Option.some.inj (e.symm.trans (tX b z)))
      let H2 : Hp := fun b => if hb : b ∈ xs then some (.tbl (Classical.choose (T b hb))) else H' b
      have i2 : ∀ b (hb : b ∈ xs), H2 b = some (.tbl (Classical.choose (T b hb))) := fun b hb => dif_pos hb
      have o2 : ∀ b, b ∉ xs → H2 b = H' b := fun b hb => dif_neg hb
      refine ⟨v, H2, os, bare, ⟨fun b o e n => un.keep b o e (non n), fun b o e n => un.slot b o e (non n), fun b o e n hx => (o2 b (out n (fun z => by cases z))).trans (un.free b o e (non n) hx), un.there,
        fun b ys e => ?_, fun b o u e => ?_, fun b qs e => ?_⟩, fun b o z => ?_, rv, q H2⟩
      · have nb := out e (fun z => by cases z)
        exact (o2 b nb).trans (un.tups b ys ((hxT_out nb).trans e))
      · have nb := out e (fun z => by cases z)
        exact (o2 b nb).trans (un.frzs b o u ((hxT_out nb).trans e))
      · by_cases hb : b ∈ xs
        · have z := e.symm.trans (hT b hb)
          cases z
          exact ⟨_, by rw [Array.empty_append]; exact i2 b hb⟩
        · obtain ⟨more, z⟩ := un.tbls b qs ((hxT_out hb).trans e)
          exact ⟨more, (o2 b hb).trans z⟩
      · by_cases hb : b ∈ xs
        · have z' := Option.some.inj ((i2 b hb).symm.trans z)
          subst z'
          exact Classical.choose_spec (T b hb)
        · exact (ok2 b o ((o2 b hb).symm.trans z)).stay (fun _ _ _ q => q) (fun c q => (o2 c (out2 q (fun d z => by unfold TabX at z; cases z))).trans q) fun c ys q => (o2 c (out2 q (fun d z => by unfold TabX at z; cases z))).trans q
theorem sqL_hx {K : PySem.W.Frag} {H : Hp} {a : Addr} {vs : List V} {xs : List Addr} (hT : ∀ b ∈ xs, H b = some (.tbl #[])) (h : SqL K H a vs) : SqL K (hxT xs H) a vs := by
  have out : ∀ {o : HO}, H a = some o → o ≠ .tbl #[] → a ∉ xs := fun {o} e n z => n (Option.some.inj (e.symm.trans (hT a z)))
  rcases h with (e | ⟨o, e⟩) | r
  · exact .inl (.inl ((hxT_out (out e (fun z => by cases z))).trans e))
  · exact .inl (.inr ⟨o, (hxT_out (out e (fun z => by cases z))).trans e⟩)
  · exact .inr r

theorem walk_X {l : PySem.W.OpenLaw} {n k : Nat} {q : Program} {loose : List Str} {XP : (Str → Option Value) → Heap → Prop} {YP : World → Heap → Prop} {d : DefRec} {K : Params → PySem.W.Frag} {CX : World → CXT} {x : Str} {nms : List Str}
    (hn : l.most = some n) (hn2 : n ≤ sizeLine) (hdf : d.params.defaults = []) (hr : Room k callerA) (hrec : (nms.all fun y => (recsOf q).any fun e => e.name == y) = true) (hY : ∀ (w : World) (h : Heap), YP w h → (K w.params).In h)
    (F : ∀ (w : World) (mg : Str → Option Value) (fa : Addr) (h : Heap), YP w h → (K w.params).In h → h.Ns mainGlobals mg → mg d.name = some (.ref fa) →
      ∃ (fd : FuncData) (cs : List (Addr × Addr)) (xs : List Addr) (sp : Sp), (∀ p ∈ cs, ∃ y ∈ nms, PySem.W.tabIn (K w.params) y = some p) ∧ (∀ p ∈ cs, (K w.params).lookup p.2 = none) ∧ (∀ (s : Shared) (u : Value), BindsTo s fd ⟨[u], []⟩ [(x, u)]) ∧
        (∀ (H : Hp) (a : Addr) (ns : List Int), ns.length ≤ n → (∀ p ∈ cs, H p.2 = some (if p.2 ∈ xs then TabX p.2 else .tbl #[])) → SqL (K w.params) H a (ns.map V.int) → sp [.ref a] H (fun v H' => v = .bl true ∧ ∀ b ∈ xs, H b = some (TabX b) → H' b = some (TabX b)) fun _ _ _ => False) ∧
        ∀ base : Heap, (K w.params).In base → base.Ns mainGlobals mg → (∀ p ∈ cs, LamX.TabB base mg p.1 p.2) → FnOk l.prog w (K w.params) mg base (CX w) k fa fd [x] sp)
    (hCX : ∀ (w : World) (H : Hp) (s : Shared) (e : Value) (s' : Shared), CX w [] H s (fun _ _ _ => False) e s' → False) :
    PySem.W.WalkO q loose XP YP l.row.toRowW d [] (fun f vs => PySem.call f vs) := by
  refine Att.attach_callB hn hdf fun w s₀ s₁ mg mb fa o pm cd doc a vs ns G Y ho hd hcd hmg hobj hints hlen hbits hg => ?_
  have KX := hY w _ Y
  obtain ⟨fd, cs, xs, sp, hcs, nT, hb, hsp, hF⟩ := F w mg fa _ Y KX G.T.g hmg
  have tb : ∀ p ∈ cs, PySem.W.CodeHd s₁.heap p.1 p.2 ∧ s₁.heap.get? p.2 = some { cls := .none, data := .fields #[] } := fun p hp => by
    obtain ⟨y, hy, ht⟩ := hcs p hp
    have ha := List.all_eq_true.mp hrec y hy
    cases hf : (recsOf q).find? (fun e => e.name == y) with
    | none =>
      have z := List.find?_eq_none.mp hf
      obtain ⟨e, h1, h2⟩ := List.any_eq_true.mp ha
      exact absurd h2 (z e h1)
    | some e => exact PySem.W.tab_of G.T KX hf ht
  have mem : ∀ p ∈ cs, p.2 ∈ xs.filter (· ∈ cs.map (·.2)) ↔ p.2 ∈ xs := fun p hp => by
    rw [List.mem_filter]
    exact ⟨fun z => z.1, fun z => ⟨z, decide_eq_true (List.mem_map.mpr ⟨p, hp, rfl⟩)⟩⟩
  refine law_callTs KX G.T.g G.T.b G.T.builtins G.T.nolimit hg (fun p hp => (tb p hp).2) nT (fun p hp => (tb p hp).1) G.T.bmain hobj hints (Nat.le_trans hlen hn2) hr (fun base h1 h2 h3 => fn_plainTabs (hF base h1 h2 h3) (xs.filter (· ∈ cs.map (·.2)))) hb (fun H hH hS => ?_) fun H e s' ⟨H0, q⟩ => hCX w H0 s₁ e s' q
  have hT : ∀ b ∈ xs.filter (· ∈ cs.map (·.2)), H b = some (.tbl #[]) := fun b hb => by
    obtain ⟨p, hp, e⟩ := List.mem_map.mp (of_decide_eq_true (List.mem_filter.mp hb).2)
    rw [← e]
    exact hH p hp
  refine ⟨hT, _, hsp _ a ns hlen (fun p hp => ?_) (sqL_hx hT hS), fun v H' q => ⟨fun b z => q.2 b (List.mem_filter.mp z).1 (hxT_in z), fun _ => q.1⟩⟩
  by_cases hx : p.2 ∈ xs
  · rw [if_pos hx]; exact hxT_in ((mem p hp).mpr hx)
  · rw [if_neg hx]; exact (hxT_out (fun z => hx ((mem p hp).mp z))).trans (hH p hp)
end Dy
set_option Elab.async false
set_option maxRecDepth 100000
set_option maxHeartbeats 8000000
namespace Dy
open PySem PySem.Spec PyProof.Rows L2 GenW
theorem tab_mk {K : PySem.W.Frag} {x : Str} {f c P : Addr} {oc vo : Value} {od vd : Option Addr} {sl vs : Array (Option Value)} {fd : FuncData} {vv : Array Value} (a : PySem.W.nsIn K mainGlobals x = some (some (.ref f))) (l : K.lookup f = some ⟨oc, od, .func fd, sl⟩) (e : fd.code = .ref c)
    (v : K.lookup c = some ⟨vo, vd, .fields vv, vs⟩) (h : (vv[11]? : Option Value) = some (.ref P)) : PySem.W.tabIn K x = some (c, P) := by
  unfold PySem.W.tabIn
  rw [a]
  simp only [l, e, v, h]
theorem all_mk {n0 : Nat} {P : Program} {w : World} {K : PySem.W.Frag} {h : Heap} {mg : Str → Option Value} {fa fN fQ fL qL TL fR qR TR fK qK TK fV qV TN fJ fB fH qH PW fC qC TC fD fT fY fW fP fG fA fF fS qS PL fO fZ C C0 CW CN CS fmi fmk fmd fmh fmu p1 fp1 p2 fp2 p3 fp3 fE : Addr} (X : K.In h) (G : h.Ns mainGlobals mg) (hfa : mg "law" = some (.ref fa))
    {odN anN : Option Addr} {slN : Array (Option Value)} {ocN kVN dcN pmN cdN ctN : Value}
    {odQ anQ : Option Addr} {slQ : Array (Option Value)} {ocQ kVQ dcQ pmQ cdQ ctQ : Value}
    {odL anL : Option Addr} {slL : Array (Option Value)} {ocL kVL dcL pmL ctL : Value}
    {voL : Value} {vdL : Option Addr} {vvL : Array Value} {vsL : Array (Option Value)}
    {odR anR : Option Addr} {slR : Array (Option Value)} {ocR kVR dcR pmR ctR : Value}
    {voR : Value} {vdR : Option Addr} {vvR : Array Value} {vsR : Array (Option Value)}
    {odK anK : Option Addr} {slK : Array (Option Value)} {ocK kVK dcK pmK ctK : Value}
    {voK : Value} {vdK : Option Addr} {vvK : Array Value} {vsK : Array (Option Value)}
    {odV anV : Option Addr} {slV : Array (Option Value)} {ocV kVV dcV pmV ctV : Value}
    {voV : Value} {vdV : Option Addr} {vvV : Array Value} {vsV : Array (Option Value)}
    {odJ anJ : Option Addr} {slJ : Array (Option Value)} {ocJ kVJ dcJ pmJ cdJ ctJ : Value}
    {odB anB : Option Addr} {slB : Array (Option Value)} {ocB kVB dcB pmB cdB ctB : Value}
    {odH anH : Option Addr} {slH : Array (Option Value)} {ocH kVH dcH pmH ctH : Value}
    {voH : Value} {vdH : Option Addr} {vvH : Array Value} {vsH : Array (Option Value)}
    {odC anC : Option Addr} {slC : Array (Option Value)} {ocC kVC dcC pmC ctC : Value}
    {voC : Value} {vdC : Option Addr} {vvC : Array Value} {vsC : Array (Option Value)}
    {odD anD : Option Addr} {slD : Array (Option Value)} {ocD kVD dcD pmD cdD ctD : Value}
    {odT anT : Option Addr} {slT : Array (Option Value)} {ocT kVT dcT pmT cdT ctT : Value}
    {odY anY : Option Addr} {slY : Array (Option Value)} {ocY kVY dcY pmY cdY ctY : Value}
    {odW anW : Option Addr} {slW : Array (Option Value)} {ocW kVW dcW pmW cdW ctW : Value}
    {odP anP : Option Addr} {slP : Array (Option Value)} {ocP kVP dcP pmP cdP ctP : Value}
    {odG anG : Option Addr} {slG : Array (Option Value)} {ocG kVG dcG pmG cdG ctG : Value}
    {odA anA : Option Addr} {slA : Array (Option Value)} {ocA kVA dcA pmA cdA ctA : Value}
    {odF anF : Option Addr} {slF : Array (Option Value)} {ocF kVF dcF pmF cdF ctF : Value}
    {odS anS : Option Addr} {slS : Array (Option Value)} {ocS kVS dcS pmS ctS : Value}
    {voS : Value} {vdS : Option Addr} {vvS : Array Value} {vsS : Array (Option Value)}
    {odO anO : Option Addr} {slO : Array (Option Value)} {ocO kVO dcO pmO cdO ctO : Value}
    {odZ anZ : Option Addr} {slZ : Array (Option Value)} {ocZ kVZ dcZ pmZ cdZ ctZ : Value}
    {odmi anmi : Option Addr} {slmi : Array (Option Value)} {ocmi kVmi dcmi pmmi cdmi ctmi : Value}
    {odmk anmk : Option Addr} {slmk : Array (Option Value)} {ocmk kVmk dcmk pmmk cdmk ctmk : Value}
    {odmd anmd : Option Addr} {slmd : Array (Option Value)} {ocmd kVmd dcmd pmmd cdmd ctmd : Value}
    {odmh anmh : Option Addr} {slmh : Array (Option Value)} {ocmh kVmh dcmh pmmh cdmh ctmh : Value}
    {odmu anmu : Option Addr} {slmu : Array (Option Value)} {ocmu kVmu dcmu pmmu cdmu ctmu : Value}
    {rsp1 : List Value}
    {odp1 anp1 : Option Addr} {slp1 : Array (Option Value)} {ocp1 kVp1 dcp1 pmp1 cdp1 ctp1 : Value}
    {rsp2 : List Value}
    {odp2 anp2 : Option Addr} {slp2 : Array (Option Value)} {ocp2 kVp2 dcp2 pmp2 cdp2 ctp2 : Value}
    {rsp3 : List Value}
    {odp3 anp3 : Option Addr} {slp3 : Array (Option Value)} {ocp3 kVp3 dcp3 pmp3 cdp3 ctp3 : Value}
    {nmw qw : Str} {NW : Addr} {bsw bmw : List Value} {snw : List Str} {subw : List Value} {abw : Bool} {colw : Option Bool} {ddw : Option Addr} {w0 w1 w2 w3 w5 : Option Value}
    {odE anE : Option Addr} {slE : Array (Option Value)} {ocE kVE dcE pmE cdE ctE : Value}
    {tk1 tk2 tk3 tk4 tk5 : Tok}
    (aN : PySem.W.nsIn K mainGlobals "is_number" = some (some (.ref fN)))
    (lN : K.lookup fN = some ⟨ocN, odN, .func (PySem.W.fnOf "is_number" "is_number" (defArgs sIsNum) (defBody sIsNum) (defScope sIsNum) .none kVN dcN pmN anN cdN ctN), slN⟩)
    (cN : PySem.W.codeIn K cdN "is_number" = true)
    (kN : PySem.W.keepIn K (.ref fN) = true)
    (aQ : PySem.W.nsIn K mainGlobals "need_number" = some (some (.ref fQ)))
    (lQ : K.lookup fQ = some ⟨ocQ, odQ, .func (PySem.W.fnOf "need_number" "need_number" (defArgs sNeedNum) (defBody sNeedNum) (defScope sNeedNum) .none kVQ dcQ pmQ anQ cdQ ctQ), slQ⟩)
    (cQ : PySem.W.codeIn K cdQ "need_number" = true)
    (kQ : PySem.W.keepIn K (.ref fQ) = true)
    (aL : PySem.W.nsIn K mainGlobals "is_lot" = some (some (.ref fL)))
    (lL : K.lookup fL = some ⟨ocL, odL, .func (PySem.W.fnOf "is_lot" "is_lot" (defArgs sIsLot) (defBody sIsLot) (defScope sIsLot) .none kVL dcL pmL anL (.ref qL) ctL), slL⟩)
    (cL : PySem.W.codeIn K (.ref qL) "is_lot" = true)
    (kL : PySem.W.keepIn K (.ref fL) = true)
    (vL : K.lookup qL = some ⟨voL, vdL, .fields vvL, vsL⟩)
    (hL : (vvL[11]? : Option Value) = some (.ref TL))
    (nL : K.lookup TL = none)
    (aR : PySem.W.nsIn K mainGlobals "is_route" = some (some (.ref fR)))
    (lR : K.lookup fR = some ⟨ocR, odR, .func (PySem.W.fnOf "is_route" "is_route" (defArgs sIsRoute) (defBody sIsRoute) (defScope sIsRoute) .none kVR dcR pmR anR (.ref qR) ctR), slR⟩)
    (cR : PySem.W.codeIn K (.ref qR) "is_route" = true)
    (kR : PySem.W.keepIn K (.ref fR) = true)
    (vR : K.lookup qR = some ⟨voR, vdR, .fields vvR, vsR⟩)
    (hR : (vvR[11]? : Option Value) = some (.ref TR))
    (nR : K.lookup TR = none)
    (aK : PySem.W.nsIn K mainGlobals "is_kind" = some (some (.ref fK)))
    (lK : K.lookup fK = some ⟨ocK, odK, .func (PySem.W.fnOf "is_kind" "is_kind" (defArgs sIsKind) (defBody sIsKind) (defScope sIsKind) .none kVK dcK pmK anK (.ref qK) ctK), slK⟩)
    (cK : PySem.W.codeIn K (.ref qK) "is_kind" = true)
    (kK : PySem.W.keepIn K (.ref fK) = true)
    (vK : K.lookup qK = some ⟨voK, vdK, .fields vvK, vsK⟩)
    (hK : (vvK[11]? : Option Value) = some (.ref TK))
    (nK : K.lookup TK = none)
    (aV : PySem.W.nsIn K mainGlobals "need_works" = some (some (.ref fV)))
    (lV : K.lookup fV = some ⟨ocV, odV, .func (PySem.W.fnOf "need_works" "need_works" (defArgs sNeedWorks) (defBody sNeedWorks) (defScope sNeedWorks) .none kVV dcV pmV anV (.ref qV) ctV), slV⟩)
    (cV : PySem.W.codeIn K (.ref qV) "need_works" = true)
    (kV : PySem.W.keepIn K (.ref fV) = true)
    (vV : K.lookup qV = some ⟨voV, vdV, .fields vvV, vsV⟩)
    (hV : (vvV[11]? : Option Value) = some (.ref TN))
    (nV : K.lookup TN = none)
    (aJ : PySem.W.nsIn K mainGlobals "joined" = some (some (.ref fJ)))
    (lJ : K.lookup fJ = some ⟨ocJ, odJ, .func (PySem.W.fnOf "joined" "joined" (defArgs sJoined) (defBody sJoined) (defScope sJoined) .none kVJ dcJ pmJ anJ cdJ ctJ), slJ⟩)
    (cJ : PySem.W.codeIn K cdJ "joined" = true)
    (kJ : PySem.W.keepIn K (.ref fJ) = true)
    (aB : PySem.W.nsIn K mainGlobals "behind" = some (some (.ref fB)))
    (lB : K.lookup fB = some ⟨ocB, odB, .func (PySem.W.fnOf "behind" "behind" (defArgs sBehind) (defBody sBehind) (defScope sBehind) .none kVB dcB pmB anB cdB ctB), slB⟩)
    (cB : PySem.W.codeIn K cdB "behind" = true)
    (kB : PySem.W.keepIn K (.ref fB) = true)
    (aH : PySem.W.nsIn K mainGlobals "has_wants" = some (some (.ref fH)))
    (lH : K.lookup fH = some ⟨ocH, odH, .func (PySem.W.fnOf "has_wants" "has_wants" (defArgs sHasWants) (defBody sHasWants) (defScope sHasWants) .none kVH dcH pmH anH (.ref qH) ctH), slH⟩)
    (cH : PySem.W.codeIn K (.ref qH) "has_wants" = true)
    (kH : PySem.W.keepIn K (.ref fH) = true)
    (vH : K.lookup qH = some ⟨voH, vdH, .fields vvH, vsH⟩)
    (hH : (vvH[11]? : Option Value) = some (.ref PW))
    (nH : K.lookup PW = none)
    (aC : PySem.W.nsIn K mainGlobals "is_clean" = some (some (.ref fC)))
    (lC : K.lookup fC = some ⟨ocC, odC, .func (PySem.W.fnOf "is_clean" "is_clean" (defArgs sIsClean) (defBody sIsClean) (defScope sIsClean) .none kVC dcC pmC anC (.ref qC) ctC), slC⟩)
    (cC : PySem.W.codeIn K (.ref qC) "is_clean" = true)
    (kC : PySem.W.keepIn K (.ref fC) = true)
    (vC : K.lookup qC = some ⟨voC, vdC, .fields vvC, vsC⟩)
    (hC : (vvC[11]? : Option Value) = some (.ref TC))
    (nC : K.lookup TC = none)
    (aD : PySem.W.nsIn K mainGlobals "dyed" = some (some (.ref fD)))
    (lD : K.lookup fD = some ⟨ocD, odD, .func (PySem.W.fnOf "dyed" "dyed" (defArgs sDyed) (defBody sDyed) (defScope sDyed) .none kVD dcD pmD anD cdD ctD), slD⟩)
    (cD : PySem.W.codeIn K cdD "dyed" = true)
    (kD : PySem.W.keepIn K (.ref fD) = true)
    (aT : PySem.W.nsIn K mainGlobals "_law_taken" = some (some (.ref fT)))
    (lT : K.lookup fT = some ⟨ocT, odT, .func (PySem.W.fnOf "_law_taken" "_law_taken" (defArgs sTaken) (defBody sTaken) (defScope sTaken) .none kVT dcT pmT anT cdT ctT), slT⟩)
    (cT : PySem.W.codeIn K cdT "_law_taken" = true)
    (kT : PySem.W.keepIn K (.ref fT) = true)
    (aY : PySem.W.nsIn K mainGlobals "_law_dyes" = some (some (.ref fY)))
    (lY : K.lookup fY = some ⟨ocY, odY, .func (PySem.W.fnOf "_law_dyes" "_law_dyes" (defArgs sDyes) (defBody sDyes) (defScope sDyes) .none kVY dcY pmY anY cdY ctY), slY⟩)
    (cY : PySem.W.codeIn K cdY "_law_dyes" = true)
    (kY : PySem.W.keepIn K (.ref fY) = true)
    (aW : PySem.W.nsIn K mainGlobals "_law_works" = some (some (.ref fW)))
    (lW : K.lookup fW = some ⟨ocW, odW, .func (PySem.W.fnOf "_law_works" "_law_works" (defArgs sWorks) (defBody sWorks) (defScope sWorks) .none kVW dcW pmW anW cdW ctW), slW⟩)
    (cW : PySem.W.codeIn K cdW "_law_works" = true)
    (kW : PySem.W.keepIn K (.ref fW) = true)
    (aP : PySem.W.nsIn K mainGlobals "_law_pass" = some (some (.ref fP)))
    (lP : K.lookup fP = some ⟨ocP, odP, .func (PySem.W.fnOf "_law_pass" "_law_pass" (defArgs sPass) (defBody sPass) (defScope sPass) .none kVP dcP pmP anP cdP ctP), slP⟩)
    (cP : PySem.W.codeIn K cdP "_law_pass" = true)
    (kP : PySem.W.keepIn K (.ref fP) = true)
    (aG : PySem.W.nsIn K mainGlobals "_law_good" = some (some (.ref fG)))
    (lG : K.lookup fG = some ⟨ocG, odG, .func (PySem.W.fnOf "_law_good" "_law_good" (defArgs sGood) (defBody sGood) (defScope sGood) .none kVG dcG pmG anG cdG ctG), slG⟩)
    (cG : PySem.W.codeIn K cdG "_law_good" = true)
    (kG : PySem.W.keepIn K (.ref fG) = true)
    (aA : PySem.W.nsIn K mainGlobals "_law_alike" = some (some (.ref fA)))
    (lA : K.lookup fA = some ⟨ocA, odA, .func (PySem.W.fnOf "_law_alike" "_law_alike" (defArgs sAlike) (defBody sAlike) (defScope sAlike) .none kVA dcA pmA anA cdA ctA), slA⟩)
    (cA : PySem.W.codeIn K cdA "_law_alike" = true)
    (kA : PySem.W.keepIn K (.ref fA) = true)
    (aF : PySem.W.nsIn K mainGlobals "_law_refused" = some (some (.ref fF)))
    (lF : K.lookup fF = some ⟨ocF, odF, .func (PySem.W.fnOf "_law_refused" "_law_refused" (defArgs sRefused) (defBody sRefused) (defScope sRefused) .none kVF dcF pmF anF cdF ctF), slF⟩)
    (cF : PySem.W.codeIn K cdF "_law_refused" = true)
    (kF : PySem.W.keepIn K (.ref fF) = true)
    (aS : PySem.W.nsIn K mainGlobals "_law_calls" = some (some (.ref fS)))
    (lS : K.lookup fS = some ⟨ocS, odS, .func (PySem.W.fnOf "_law_calls" "_law_calls" (defArgs sCalls) (defBody sCalls) (defScope sCalls) .none kVS dcS pmS anS (.ref qS) ctS), slS⟩)
    (cS : PySem.W.codeIn K (.ref qS) "_law_calls" = true)
    (kS : PySem.W.keepIn K (.ref fS) = true)
    (vS : K.lookup qS = some ⟨voS, vdS, .fields vvS, vsS⟩)
    (hS : (vvS[11]? : Option Value) = some (.ref PL))
    (nS : K.lookup PL = none)
    (aO : PySem.W.nsIn K mainGlobals "_law_pick" = some (some (.ref fO)))
    (lO : K.lookup fO = some ⟨ocO, odO, .func (PySem.W.fnOf "_law_pick" "_law_pick" (defArgs sPick) (defBody sPick) (defScope sPick) .none kVO dcO pmO anO cdO ctO), slO⟩)
    (cO : PySem.W.codeIn K cdO "_law_pick" = true)
    (kO : PySem.W.keepIn K (.ref fO) = true)
    (aZ : PySem.W.nsIn K mainGlobals "law" = some (some (.ref fZ)))
    (lZ : K.lookup fZ = some ⟨ocZ, odZ, .func (PySem.W.fnOf "law" "law" (defArgs sLaw) (defBody sLaw) (defScope sLaw) .none kVZ dcZ pmZ anZ cdZ ctZ), slZ⟩)
    (cZ : PySem.W.codeIn K cdZ "law" = true)
    (kZ : PySem.W.keepIn K (.ref fZ) = true)
    (gC : PySem.W.nsIn K mainGlobals "Bench" = some (some (.ref C)))
    (gC0 : PySem.W.nsIn K mainGlobals "WorksError" = some (some (.ref C0)))
    (gCW : PySem.W.nsIn K mainGlobals "BadWorks" = some (some (.ref CW)))
    (gCN : PySem.W.nsIn K mainGlobals "BadNumber" = some (some (.ref CN)))
    (gCS : PySem.W.nsIn K mainGlobals "BadStep" = some (some (.ref CS)))
    (ami : PySem.W.findIn K (.ref C) "__init__" = some (some (.ref fmi)))
    (imi : PySem.W.isFn K (.ref fmi) = true)
    (lmi : K.lookup fmi = some ⟨ocmi, odmi, .func (PySem.W.fnOf "__init__" "Bench.__init__" (defArgs sBI) (defBody sBI) (defScope sBI) .none kVmi dcmi pmmi anmi cdmi ctmi), slmi⟩)
    (cmi : PySem.W.codeIn K cdmi "Bench.__init__" = true)
    (kmi : PySem.W.keepIn K (.ref fmi) = true)
    (amk : PySem.W.findIn K (.ref C) "_keep" = some (some (.ref fmk)))
    (imk : PySem.W.isFn K (.ref fmk) = true)
    (lmk : K.lookup fmk = some ⟨ocmk, odmk, .func (PySem.W.fnOf "_keep" "Bench._keep" (defArgs sBKeep) (defBody sBKeep) (defScope sBKeep) .none kVmk dcmk pmmk anmk cdmk ctmk), slmk⟩)
    (cmk : PySem.W.codeIn K cdmk "Bench._keep" = true)
    (kmk : PySem.W.keepIn K (.ref fmk) = true)
    (amd : PySem.W.findIn K (.ref C) "dye" = some (some (.ref fmd)))
    (imd : PySem.W.isFn K (.ref fmd) = true)
    (lmd : K.lookup fmd = some ⟨ocmd, odmd, .func (PySem.W.fnOf "dye" "Bench.dye" (defArgs sBDye) (defBody sBDye) (defScope sBDye) .none kVmd dcmd pmmd anmd cdmd ctmd), slmd⟩)
    (cmd : PySem.W.codeIn K cdmd "Bench.dye" = true)
    (kmd : PySem.W.keepIn K (.ref fmd) = true)
    (amh : PySem.W.findIn K (.ref C) "wash" = some (some (.ref fmh)))
    (imh : PySem.W.isFn K (.ref fmh) = true)
    (lmh : K.lookup fmh = some ⟨ocmh, odmh, .func (PySem.W.fnOf "wash" "Bench.wash" (defArgs sBWash) (defBody sBWash) (defScope sBWash) .none kVmh dcmh pmmh anmh cdmh ctmh), slmh⟩)
    (cmh : PySem.W.codeIn K cdmh "Bench.wash" = true)
    (kmh : PySem.W.keepIn K (.ref fmh) = true)
    (amu : PySem.W.findIn K (.ref C) "undo" = some (some (.ref fmu)))
    (imu : PySem.W.isFn K (.ref fmu) = true)
    (lmu : K.lookup fmu = some ⟨ocmu, odmu, .func (PySem.W.fnOf "undo" "Bench.undo" (defArgs sBUndo) (defBody sBUndo) (defScope sBUndo) .none kVmu dcmu pmmu anmu cdmu ctmu), slmu⟩)
    (cmu : PySem.W.codeIn K cdmu "Bench.undo" = true)
    (kmu : PySem.W.keepIn K (.ref fmu) = true)
    (ap1 : PySem.W.findIn K (.ref C) "stand" = some (some (.ref p1)))
    (gp1 : PySem.W.specialIn K (.ref p1) "__get__" = some (some (.builtin "property.__get__")))
    (tp1 : PySem.W.takesIn K (.ref p1) = some true)
    (rp1 : PySem.W.recIn K p1 "property" = some (.ref fp1 :: rsp1))
    (lp1 : K.lookup fp1 = some ⟨ocp1, odp1, .func (PySem.W.fnOf "stand" "Bench.stand" (defArgs sBStand) (defBody sBStand) (defScope sBStand) .none kVp1 dcp1 pmp1 anp1 cdp1 ctp1), slp1⟩)
    (cp1 : PySem.W.codeIn K cdp1 "Bench.stand" = true)
    (kp1 : PySem.W.keepIn K (.ref fp1) = true)
    (ap2 : PySem.W.findIn K (.ref C) "deeds" = some (some (.ref p2)))
    (gp2 : PySem.W.specialIn K (.ref p2) "__get__" = some (some (.builtin "property.__get__")))
    (tp2 : PySem.W.takesIn K (.ref p2) = some true)
    (rp2 : PySem.W.recIn K p2 "property" = some (.ref fp2 :: rsp2))
    (lp2 : K.lookup fp2 = some ⟨ocp2, odp2, .func (PySem.W.fnOf "deeds" "Bench.deeds" (defArgs sBDeeds) (defBody sBDeeds) (defScope sBDeeds) .none kVp2 dcp2 pmp2 anp2 cdp2 ctp2), slp2⟩)
    (cp2 : PySem.W.codeIn K cdp2 "Bench.deeds" = true)
    (kp2 : PySem.W.keepIn K (.ref fp2) = true)
    (ap3 : PySem.W.findIn K (.ref C) "bad" = some (some (.ref p3)))
    (gp3 : PySem.W.specialIn K (.ref p3) "__get__" = some (some (.builtin "property.__get__")))
    (tp3 : PySem.W.takesIn K (.ref p3) = some true)
    (rp3 : PySem.W.recIn K p3 "property" = some (.ref fp3 :: rsp3))
    (lp3 : K.lookup fp3 = some ⟨ocp3, odp3, .func (PySem.W.fnOf "bad" "Bench.bad" (defArgs sBBad) (defBody sBBad) (defScope sBBad) .none kVp3 dcp3 pmp3 anp3 cdp3 ctp3), slp3⟩)
    (cp3 : PySem.W.codeIn K cdp3 "Bench.bad" = true)
    (kp3 : PySem.W.keepIn K (.ref fp3) = true)
    (pg : PySem.W.plainGet K C Str.empty = true)
    (hd : PySem.W.hasDictIn K C = true)
    (po : PySem.W.plainOver K C = true)
    (sa : PySem.W.findIn K (.ref C) "__setattr__" = some (some (.builtin "object.__setattr__")))
    (mk : PySem.W.makesIn K C = true)
    (kc : PySem.W.keepIn K (.ref C) = true)
    (atW : PySem.W.findIn K (.ref C) "_works" = some none)
    (atN : PySem.W.findIn K (.ref C) "_now" = some none)
    (atZ : PySem.W.findIn K (.ref C) "_wrong" = some none)
    (atR : PySem.W.findIn K (.ref C) "_row" = some none)
    (atO : PySem.W.findIn K (.ref C) "_olds" = some none)
    (xW : K.lookup CW = some (excClassObj nmw qw CW NW bsw bmw true snw subw abw colw ddw w0 w1 w2 w3 w5 "ValueError.__new__"))
    (hbm : PySem.HandSPX.refsVE bmw = true)
    (saW : PySem.W.findIn K (.ref CW) "__setattr__" = some (some (.builtin "object.__setattr__")))
    (kpW : PySem.W.keepIn K (.ref CW) = true)
    (tyW : PySem.W.typeIn K (.ref CW) = some (.type "type"))
    (iW : PySem.W.findIn K (.ref CW) "__init__" = some (some (.ref fE)))
    (tE : PySem.W.typeIn K (.ref fE) = some (.type "function"))
    (noW : PySem.W.findIn K (.ref CW) "part" = some none)
    (lE : K.lookup fE = some ⟨ocE, odE, .func (PySem.W.fnOf "__init__" "BadWorks.__init__" (defArgs sBWInit) (defBody sBWInit) (defScope sBWInit) .none kVE dcE pmE anE cdE ctE), slE⟩)
    (cE : PySem.W.codeIn K cdE "BadWorks.__init__" = true)
    (kE : PySem.W.keepIn K (.ref fE) = true)
    (xCN : PySem.W.excIn K CN [.type "ValueError", .type "Exception", .type "BaseException", .type "object"] "ValueError.__new__" = true)
    (kpCN : PySem.W.keepIn K (.ref CN) = true)
    (tyCN : PySem.W.typeIn K (.ref CN) = some (.type "type"))
    (xCS : PySem.W.excIn K CS [.type "ValueError", .type "Exception", .type "BaseException", .type "object"] "ValueError.__new__" = true)
    (kpCS : PySem.W.keepIn K (.ref CS) = true)
    (tyCS : PySem.W.typeIn K (.ref CS) = some (.type "type"))
    (gaCW : PySem.W.findIn K (.ref CW) "__getattribute__" = some (some (.builtin "BaseException.__getattribute__")))
    (ggCW : PySem.W.findIn K (.ref CW) "__getattr__" = some none)
    (sbCW : PySem.W.subIn K (.ref CW) (.type "BaseException") = some true)
    (hdCW : PySem.W.hasDictIn K CW = true)
    (clCW : PySem.W.findIn K (.ref CW) "__class__" = some (some (.builtin "object.__class__")))
    (mrCW : PySem.W.mroIn K CW (.type "object") = some true)
    (seCW : PySem.W.subIn K (.ref CW) (.ref C0) = some true)
    (gaCN : PySem.W.findIn K (.ref CN) "__getattribute__" = some (some (.builtin "BaseException.__getattribute__")))
    (ggCN : PySem.W.findIn K (.ref CN) "__getattr__" = some none)
    (sbCN : PySem.W.subIn K (.ref CN) (.type "BaseException") = some true)
    (hdCN : PySem.W.hasDictIn K CN = true)
    (clCN : PySem.W.findIn K (.ref CN) "__class__" = some (some (.builtin "object.__class__")))
    (mrCN : PySem.W.mroIn K CN (.type "object") = some true)
    (seCN : PySem.W.subIn K (.ref CN) (.ref C0) = some true)
    (gaCS : PySem.W.findIn K (.ref CS) "__getattribute__" = some (some (.builtin "BaseException.__getattribute__")))
    (ggCS : PySem.W.findIn K (.ref CS) "__getattr__" = some none)
    (sbCS : PySem.W.subIn K (.ref CS) (.type "BaseException") = some true)
    (hdCS : PySem.W.hasDictIn K CS = true)
    (clCS : PySem.W.findIn K (.ref CS) "__class__" = some (some (.builtin "object.__class__")))
    (mrCS : PySem.W.mroIn K CS (.type "object") = some true)
    (seCS : PySem.W.subIn K (.ref CS) (.ref C0) = some true)
    (cn : PySem.W.specialIn K (.builtin "object.__class__") "__get__" = some (some (.builtin "getset_descriptor.__get__")))
    (ct : PySem.W.takesIn K (.builtin "object.__class__") = some true)
    (sbC0 : PySem.W.subIn K (.ref C0) (.type "BaseException") = some true)
    (hdC0 : PySem.W.hasDictIn K C0 = true)
    (tyC0 : PySem.W.typeIn K (.ref C0) = some (.type "type"))
    (qCWCW : PySem.W.kitOne K (.ref CW) (.ref CW) = some true)
    (qCWCN : PySem.W.kitOne K (.ref CW) (.ref CN) = some false)
    (qCWCS : PySem.W.kitOne K (.ref CW) (.ref CS) = some false)
    (qCNCW : PySem.W.kitOne K (.ref CN) (.ref CW) = some false)
    (qCNCN : PySem.W.kitOne K (.ref CN) (.ref CN) = some true)
    (qCNCS : PySem.W.kitOne K (.ref CN) (.ref CS) = some false)
    (qCSCW : PySem.W.kitOne K (.ref CS) (.ref CW) = some false)
    (qCSCN : PySem.W.kitOne K (.ref CS) (.ref CN) = some false)
    (qCSCS : PySem.W.kitOne K (.ref CS) (.ref CS) = some true)
    (b_len : PySem.W.nsIn K mainGlobals "len" = some none)
    (b_isi : PySem.W.nsIn K mainGlobals "isinstance" = some none)
    (b_int : PySem.W.nsIn K mainGlobals "int" = some none)
    (b_bool : PySem.W.nsIn K mainGlobals "bool" = some none)
    (b_str : PySem.W.nsIn K mainGlobals "str" = some none)
    (b_tuple : PySem.W.nsIn K mainGlobals "tuple" = some none)
    (b_list : PySem.W.nsIn K mainGlobals "list" = some none)
    (b_all : PySem.W.nsIn K mainGlobals "all" = some none)
    (b_any : PySem.W.nsIn K mainGlobals "any" = some none)
    (b_zip : PySem.W.nsIn K mainGlobals "zip" = some none)
    (b_sorted : PySem.W.nsIn K mainGlobals "sorted" = some none)
    (b_set : PySem.W.nsIn K mainGlobals "set" = some none)
    (b_range : PySem.W.nsIn K mainGlobals "range" = some none)
    (s_dyes : PySem.W.nsIn K mainGlobals "MOST_DYES" = some (some (.int 5 tk1)))
    (s_vats : PySem.W.nsIn K mainGlobals "MOST_VATS" = some (some (.int 5 tk2)))
    (s_kinds : PySem.W.nsIn K mainGlobals "MOST_KINDS" = some (some (.int 4 tk3)))
    (s_routes : PySem.W.nsIn K mainGlobals "MOST_ROUTES" = some (some (.int 8 tk4)))
    (s_long : PySem.W.nsIn K mainGlobals "MOST_LONG" = some (some (.int 6 tk5)))
    (dW : PW ∉ [TL, TR, TK, TN, TC])
    (dL : PL ∉ [TL, TR, TK, TN, TC])
    (dP : PW ≠ PL) :
    ∃ (fd : FuncData) (cs : List (Addr × Addr)) (xs : List Addr) (sp : Sp), (∀ p ∈ cs, ∃ y ∈ (["is_lot", "is_route", "is_kind", "need_works", "has_wants", "is_clean", "_law_calls"] : List Str), PySem.W.tabIn K y = some p) ∧ (∀ p ∈ cs, K.lookup p.2 = none) ∧ (∀ (s : Shared) (u : Value), BindsTo s fd ⟨[u], []⟩ [("_law_script", u)]) ∧
      (∀ (H : Hp) (a : Addr) (ns : List Int), ns.length ≤ n0 → (∀ p ∈ cs, H p.2 = some (if p.2 ∈ xs then TabX p.2 else .tbl #[])) → SqL K H a (ns.map V.int) → sp [.ref a] H (fun v H' => v = .bl true ∧ ∀ b ∈ xs, H b = some (TabX b) → H' b = some (TabX b)) fun _ _ _ => False) ∧
      ∀ base : Heap, K.In base → base.Ns mainGlobals mg → (∀ p ∈ cs, LamX.TabB base mg p.1 p.2) → FnOk P w K mg base CX0 18 fa fd ["_law_script"] sp := by
  have ee := hfa.symm.trans (PySem.W.mg_of X G aZ)
  cases ee
  have FN := fun_mk (st := sIsNum) lN cN kN
  have bN := FN.binds (ps := ["value", "low", "high"]) fun _ _ _ _ _ _ us hl => match us, hl with | [_, _, _], _ => rfl
  have DN : Dn K mg "is_number" sIsNum ["value", "low", "high"] fN _ := ⟨FN, PySem.W.mg_of X G aN, bN⟩
  have FQ := fun_mk (st := sNeedNum) lQ cQ kQ
  have bQ := FQ.binds (ps := ["value", "low", "high"]) fun _ _ _ _ _ _ us hl => match us, hl with | [_, _, _], _ => rfl
  have DQ : Dn K mg "need_number" sNeedNum ["value", "low", "high"] fQ _ := ⟨FQ, PySem.W.mg_of X G aQ, bQ⟩
  have FL := fun_mk (st := sIsLot) lL cL kL
  have bL := FL.binds (ps := ["value", "many"]) fun _ _ _ _ _ _ us hl => match us, hl with | [_, _], _ => rfl
  have DL : Dn K mg "is_lot" sIsLot ["value", "many"] fL _ := ⟨FL, PySem.W.mg_of X G aL, bL⟩
  have tL : PySem.W.tabIn K "is_lot" = some (qL, TL) := tab_mk aL lL rfl vL hL
  have CL : FunC K "is_lot" "is_lot" sIsLot fL (PySem.W.fnOf "is_lot" "is_lot" (defArgs sIsLot) (defBody sIsLot) (defScope sIsLot) .none kVL dcL pmL anL (.ref qL) ctL) qL := ⟨⟨ocL, odL, kVL, dcL, pmL, anL, ctL, slL, rfl, lL, cL⟩⟩
  have EL : Dc K mg "is_lot" sIsLot ["value", "many"] fL _ qL := ⟨CL, PySem.W.mg_of X G aL, kL, bL⟩
  have FR := fun_mk (st := sIsRoute) lR cR kR
  have bR := FR.binds (ps := ["value", "vats"]) fun _ _ _ _ _ _ us hl => match us, hl with | [_, _], _ => rfl
  have DR : Dn K mg "is_route" sIsRoute ["value", "vats"] fR _ := ⟨FR, PySem.W.mg_of X G aR, bR⟩
  have tR : PySem.W.tabIn K "is_route" = some (qR, TR) := tab_mk aR lR rfl vR hR
  have CR : FunC K "is_route" "is_route" sIsRoute fR (PySem.W.fnOf "is_route" "is_route" (defArgs sIsRoute) (defBody sIsRoute) (defScope sIsRoute) .none kVR dcR pmR anR (.ref qR) ctR) qR := ⟨⟨ocR, odR, kVR, dcR, pmR, anR, ctR, slR, rfl, lR, cR⟩⟩
  have ER : Dc K mg "is_route" sIsRoute ["value", "vats"] fR _ qR := ⟨CR, PySem.W.mg_of X G aR, kR, bR⟩
  have FK := fun_mk (st := sIsKind) lK cK kK
  have bK := FK.binds (ps := ["value", "dyes", "vats"]) fun _ _ _ _ _ _ us hl => match us, hl with | [_, _, _], _ => rfl
  have DK : Dn K mg "is_kind" sIsKind ["value", "dyes", "vats"] fK _ := ⟨FK, PySem.W.mg_of X G aK, bK⟩
  have tK : PySem.W.tabIn K "is_kind" = some (qK, TK) := tab_mk aK lK rfl vK hK
  have CK : FunC K "is_kind" "is_kind" sIsKind fK (PySem.W.fnOf "is_kind" "is_kind" (defArgs sIsKind) (defBody sIsKind) (defScope sIsKind) .none kVK dcK pmK anK (.ref qK) ctK) qK := ⟨⟨ocK, odK, kVK, dcK, pmK, anK, ctK, slK, rfl, lK, cK⟩⟩
  have EK : Dc K mg "is_kind" sIsKind ["value", "dyes", "vats"] fK _ qK := ⟨CK, PySem.W.mg_of X G aK, kK, bK⟩
  have FV := fun_mk (st := sNeedWorks) lV cV kV
  have bV := FV.binds (ps := ["value"]) fun _ _ _ _ _ _ us hl => match us, hl with | [_], _ => rfl
  have DV : Dn K mg "need_works" sNeedWorks ["value"] fV _ := ⟨FV, PySem.W.mg_of X G aV, bV⟩
  have tV : PySem.W.tabIn K "need_works" = some (qV, TN) := tab_mk aV lV rfl vV hV
  have CV : FunC K "need_works" "need_works" sNeedWorks fV (PySem.W.fnOf "need_works" "need_works" (defArgs sNeedWorks) (defBody sNeedWorks) (defScope sNeedWorks) .none kVV dcV pmV anV (.ref qV) ctV) qV := ⟨⟨ocV, odV, kVV, dcV, pmV, anV, ctV, slV, rfl, lV, cV⟩⟩
  have EV : Dc K mg "need_works" sNeedWorks ["value"] fV _ qV := ⟨CV, PySem.W.mg_of X G aV, kV, bV⟩
  have FJ := fun_mk (st := sJoined) lJ cJ kJ
  have bJ := FJ.binds (ps := ["one", "other"]) fun _ _ _ _ _ _ us hl => match us, hl with | [_, _], _ => rfl
  have DJ : Dn K mg "joined" sJoined ["one", "other"] fJ _ := ⟨FJ, PySem.W.mg_of X G aJ, bJ⟩
  have FB := fun_mk (st := sBehind) lB cB kB
  have bB := FB.binds (ps := ["stand", "route"]) fun _ _ _ _ _ _ us hl => match us, hl with | [_, _], _ => rfl
  have DB : Dn K mg "behind" sBehind ["stand", "route"] fB _ := ⟨FB, PySem.W.mg_of X G aB, bB⟩
  have FH := fun_mk (st := sHasWants) lH cH kH
  have bH := FH.binds (ps := ["works", "kind", "route"]) fun _ _ _ _ _ _ us hl => match us, hl with | [_, _, _], _ => rfl
  have DH : Dn K mg "has_wants" sHasWants ["works", "kind", "route"] fH _ := ⟨FH, PySem.W.mg_of X G aH, bH⟩
  have tH : PySem.W.tabIn K "has_wants" = some (qH, PW) := tab_mk aH lH rfl vH hH
  have CH : FunC K "has_wants" "has_wants" sHasWants fH (PySem.W.fnOf "has_wants" "has_wants" (defArgs sHasWants) (defBody sHasWants) (defScope sHasWants) .none kVH dcH pmH anH (.ref qH) ctH) qH := ⟨⟨ocH, odH, kVH, dcH, pmH, anH, ctH, slH, rfl, lH, cH⟩⟩
  have EH : Dc K mg "has_wants" sHasWants ["works", "kind", "route"] fH _ qH := ⟨CH, PySem.W.mg_of X G aH, kH, bH⟩
  have FC := fun_mk (st := sIsClean) lC cC kC
  have bC := FC.binds (ps := ["works", "kind", "carried"]) fun _ _ _ _ _ _ us hl => match us, hl with | [_, _, _], _ => rfl
  have DC : Dn K mg "is_clean" sIsClean ["works", "kind", "carried"] fC _ := ⟨FC, PySem.W.mg_of X G aC, bC⟩
  have tC : PySem.W.tabIn K "is_clean" = some (qC, TC) := tab_mk aC lC rfl vC hC
  have CC : FunC K "is_clean" "is_clean" sIsClean fC (PySem.W.fnOf "is_clean" "is_clean" (defArgs sIsClean) (defBody sIsClean) (defScope sIsClean) .none kVC dcC pmC anC (.ref qC) ctC) qC := ⟨⟨ocC, odC, kVC, dcC, pmC, anC, ctC, slC, rfl, lC, cC⟩⟩
  have EC : Dc K mg "is_clean" sIsClean ["works", "kind", "carried"] fC _ qC := ⟨CC, PySem.W.mg_of X G aC, kC, bC⟩
  have FD := fun_mk (st := sDyed) lD cD kD
  have bD := FD.binds (ps := ["works", "stand", "kind", "number"]) fun _ _ _ _ _ _ us hl => match us, hl with | [_, _, _, _], _ => rfl
  have DD : Dn K mg "dyed" sDyed ["works", "stand", "kind", "number"] fD _ := ⟨FD, PySem.W.mg_of X G aD, bD⟩
  have FT := fun_mk (st := sTaken) lT cT kT
  have bT := FT.binds (ps := ["_law_row", "_law_many"]) fun _ _ _ _ _ _ us hl => match us, hl with | [_, _], _ => rfl
  have DT : Dn K mg "_law_taken" sTaken ["_law_row", "_law_many"] fT _ := ⟨FT, PySem.W.mg_of X G aT, bT⟩
  have FY := fun_mk (st := sDyes) lY cY kY
  have bY := FY.binds (ps := ["_law_row", "_law_dyes_here", "_law_many"]) fun _ _ _ _ _ _ us hl => match us, hl with | [_, _, _], _ => rfl
  have DY : Dn K mg "_law_dyes" sDyes ["_law_row", "_law_dyes_here", "_law_many"] fY _ := ⟨FY, PySem.W.mg_of X G aY, bY⟩
  have FW := fun_mk (st := sWorks) lW cW kW
  have bW := FW.binds (ps := ["_law_row"]) fun _ _ _ _ _ _ us hl => match us, hl with | [_], _ => rfl
  have DW : Dn K mg "_law_works" sWorks ["_law_row"] fW _ := ⟨FW, PySem.W.mg_of X G aW, bW⟩
  have FP := fun_mk (st := sPass) lP cP kP
  have bP := FP.binds (ps := ["_law_stand", "_law_route"]) fun _ _ _ _ _ _ us hl => match us, hl with | [_, _], _ => rfl
  have DP : Dn K mg "_law_pass" sPass ["_law_stand", "_law_route"] fP _ := ⟨FP, PySem.W.mg_of X G aP, bP⟩
  have FG := fun_mk (st := sGood) lG cG kG
  have bG := FG.binds (ps := ["_law_works_here", "_law_stand", "_law_kind", "_law_number"]) fun _ _ _ _ _ _ us hl => match us, hl with | [_, _, _, _], _ => rfl
  have DG : Dn K mg "_law_good" sGood ["_law_works_here", "_law_stand", "_law_kind", "_law_number"] fG _ := ⟨FG, PySem.W.mg_of X G aG, bG⟩
  have FA := fun_mk (st := sAlike) lA cA kA
  have bA := FA.binds (ps := ["_law_found", "_law_due"]) fun _ _ _ _ _ _ us hl => match us, hl with | [_, _], _ => rfl
  have DA : Dn K mg "_law_alike" sAlike ["_law_found", "_law_due"] fA _ := ⟨FA, PySem.W.mg_of X G aA, bA⟩
  have FF := fun_mk (st := sRefused) lF cF kF
  have bF := FF.binds (ps := ["_law_work"]) fun _ _ _ _ _ _ us hl => match us, hl with | [_], _ => rfl
  have DF : Dn K mg "_law_refused" sRefused ["_law_work"] fF _ := ⟨FF, PySem.W.mg_of X G aF, bF⟩
  have FS := fun_mk (st := sCalls) lS cS kS
  have bS := FS.binds (ps := ["_law_one", "_law_other", "_law_third"]) fun _ _ _ _ _ _ us hl => match us, hl with | [_, _, _], _ => rfl
  have DS : Dn K mg "_law_calls" sCalls ["_law_one", "_law_other", "_law_third"] fS _ := ⟨FS, PySem.W.mg_of X G aS, bS⟩
  have tS : PySem.W.tabIn K "_law_calls" = some (qS, PL) := tab_mk aS lS rfl vS hS
  have CS_ : FunC K "_law_calls" "_law_calls" sCalls fS (PySem.W.fnOf "_law_calls" "_law_calls" (defArgs sCalls) (defBody sCalls) (defScope sCalls) .none kVS dcS pmS anS (.ref qS) ctS) qS := ⟨⟨ocS, odS, kVS, dcS, pmS, anS, ctS, slS, rfl, lS, cS⟩⟩
  have ES : Dc K mg "_law_calls" sCalls ["_law_one", "_law_other", "_law_third"] fS _ qS := ⟨CS_, PySem.W.mg_of X G aS, kS, bS⟩
  have FO := fun_mk (st := sPick) lO cO kO
  have bO := FO.binds (ps := ["_law_row", "_law_things"]) fun _ _ _ _ _ _ us hl => match us, hl with | [_, _], _ => rfl
  have DO : Dn K mg "_law_pick" sPick ["_law_row", "_law_things"] fO _ := ⟨FO, PySem.W.mg_of X G aO, bO⟩
  have FZ := fun_mk (st := sLaw) lZ cZ kZ
  have bZ := FZ.binds (ps := ["_law_script"]) fun _ _ _ _ _ _ us hl => match us, hl with | [_], _ => rfl
  have DZ : Dn K mg "law" sLaw ["_law_script"] fa _ := ⟨FZ, PySem.W.mg_of X G aZ, bZ⟩
  have Fmi := fun_mk (st := sBI) lmi cmi kmi
  have bmi := Fmi.binds (ps := ["self", "works"]) fun _ _ _ _ _ _ us hl => match us, hl with | [_, _], _ => rfl
  have Fmk := fun_mk (st := sBKeep) lmk cmk kmk
  have bmk := Fmk.binds (ps := ["self", "deed"]) fun _ _ _ _ _ _ us hl => match us, hl with | [_, _], _ => rfl
  have Fmd := fun_mk (st := sBDye) lmd cmd kmd
  have bmd := Fmd.binds (ps := ["self", "kind", "route"]) fun _ _ _ _ _ _ us hl => match us, hl with | [_, _, _], _ => rfl
  have Fmh := fun_mk (st := sBWash) lmh cmh kmh
  have bmh := Fmh.binds (ps := ["self", "vat"]) fun _ _ _ _ _ _ us hl => match us, hl with | [_, _], _ => rfl
  have Fmu := fun_mk (st := sBUndo) lmu cmu kmu
  have bmu := Fmu.binds (ps := ["self"]) fun _ _ _ _ _ _ us hl => match us, hl with | [_], _ => rfl
  have Fp1 := fun_mk (st := sBStand) lp1 cp1 kp1
  have bp1 := Fp1.binds (ps := ["self"]) fun _ _ _ _ _ _ us hl => match us, hl with | [_], _ => rfl
  have Fp2 := fun_mk (st := sBDeeds) lp2 cp2 kp2
  have bp2 := Fp2.binds (ps := ["self"]) fun _ _ _ _ _ _ us hl => match us, hl with | [_], _ => rfl
  have Fp3 := fun_mk (st := sBBad) lp3 cp3 kp3
  have bp3 := Fp3.binds (ps := ["self"]) fun _ _ _ _ _ _ us hl => match us, hl with | [_], _ => rfl
  have FE := fun_mk (st := sBWInit) lE cE kE
  have bE := FE.binds (ps := ["self", "part"]) fun _ _ _ _ _ _ us hl => match us, hl with | [_, _], _ => rfl
  have Bt : Blt mg := { len := PySem.W.mg_none_of X G b_len, isi := PySem.W.mg_none_of X G b_isi, int := PySem.W.mg_none_of X G b_int, bool := PySem.W.mg_none_of X G b_bool, str := PySem.W.mg_none_of X G b_str, tuple := PySem.W.mg_none_of X G b_tuple, list := PySem.W.mg_none_of X G b_list, all := PySem.W.mg_none_of X G b_all, any := PySem.W.mg_none_of X G b_any, zip := PySem.W.mg_none_of X G b_zip, sorted := PySem.W.mg_none_of X G b_sorted, set := PySem.W.mg_none_of X G b_set, range := PySem.W.mg_none_of X G b_range }
  have Cs : Cst mg := { dyes := ⟨_, PySem.W.mg_of X G s_dyes⟩, vats := ⟨_, PySem.W.mg_of X G s_vats⟩, kinds := ⟨_, PySem.W.mg_of X G s_kinds⟩, routes := ⟨_, PySem.W.mg_of X G s_routes⟩, long := ⟨_, PySem.W.mg_of X G s_long⟩ }
  have T : BTxt K mg C := ⟨⟨pg, hd, po, sa⟩, atW, atN, atZ, atR, atO, PySem.W.mg_of X G gC⟩
  have OX : OexC K CW := { cls := ⟨_, _, _, _, _, _, _, _, _, _, _, _, _, _, _, xW, hbm⟩, sa := saW, exC := sbCW, tyC := tyW, kC := kpW }
  have BW : Bw K mg CW fE _ := ⟨OX, PySem.W.mg_of X G gCW, iW, tE, noW, FE, bE⟩
  have OCN : Own K mg "BadNumber" CN := ⟨PySem.W.mg_of X G gCN, xCN, kpCN, sbCN, tyCN⟩
  have OCS : Own K mg "BadStep" CS := ⟨PySem.W.mg_of X G gCS, xCS, kpCS, sbCS, tyCS⟩
  have XCW : ExcC K CW := ⟨gaCW, ggCW, sbCW, hdCW, clCW, cn, ct, mrCW⟩
  have XCN : ExcC K CN := ⟨gaCN, ggCN, sbCN, hdCN, clCN, cn, ct, mrCN⟩
  have XCS : ExcC K CS := ⟨gaCS, ggCS, sbCS, hdCS, clCS, cn, ct, mrCS⟩
  have EX : Exs K mg C0 CW CN CS := { gE := PySem.W.mg_of X G gC0, gW := PySem.W.mg_of X G gCW, gN := PySem.W.mg_of X G gCN, gS := PySem.W.mg_of X G gCS, mW := PySem.W.exm_ref sbC0 hdC0 tyC0 seCW, mN := PySem.W.exm_ref sbC0 hdC0 tyC0 seCN, mS := PySem.W.exm_ref sbC0 hdC0 tyC0 seCS, eW := XCW, eN := XCN, eS := XCS, xf := ⟨gaCW, ggCW, sbCW, hdCW⟩, no := noW, kWW := qCWCW, kWN := qCWCN, kWS := qCWCS, kNW := qCNCW, kNN := qCNCN, kNS := qCNCS, kSW := qCSCW, kSN := qCSCN, kSS := qCSCS }
  refine ⟨(PySem.W.fnOf "law" "law" (defArgs sLaw) (defBody sLaw) (defScope sLaw) .none kVZ dcZ pmZ anZ cdZ ctZ), [(qL, TL), (qR, TR), (qK, TK), (qV, TN), (qH, PW), (qC, TC), (qS, PL)], [TL, TR, TK, TN, TC], spLaw K PW PL TL TR TK TN TC, fun p hp => ?_, fun p hp => ?_, fun s u => .of_eq rfl, fun H a ns hl hT hS => ?_, fun base hKb hns hTB => ?_⟩
  · simp only [List.mem_cons, List.not_mem_nil, or_false] at hp
    rcases hp with rfl | rfl | rfl | rfl | rfl | rfl | rfl
    · exact ⟨"is_lot", by simp, tL⟩
    · exact ⟨"is_route", by simp, tR⟩
    · exact ⟨"is_kind", by simp, tK⟩
    · exact ⟨"need_works", by simp, tV⟩
    · exact ⟨"has_wants", by simp, tH⟩
    · exact ⟨"is_clean", by simp, tC⟩
    · exact ⟨"_law_calls", by simp, tS⟩
  · simp only [List.mem_cons, List.not_mem_nil, or_false] at hp
    rcases hp with rfl | rfl | rfl | rfl | rfl | rfl | rfl
    · exact nL
    · exact nR
    · exact nK
    · exact nV
    · exact nH
    · exact nC
    · exact nS
  · have hx : ∀ {q T : Addr}, (q, T) ∈ ([(qL, TL), (qR, TR), (qK, TK), (qV, TN), (qH, PW), (qC, TC), (qS, PL)] : List (Addr × Addr)) → T ∈ [TL, TR, TK, TN, TC] → H T = some (TabX T) := fun {q T} m m2 => by
      have z := hT (q, T) m
      rwa [if_pos m2] at z
    have hy : ∀ {q T : Addr}, (q, T) ∈ ([(qL, TL), (qR, TR), (qK, TK), (qV, TN), (qH, PW), (qC, TC), (qS, PL)] : List (Addr × Addr)) → T ∉ [TL, TR, TK, TN, TC] → H T = some (.tbl #[]) := fun {q T} m m2 => by
      have z := hT (q, T) m
      rwa [if_neg m2] at z
    refine ⟨a, ns, rfl, hS, hy (q := qH) (by simp) dW, hy (q := qS) (by simp) dL, dP, ⟨hx (q := qL) (by simp) (by simp), hx (q := qR) (by simp) (by simp), hx (q := qK) (by simp) (by simp), hx (q := qV) (by simp) (by simp), hx (q := qC) (by simp) (by simp)⟩, fun H' e => ⟨rfl, fun b hb hh => e b _ (fun m => ?_) hh⟩⟩
    rcases List.mem_cons.mp m with m | m
    · rw [m] at hb; exact dW hb
    · rw [List.mem_singleton.mp m] at hb; exact dL hb
  · have BL : LamX.TabB base mg qL TL := hTB (qL, TL) (by simp)
    have BR : LamX.TabB base mg qR TR := hTB (qR, TR) (by simp)
    have BK : LamX.TabB base mg qK TK := hTB (qK, TK) (by simp)
    have BV : LamX.TabB base mg qV TN := hTB (qV, TN) (by simp)
    have BH : LamX.TabB base mg qH PW := hTB (qH, PW) (by simp)
    have BC : LamX.TabB base mg qC TC := hTB (qC, TC) (by simp)
    have BS : LamX.TabB base mg qS PL := hTB (qS, PL) (by simp)
    have GL : FnOk P w K mg base CX0 5 fL _ ["value", "many"] (spIsLot TL) := ok_islot CL Bt BL DN
    have GR : FnOk P w K mg base CX0 5 fR _ ["value", "vats"] (spIsRoute TR) := ok_isroute CR Bt Cs BR DN
    have GK : FnOk P w K mg base CX0 9 fK _ ["value", "dyes", "vats"] (spIsKind TL TR TK) := ok_iskind CK Bt Cs BK EL ER GL GR
    have GV : FnOk P w K mg base (L2.CX P w) 13 fV _ ["value"] (spNeedW TL TR TK TN TC CW) := ok_needw CV Bt Cs BV BW DN EL EK GL GK
    have GQ : FnOk P w K mg base (L2.CX P w) 2 fQ _ ["value", "low", "high"] (spNeed CN) := ok_need FQ Bt DN OCN
    have GB : FnOk P w K mg base CX0 2 fB _ ["stand", "route"] spBehind := ok_behind FB Bt DJ
    have GH : FnOk P w K mg base CX0 7 fH _ ["works", "kind", "route"] (spHas PW) := ok_has CH Bt BH
    have GC : FnOk P w K mg base CX0 4 fC _ ["works", "kind", "carried"] (spClean TC) := ok_clean CC Bt BC
    have GD : FnOk P w K mg base CX0 8 fD _ ["works", "stand", "kind", "number"] (spDyed PW TC) := ok_dyed FD DB EH EC GB GH GC
    have Gi : FnOk P w K mg base (L2.CX P w) 14 fmi _ ["self", "works"] (spBI TL TR TK TN TC CW C) := ok_binit Fmi T EV GV
    have Gk : FnOk P w K mg base CX0 1 fmk _ ["self", "deed"] (spKeep C) := ok_keep Fmk T
    have Gd : FnOk P w K mg base (L2.CX P w) 9 fmd _ ["self", "kind", "route"] (spDye PW TC CN C) := ok_dye Fmd Bt T DQ DD ⟨amk, imk, kmk⟩ bmk GQ GD Gk
    have Gh : FnOk P w K mg base (L2.CX P w) 3 fmh _ ["self", "vat"] (spWash CN C) := ok_wash Fmh Bt T DQ ⟨amk, imk, kmk⟩ bmk GQ Gk
    have Gu : FnOk P w K mg base (L2.CX P w) 1 fmu _ ["self"] (spUndo CS C) := ok_undo Fmu T OCS
    have U : Uses P w K mg base PW PL TL TR TK TN TC CW CN CS C fT fW fG fP fA fF fS fO fmi fmd fmh fmu p1 fp1 p2 fp2 p3 fp3 qS _ _ _ _ _ _ _ _ _ _ _ _ _ _ _ := {
      DT := DT, GT := ok_taken FT Bt, DW := DW, GW := ok_works FW Bt DT DY, DG := DG, GG := ok_good FG Bt DP, DP := DP, GP := ok_pass FP Bt, DA := DA, GA := ok_alike DA Bt 3, DR := DF, GR := ok_refused FF Bt EX 16, DC := ES, GC := ok_calls CS_ BS, DK := DO, GK := ok_pick FO Bt DT,
      MI := ⟨mk, ami, imi, kc⟩, bI := bmi, GI := Gi, MD := ⟨amd, imd, kmd⟩, bD := bmd, GD := Gd, MH := ⟨amh, imh, kmh⟩, bH := bmh, GH := Gh, MU := ⟨amu, imu, kmu⟩, bU := bmu, GU := Gu,
      P1 := ⟨ap1, gp1, tp1, _, rp1⟩, b1 := bp1, G1 := ok_stand Fp1 T, P2 := ⟨ap2, gp2, tp2, _, rp2⟩, b2 := bp2, G2 := ok_deeds Fp2 Bt T, P3 := ⟨ap3, gp3, tp3, _, rp3⟩, b3 := bp3, G3 := ok_bad Fp3 T }
    exact ok_law FZ Bt T U
end Dy
open PySem PySem.W PyProof.Rows
set_option Elab.async false
set_option maxRecDepth 100000 in
set_option maxHeartbeats 0 in
theorem PySem.Challenge.cw_dyeworks_k08_whole_benches_holds : PySem.Challenge.rw_dyeworks_k08_whole_benches.Holds := by
  w_on; o_law; k_head; (case hw => w_witness2)
  k_fill
  refine Dy.walk_X (l := PySem.Challenge.rw_dyeworks_k08_whole_benches) (k := 18) (CX := fun _ => L2.CX0) (x := "_law_script") (nms := ["is_lot", "is_route", "is_kind", "need_works", "has_wants", "is_clean", "_law_calls"]) rfl (by decide) rfl ⟨rfl, by decide, by decide⟩ ?R (fun w h Y => PySem.W.km_in_of Y) ?F (fun _ _ _ _ _ z => z)
  case R => first | rfl | kernel_rfl | decide +kernel
  case F =>
    intro w mg fa h Y KX G hmg
    refine' Dy.all_mk KX G hmg ?aN ?lN ?cN ?kN ?aQ ?lQ ?cQ ?kQ ?aL ?lL ?cL ?kL ?vL ?hL ?nL ?aR ?lR ?cR ?kR ?vR ?hR ?nR ?aK ?lK ?cK ?kK ?vK ?hK ?nK ?aV ?lV ?cV ?kV ?vV ?hV ?nV ?aJ ?lJ ?cJ ?kJ ?aB ?lB ?cB ?kB ?aH ?lH ?cH ?kH ?vH ?hH ?nH ?aC ?lC ?cC ?kC ?vC ?hC ?nC ?aD ?lD ?cD ?kD ?aT ?lT ?cT ?kT ?aY ?lY ?cY ?kY ?aW ?lW ?cW ?kW ?aP ?lP ?cP ?kP ?aG ?lG ?cG ?kG ?aA ?lA ?cA ?kA ?aF ?lF ?cF ?kF ?aS ?lS ?cS ?kS ?vS ?hS ?nS ?aO ?lO ?cO ?kO ?aZ ?lZ ?cZ ?kZ ?gC ?gC0 ?gCW ?gCN ?gCS ?ami ?imi ?lmi ?cmi ?kmi ?amk ?imk ?lmk ?cmk ?kmk ?amd ?imd ?lmd ?cmd ?kmd ?amh ?imh ?lmh ?cmh ?kmh ?amu ?imu ?lmu ?cmu ?kmu ?ap1 ?gp1 ?tp1 ?rp1 ?lp1 ?cp1 ?kp1 ?ap2 ?gp2 ?tp2 ?rp2 ?lp2 ?cp2 ?kp2 ?ap3 ?gp3 ?tp3 ?rp3 ?lp3 ?cp3 ?kp3 ?pg ?hd ?po ?sa ?mk ?kc ?atW ?atN ?atZ ?atR ?atO ?xW ?hbm ?saW ?kpW ?tyW ?iW ?tE ?noW ?lE ?cE ?kE ?xCN ?kpCN ?tyCN ?xCS ?kpCS ?tyCS ?gaCW ?ggCW ?sbCW ?hdCW ?clCW ?mrCW ?seCW ?gaCN ?ggCN ?sbCN ?hdCN ?clCN ?mrCN ?seCN ?gaCS ?ggCS ?sbCS ?hdCS ?clCS ?mrCS ?seCS ?cn ?ct ?sbC0 ?hdC0 ?tyC0 ?qCWCW ?qCWCN ?qCWCS ?qCNCW ?qCNCN ?qCNCS ?qCSCW ?qCSCN ?qCSCS ?b_len ?b_isi ?b_int ?b_bool ?b_str ?b_tuple ?b_list ?b_all ?b_any ?b_zip ?b_sorted ?b_set ?b_range ?s_dyes ?s_vats ?s_kinds ?s_routes ?s_long ?dW ?dL ?dP
    (case aN => k_is)
    (case lN => k_is)
    (case cN => k_is)
    (case kN => k_is)
    (case aQ => k_is)
    (case lQ => k_is)
    (case cQ => k_is)
    (case kQ => k_is)
    (case aL => k_is)
    (case lL => k_is)
    (case cL => k_is)
    (case kL => k_is)
    (case vL => k_is)
    (case hL => rfl)
    (case nL => first | rfl | kernel_rfl | decide +kernel)
    (case aR => k_is)
    (case lR => k_is)
    (case cR => k_is)
    (case kR => k_is)
    (case vR => k_is)
    (case hR => rfl)
    (case nR => first | rfl | kernel_rfl | decide +kernel)
    (case aK => k_is)
    (case lK => k_is)
    (case cK => k_is)
    (case kK => k_is)
    (case vK => k_is)
    (case hK => rfl)
    (case nK => first | rfl | kernel_rfl | decide +kernel)
    (case aV => k_is)
    (case lV => k_is)
    (case cV => k_is)
    (case kV => k_is)
    (case vV => k_is)
    (case hV => rfl)
    (case nV => first | rfl | kernel_rfl | decide +kernel)
    (case aJ => k_is)
    (case lJ => k_is)
    (case cJ => k_is)
    (case kJ => k_is)
    (case aB => k_is)
    (case lB => k_is)
    (case cB => k_is)
    (case kB => k_is)
    (case aH => k_is)
    (case lH => k_is)
    (case cH => k_is)
    (case kH => k_is)
    (case vH => k_is)
    (case hH => rfl)
    (case nH => first | rfl | kernel_rfl | decide +kernel)
    (case aC => k_is)
    (case lC => k_is)
    (case cC => k_is)
    (case kC => k_is)
    (case vC => k_is)
    (case hC => rfl)
    (case nC => first | rfl | kernel_rfl | decide +kernel)
    (case aD => k_is)
    (case lD => k_is)
    (case cD => k_is)
    (case kD => k_is)
    (case aT => k_is)
    (case lT => k_is)
    (case cT => k_is)
    (case kT => k_is)
    (case aY => k_is)
    (case lY => k_is)
    (case cY => k_is)
    (case kY => k_is)
    (case aW => k_is)
    (case lW => k_is)
    (case cW => k_is)
    (case kW => k_is)
    (case aP => k_is)
    (case lP => k_is)
    (case cP => k_is)
    (case kP => k_is)
    (case aG => k_is)
    (case lG => k_is)
    (case cG => k_is)
    (case kG => k_is)
    (case aA => k_is)
    (case lA => k_is)
    (case cA => k_is)
    (case kA => k_is)
    (case aF => k_is)
    (case lF => k_is)
    (case cF => k_is)
    (case kF => k_is)
    (case aS => k_is)
    (case lS => k_is)
    (case cS => k_is)
    (case kS => k_is)
    (case vS => k_is)
    (case hS => rfl)
    (case nS => first | rfl | kernel_rfl | decide +kernel)
    (case aO => k_is)
    (case lO => k_is)
    (case cO => k_is)
    (case kO => k_is)
    (case aZ => k_is)
    (case lZ => k_is)
    (case cZ => k_is)
    (case kZ => k_is)
    (case gC => k_is)
    (case gC0 => k_is)
    (case gCW => k_is)
    (case gCN => k_is)
    (case gCS => k_is)
    (case ami => k_is)
    (case imi => k_is)
    (case lmi => k_is)
    (case cmi => k_is)
    (case kmi => k_is)
    (case amk => k_is)
    (case imk => k_is)
    (case lmk => k_is)
    (case cmk => k_is)
    (case kmk => k_is)
    (case amd => k_is)
    (case imd => k_is)
    (case lmd => k_is)
    (case cmd => k_is)
    (case kmd => k_is)
    (case amh => k_is)
    (case imh => k_is)
    (case lmh => k_is)
    (case cmh => k_is)
    (case kmh => k_is)
    (case amu => k_is)
    (case imu => k_is)
    (case lmu => k_is)
    (case cmu => k_is)
    (case kmu => k_is)
    (case ap1 => k_is)
    (case gp1 => k_is)
    (case tp1 => k_is)
    (case rp1 => k_is)
    (case lp1 => k_is)
    (case cp1 => k_is)
    (case kp1 => k_is)
    (case ap2 => k_is)
    (case gp2 => k_is)
    (case tp2 => k_is)
    (case rp2 => k_is)
    (case lp2 => k_is)
    (case cp2 => k_is)
    (case kp2 => k_is)
    (case ap3 => k_is)
    (case gp3 => k_is)
    (case tp3 => k_is)
    (case rp3 => k_is)
    (case lp3 => k_is)
    (case cp3 => k_is)
    (case kp3 => k_is)
    (case pg => k_is)
    (case hd => k_is)
    (case po => k_is)
    (case sa => k_is)
    (case mk => k_is)
    (case kc => k_is)
    (case atW => k_is)
    (case atN => k_is)
    (case atZ => k_is)
    (case atR => k_is)
    (case atO => k_is)
    (case xW => k_is)
    (case hbm => first | rfl | decide +kernel)
    (case saW => k_is)
    (case kpW => k_is)
    (case tyW => k_is)
    (case iW => k_is)
    (case tE => k_is)
    (case noW => k_is)
    (case lE => k_is)
    (case cE => k_is)
    (case kE => k_is)
    (case xCN => first | k_exc | kernel_rfl)
    (case kpCN => k_is)
    (case tyCN => k_is)
    (case xCS => first | k_exc | kernel_rfl)
    (case kpCS => k_is)
    (case tyCS => k_is)
    (case gaCW => k_is)
    (case ggCW => k_is)
    (case sbCW => k_is)
    (case hdCW => k_is)
    (case clCW => k_is)
    (case mrCW => k_is)
    (case seCW => first | k_is | rfl)
    (case gaCN => k_is)
    (case ggCN => k_is)
    (case sbCN => k_is)
    (case hdCN => k_is)
    (case clCN => k_is)
    (case mrCN => k_is)
    (case seCN => first | k_is | rfl)
    (case gaCS => k_is)
    (case ggCS => k_is)
    (case sbCS => k_is)
    (case hdCS => k_is)
    (case clCS => k_is)
    (case mrCS => k_is)
    (case seCS => first | k_is | rfl)
    (case cn => k_is)
    (case ct => k_is)
    (case sbC0 => k_is)
    (case hdC0 => k_is)
    (case tyC0 => k_is)
    (case qCWCW => first | k_is | kit_is | rfl)
    (case qCWCN => first | k_is | kit_is | rfl)
    (case qCWCS => first | k_is | kit_is | rfl)
    (case qCNCW => first | k_is | kit_is | rfl)
    (case qCNCN => first | k_is | kit_is | rfl)
    (case qCNCS => first | k_is | kit_is | rfl)
    (case qCSCW => first | k_is | kit_is | rfl)
    (case qCSCN => first | k_is | kit_is | rfl)
    (case qCSCS => first | k_is | kit_is | rfl)
    (case b_len => k_is)
    (case b_isi => k_is)
    (case b_int => k_is)
    (case b_bool => k_is)
    (case b_str => k_is)
    (case b_tuple => k_is)
    (case b_list => k_is)
    (case b_all => k_is)
    (case b_any => k_is)
    (case b_zip => k_is)
    (case b_sorted => k_is)
    (case b_set => k_is)
    (case b_range => k_is)
    (case s_dyes => k_is)
    (case s_vats => k_is)
    (case s_kinds => k_is)
    (case s_routes => k_is)
    (case s_long => k_is)
    (case dW => decide)
    (case dL => decide)
    (case dP => decide)
