import PyProof.Rows.All
import Wide.All
import OpenK.AllK
import Wide.FinOn
import KE.GoesRaise
import HandS.ForMost
import HandS.Exc
import HandS.ExcOwn
import HandS.ExcInit
import HandS.ExcField
import HandS.ExcIs
import HandS.ClsMeth
import HandS.IsInst
import HandS.WordsExc
import HandS.TryOnly
import HandS.Flow
import HandS.Wide
import HandS.CallSlots
import HandS.Defaults
import HandS.TupAny
import HandS.HeadHook2
import HandS.Style
import HandS.Walk
import HandS.Zip
import HandS.ReplaceLit
import PyProof.NeKinds
import PyProof.EqAt
import HandS.Small
import HandS.EndOwn
import HandS.MakeKwOnly
import HandS.More
import HandS.HeadHook1
import KE.KStateDown
import Lean
import HandS.Head0
import HandS.Head1
import HandS.Head2
import HandS.HeadEnd
import HandS.HeadHook3
import HandS.HeadHook4
import HandS.ReplaceList
import PySem.Challenge.RW_clockloom_k96_papers_written
set_option Elab.async false
section
set_option Elab.async false
set_option linter.all false
set_option maxRecDepth 100000
set_option maxHeartbeats 4000000
/-! CLc: a list comprehension out of which an exception may go. -/
namespace CL
open PySem PySem.Spec PyProof.Rows L2

section
variable {M : Model} {A : Around} {E : Value → Shared → Prop} {s : Shared} {Z : Obj → Prop} {base : Heap} {env : Env} {outer : List Env} {L e : Addr} {fl : Value}

/-- a frame notes an exception that carries another flight mark than its own -/
theorem notes_any {Q : Unit → Shared → Prop} (st : HandSPX.Steady Z) (fr : A.frames = some (env :: outer)) (hf : env.frame = some L)
    (k1 : base.StaysIn s.heap) (k2 : base.get? e = none) (k3 : s.heap.FunFrames base (env :: outer)) (tr : HandSPX.TracedZ s.heap base e Z fl) (ne : (fl == rawInt L) = false)
    (go : ∀ h', HandSPX.HeldZ base (env :: outer) e Z L h' → s.heap.UpToSlots h' → Q () { s with heap := h' }) : wpAny M A (noteFrame (.ref e) env) Q E s := by
  obtain ⟨oe, vs, T, oT, ts, he, hz, hd, h1, nT, Te, hT, hdT, h3⟩ := tr
  unfold noteFrame
  simp only [hf]
  refine wpAny_bind (wpAny_field he hd h1 ?_)
  rw [if_pos (by simp)]
  refine wpAny_bind (wpAny_field hT hdT h3 ?_)
  rw [if_neg (by rw [ne]; decide)]
  refine wpAny_bind (wpAny_setField hT hdT (Array.getElem?_eq_some_iff.mp h3).1 ?_)
  have oth : ∀ b, b ≠ T → (s.heap.update T (Obj.mapFields (·.setIfInBounds 3 Value.none))).get? b = s.heap.get? b := fun b q =>
    Heap.get?_update_other _ _ (Ne.symm q)
  have nrec : ∀ b o, s.heap.get? b = some o → (∀ vs, o.data ≠ .fields vs) → b ≠ T := fun b o q nf z => by
    rw [z, hT] at q
    cases q
    exact nf ts hdT
  refine HandSPX.wpAny_entryZ st fr (k3.of_keeps fun b o q nf => ⟨o, (oth b (nrec b o q nf)).trans q, rfl⟩) hf ((oth e (Ne.symm Te)).trans he)
    (fun b o q => (oth b fun z => by rw [z, nT] at q; cases q).trans (k1 b o q)) k2 hd (Array.getElem?_eq_some_iff.mp h1).1 hz fun h' hN => ?_
  obtain ⟨x1, x2, x3, x4⟩ := hN
  exact go h' ⟨x1, k2, x2, x3⟩ fun b o q nf => x4 b o ((oth b (nrec b o q nf)).trans q) nf

/-- .. whatever its mark is -/
theorem notes_sky {L' : Addr} {Q : Unit → Shared → Prop} (st : HandSPX.Steady Z) (fr : A.frames = some (env :: outer)) (hf : env.frame = some L) (nL : L' ≠ L)
    (sky : Sky base (env :: outer) e Z L' s.heap) (go : ∀ h', HandSPX.HeldZ base (env :: outer) e Z L h' → s.heap.UpToSlots h' → Q () { s with heap := h' }) :
    wpAny M A (noteFrame (.ref e) env) Q E s := by
  rcases sky with ⟨k1, k2, k3, oe, vs, he, hz, hd, h1⟩ | ⟨k1, k2, k3, k4⟩ | ⟨k1, k2, k3, k4⟩
  · exact HandSPX.look_newZ st fr k3 hf he k1 k2 hd h1 hz go
  · exact notes_any st fr hf k1 k2 k3 k4 (by simp [rawInt]) go
  · exact notes_any st fr hf k1 k2 k3 k4 (by
      have q : ¬ (rawInt L' = rawInt L) := fun z => by
        have z' : (Value.int (L' : Int) _ : Value) = Value.int (L : Int) _ := z
        injection z' with z1 _
        exact nL (Int.ofNat.inj z1)
      simpa using q) go
end

abbrev blkW (X : Cx) (s : Shared) (H : Hp) (scope : Scope) (ce : Env) (fp : List Addr) (xe : Value → Shared → Prop) : Cx :=
  (X.blk s H scope ce fp).wish xe

section
variable {X : Cx} {W : WX} {pins : List (Addr × Obj)} {σ : L2.St} {H3 : Hp} {s3 : Shared} {scope : Scope} {ce : Env} {fp : List Addr} {xe : Value → Shared → Prop}

/-- what is raised in a comprehension's block goes on in the def that it stands in -/
theorem blk_raises {use : Option (Value → Sem Unit)} {Qf : Value → Shared → Prop} {acc u : Value} {s' : Shared} (tk : Takes X W)
    (hs : X.stack = X.env :: X.outer) (hf : X.env.frame = some X.env.locals) (I3 : L2.Inv X pins σ H3 s3) (hce : ce.frame = X.env.frame)
    (hcl : ce.locals = s3.heap.objs.size) (f3 : ∀ b ∈ fp, FpOk X pins H3 b)
    (x : XE (blkW X s3 H3 scope ce fp xe) (fun cls d _ H => W cls d σ H) u s') :
    notedBy (model X.prog X.w) X.A ce (fun e s1 => compEnds (model X.prog X.w) X.A X.xe use Qf acc ce (.error e) s1) u s' := by
  obtain ⟨a, B, sI, pins', σ', H', cls, d, rfl, I', nb, up, sky, na, os, ag, w⟩ := x
  have nb : ∀ b o, sI.heap.get? b = some o → b ∉ frs X.stack → B.get? b = some o := nb
  have sky : Sky B (X.env :: X.outer) a (Zc cls d) ce.locals s'.heap := by
    have q : Sky B X.stack a (Zc cls d) ce.locals s'.heap := sky
    rw [hs] at q
    exact q
  have hfr : X.A.frames = some (X.env :: X.outer) := by rw [I3.ok.frames, hs]
  have nCL : ce.locals ≠ X.env.locals := by
    rw [hcl]
    exact Nat.ne_of_gt I3.lt
  show wpAny _ _ (noteFrame (.ref a) ce) _ _ s'
  rw [noteFrame_env _ hce]
  refine notes_sky Zc.steady hfr hf nCL sky fun h1 hh up1 => ?_
  obtain ⟨m, hn, _⟩ := I'.loc
  have hn : sI.heap.Ns ce.locals m := hn
  have hn1 : h1.Ns ce.locals m := (up.trans up1).ns hn
  show CompFails _ _ _ ce (.ref a) _
  refine ⟨m, hn1, fun h2 m2 hn2 sb => ?_⟩
  have nC : H' ce.locals = none := I'.free
  have J : L2.Inv X pins σ H' sI := I3.call' (ch := fp) I'.os I'.base I'.hok I'.bare fun b hb => by
    obtain ⟨q1, q2, q3, q4, q5, q6⟩ := f3 b hb
    exact ⟨q4, q2, q5, q6⟩
  obtain ⟨r1, r2, r3, r4, r5, r6⟩ : FpOk X pins H' ce.locals := I3.fpOk (by rw [hcl]; exact Nat.le_refl _) nC
  obtain ⟨G, g1, g2⟩ := restrict sI.heap fun b => decide (b ≠ ce.locals)
  obtain ⟨B2, b1, b2⟩ := restrict B fun b => decide (b ≠ ce.locals)
  have gN : G.get? ce.locals = none := g2 _ (by simp)
  have bN : B2.get? ce.locals = none := b2 _ (by simp)
  have gY : ∀ b, b ≠ ce.locals → G.get? b = sI.heap.get? b := fun b q => g1 b (decide_eq_true q)
  have bY : ∀ b, b ≠ ce.locals → B2.get? b = B.get? b := fun b q => b1 b (decide_eq_true q)
  have JG : L2.Inv X pins σ H' { sI with heap := G } := J.turned (t' := sI.toks) (fun b o q e => (gY b q).trans e) r1 r2 r4 r5 r6
  have bB : ∀ b o, B2.get? b = some o → b ≠ ce.locals ∧ B.get? b = some o := fun b o q => by
    by_cases z : b = ce.locals
    · rw [z, bN] at q
      cases q
    · exact ⟨z, (bY b z).symm.trans q⟩
  have bN2 : ∀ b, B.get? b = none → B2.get? b = none := fun b q => by
    cases z : B2.get? b with
    | none => rfl
    | some o => rw [(bB b o z).2] at q; cases q
  obtain ⟨k1, k2, k3, oe, vs, T, oT, ts, he, hz, hd, hv1, hT1, hT2, hT3, hT4, hT5⟩ := hh
  have noC : ∀ {b : Addr} {o : Obj} {l : Array Value}, h1.get? b = some o → o.data = .fields l → b ≠ ce.locals := fun {b o l} q1 q2 z => by
    obtain ⟨o', es, ep, q3, q4, _⟩ := id hn1
    rw [z, q3] at q1
    cases q1
    rw [q4] at q2
    cases q2
  have held : HandSPX.HeldZ B2 (X.env :: X.outer) a (Zc cls d) X.env.locals h2 := by
    refine ⟨fun b o q => ?_, bN2 a k2, ?_, ?_⟩
    · obtain ⟨q1, q2⟩ := bB b o q
      exact (sb.2 b q1).trans (k1 b o q2)
    · exact funFrames_none (Heap.FunFrames.sameBut sb hn2 k3) fun b hb => bN2 b (k3.mem hb).1
    · exact ⟨oe, vs, T, oT, ts, (sb.2 a (noC he hd)).trans he, hz, hd, hv1, bN2 T hT1, hT2, (sb.2 T (noC hT3 hT4)).trans hT3, hT4, hT5⟩
  unfold PySem.passOn
  refine wpAny_bind (wpAny_field ((sb.2 a (noC he hd)).trans he) hd hv1 ?_)
  rw [if_neg (by simp)]
  rw [hce, hf]
  have fin : wpAny (model X.prog X.w) X.A (setFlight (.ref a) (some X.env.locals)) (fun _ s4 => wpAny (model X.prog X.w) X.A (throw (.ref a) : Sem Value) (fun _ _ => False) X.xe s4) X.xe
      { s' with heap := h2 } := by
    refine HandSPX.setFlight_onZ held fun h4 held4 up4 => wpAny_throw (tk _ _ ?_)
    refine ⟨a, B2, { sI with heap := G }, pins, σ, H', cls, d, rfl, JG, fun b o q1 q2 => ?_, fun b o q1 q2 => ?_, .inr (.inr ?_), na, os, ag, w⟩
    · have z : b ≠ ce.locals := fun z => by
        have q1 : G.get? b = some o := q1
        rw [z, gN] at q1
        cases q1
      exact (bY b z).trans (nb b o ((gY b z).symm.trans q1) q2)
    · have z : b ≠ ce.locals := fun z => by
        have q1 : G.get? b = some o := q1
        rw [z, gN] at q1
        cases q1
      obtain ⟨sl, q3⟩ := (up.trans up1) b o ((gY b z).symm.trans q1) q2
      obtain ⟨sl2, q4⟩ := up4 b { o with slots := sl } ((sb.2 b z).trans q3) q2
      exact ⟨sl2, q4⟩
    · rw [hs]
      exact held4
  first
    | exact wpAny_bind (wpAny_pure (wpAny_bind fin))
    | exact wpAny_bind fin
end

/-! ### a list comprehension, the list in the making out of sight -/
@[irreducible] def br (b : Bool) (A B : Prop) : Prop := if b = true then A else B
theorem br_t {A B : Prop} (h : A) : br true A B := by unfold br; exact h
theorem br_f {A B : Prop} (h : B) : br false A B := by unfold br; exact h
theorem br_c {b : Bool} {A B : Prop} (h1 : b = true → A) (h2 : b = false → B) : br b A B := by
  unfold br
  cases b with
  | true => exact h1 rfl
  | false => exact h2 rfl
theorem br_is {b : Bool} {A B : Prop} (h : br b A B) : if b = true then A else B := by unfold br at h; exact h
/-- Wt: the turn, a measure, the heap without the new list, its items so far -/
@[irreducible] def lcR (J : It) (g : TG) (tt : TT) (te : TE) (vs : List Nat) (σ : L2.St) (H1 : Hp) (Q : VK) : Prop := ∃ Wt : Nat → Nat → Hp → List V → Prop, (∃ m, Wt 0 m H1 []) ∧ ∀ i m G acc, Wt i m G acc →
  (J.stop i G ∧ ∀ D, G D = none → acc.length ≤ sizeLine → Q (.ref D) (upd G D (.lst acc))) ∨
  (J.go i G ∧ acc.length < sizeLine ∧ ∃ Nx : Hp → List V → Prop, (∀ G' acc', Nx G' acc' → ∃ m', m' < m ∧ Wt (i + 1) m' G' acc') ∧
    ∀ x G', J.yld i G x G' → g x (wipe σ vs) G' fun σ2 G2 => wipe σ2 vs = wipe σ vs ∧ tt σ2 G2 fun b G3 => br b (te σ2 G3 fun y G4 => Nx G4 (acc ++ [y])) (Nx G3 acc))
/-- what is raised by the tests or the element is wished for at the def's slots -/
@[irreducible] def xLc (W : WX) (wi : TI) (g : TG) (tt : WX → TT) (te : WX → TE) (vs : List Nat) : TE := fun σ H Q =>
  wi σ H fun J H1 => lcR J g (tt fun cls d _ H' => W cls d σ H') (te fun cls d _ H' => W cls d σ H') vs σ H1 Q
theorem g_lc {W : WX} {wi : TI} {g : TG} {tt : WX → TT} {te : WX → TE} {vs : List Nat} {σ : L2.St} {H : Hp} {Q : VK}
    (q : wi σ H fun J H1 => lcR J g (tt fun cls d _ H' => W cls d σ H') (te fun cls d _ H' => W cls d σ H') vs σ H1 Q) : xLc W wi g tt te vs σ H Q := by unfold xLc; exact q

section
variable {X : Cx} {pins : List (Addr × Obj)} {σ : L2.St} {H : Hp} {s : Shared} {a : Addr} {o : HO}
/-- an object that was made behind the def's entry is tracked from here on -/
theorem track (I : L2.Inv X pins σ H s) (hn : H a = none) (hL : a ≠ X.env.locals) (hC : ∀ x c, X.env.cells.lookup x = some c → c ≠ a) (hp : ∀ p ∈ X.pn ++ pins, p.1 ≠ a) (h0 : X.s_0.heap.get? a = none)
    (ok : ObjOk X.prog X.w (upd H a o) s.heap a o) : L2.Inv X pins σ (upd H a o) s := by
  refine ⟨I.ok, I.os, I.bare, ⟨I.base.keep, I.base.slot, fun b u e n hx => ?_, I.base.there, fun b xs e => ?_, fun b u v e => ?_, fun b ps e => ?_⟩, I.loc, I.cell, ?_, fun x c e => ?_, fun p hq => ?_, fun b u e => ?_, I.len⟩
  · rw [upd_ne (fun z => by rw [z, h0] at e; cases e)]
    exact I.base.free b u e n hx
  · have q := I.base.tups b xs e
    rw [upd_ne (ne_of_none q hn)]
    exact q
  · have q := I.base.frzs b u v e
    rw [upd_ne (ne_of_none q hn)]
    exact q
  · obtain ⟨m, q⟩ := I.base.tbls b ps e
    refine ⟨m, ?_⟩
    rw [upd_ne (ne_of_none q hn)]
    exact q
  · rw [upd_ne (Ne.symm hL)]
    exact I.free
  · rw [upd_ne (hC x c e)]
    exact I.freeC x c e
  · obtain ⟨q1, q2, q3⟩ := I.pin p hq
    exact ⟨q1, by rw [upd_ne (hp p hq)]; exact q2, q3⟩
  · by_cases hb : b = a
    · subst hb
      rw [upd_same] at e
      cases e
      exact ok
    · rw [upd_ne hb] at e
      exact (I.hok b u e).stay (fun _ _ _ q => q) (fun c q => by rw [upd_ne (ne_of_none q hn)]; exact q) fun c xs q => by rw [upd_ne (ne_of_none q hn)]; exact q
end

section
variable {X : Cx} {W : WX}
theorem lc_hid {pins : List (Addr × Obj)} {s : Shared} {σ : L2.St} {H : Hp} {Q : VK} {elt tg iter : Expr} {ifs : List Expr} {scope : Scope} {own : List (Str × Nat)} {pos pos' : Pos}
    {wi : TI} {g : TG} {tt : WX → TT} {te : WX → TE} {use : Option (Value → Sem Unit)} {Qf : Value → Shared → Prop}
    (hc : X.calm = true) (tk : Takes X W) (hst : X.stack = X.env :: X.outer) (hf : X.env.frame = some X.env.locals) (I : L2.Inv X pins σ H s) (hi : PI X tg iter wi)
    (ok : BlkOk X.N X.env.scope scope own) (hN : X.N.Nodup)
    (hg : ∀ s H C cl fp xe, PG (blkW X s H scope (compEnvC scope cl C X.env) fp xe) tg g)
    (ht : ∀ s H C cl fp xe Wb, Takes (blkW X s H scope (compEnvC scope cl C X.env) fp xe) Wb → PTs (blkW X s H scope (compEnvC scope cl C X.env) fp xe) ifs (tt Wb))
    (he : ∀ s H C cl fp xe Wb, Takes (blkW X s H scope (compEnvC scope cl C X.env) fp xe) Wb → PE (blkW X s H scope (compEnvC scope cl C X.env) fp xe) elt (te Wb))
    (hs : ∀ x, foldedSetIterable iter X.env x = pure x) (h : xLc W wi g tt te (own.map (·.2)) σ H Q)
    (hE : ∀ D s' m H' ce, L2.Inv X pins σ H' s' → Q (.ref D) H' → s'.heap.Ns (Env.locals ce) m → FpOk X pins H' ce.locals →
      compEnds (model X.prog X.w) X.A X.xe use Qf (.ref D) ce (.ok .next) s') :
    wpAny (model X.prog X.w) X.A (comprehension (.ListComp elt [⟨tg, iter, ifs, 0⟩] scope pos) scope X.env pos' (newList []) false (eval iter X.env) use) Qf X.xe s := by
  have hfree : ∀ y ∈ scope.names, y.2 = .free → ∃ c, X.env.cells.lookup y.1 = some c := by
    intro y hy e
    rcases ok.free y hy e with k | k
    · exact I.ok.has y.1 (.inl k)
    · exact I.ok.has y.1 (.inr k)
  unfold xLc at h
  refine comprehension_at (use := use) rfl hs (closure_ok hfree) ok.kind (fun y hy e => by rw [ok.uniq y hy, e])
    (thn (hi.run pins s σ H _ I h) fun xv s1 hx => thn hx fun itv s2 h2 => ?_)
  obtain ⟨it, fp, tn, J, H2, e, I2, T, st2, f2, q⟩ := h2
  subst e
  unfold lcR at q
  obtain ⟨Wi, ⟨m0, w0⟩, turn⟩ := q
  refine wpAny_newObj_type (newEnv_comp ?_) (by show 0 ≤ sizeLine; exact Nat.zero_le _)
  generalize hD : s2.heap.objs.size = D
  have hDn : H2 D = none := I2.hok.fresh (Nat.le_of_eq hD)
  generalize e3 : ({ s2 with heap := s2.heap.push { cls := .type "list", data := .seq ([] : List Value).toArray } } : Shared) = s3
  have h3 : s3.heap = s2.heap.push { cls := .type "list", data := .seq ([] : List Value).toArray } := by rw [← e3]
  have I3 : L2.Inv X pins σ H2 s3 := by
    rw [← e3]
    exact I2.kept (t' := s2.toks) fun b o z => Heap.get?_push_of_some _ z
  have D3 : s3.heap.get? D = some { cls := .type "list", data := .seq ([] : List Value).toArray } := by
    rw [h3, ← hD]
    exact Heap.get?_push_size _ rfl
  have fD : FpOk X pins H2 D := I2.fpOk (Nat.le_of_eq hD) hDn
  have f3 : ∀ b ∈ D :: fp, FpOk X pins H2 b ∧ b < s3.heap.objs.size := by
    intro b hb
    rcases List.mem_cons.mp hb with z | hb
    · rw [z]
      exact ⟨fD, Heap.lt_size D3⟩
    · obtain ⟨o, eo, _⟩ := T.obj _ _ st2 b hb
      refine ⟨f2 b hb, ?_⟩
      rw [h3, Heap.size_push]
      exact Nat.lt_succ_of_lt (Heap.lt_size eo)
  have nDf : D ∉ fp := fun hb => by
    obtain ⟨o, eo, _⟩ := T.obj _ _ st2 D hb
    have z := Heap.lt_size eo
    rw [hD] at z
    exact Nat.lt_irrefl _ z
  have st3 : tn 0 s3.heap := T.keep _ _ _ st2 fun b _ o eo => by
    rw [h3]
    exact Heap.get?_push_of_some _ eo
  have I4 := block_start I3 ok hN f3
  show codeAny _ _ (.compStart _ 0 (.ref it) (.ref D) (compEnvC scope (cellsFrom (s3.heap.objs.size + 1) scope.names (cloFrom X.env.cells scope.names [])) s3.heap.objs.size X.env))
    (compEnds _ _ _ use Qf (.ref D) (compEnvC scope (cellsFrom (s3.heap.objs.size + 1) scope.names (cloFrom X.env.cells scope.names [])) s3.heap.objs.size X.env))
    { s3 with heap := pushCells (s3.heap.push { cls := .type "dict", data := .dict #[] }) scope.names }
  have pg := hg s3 H2 s3.heap.objs.size (cellsFrom (s3.heap.objs.size + 1) scope.names (cloFrom X.env.cells scope.names [])) (D :: fp)
  have pt := ht s3 H2 s3.heap.objs.size (cellsFrom (s3.heap.objs.size + 1) scope.names (cloFrom X.env.cells scope.names [])) (D :: fp)
  have pe := he s3 H2 s3.heap.objs.size (cellsFrom (s3.heap.objs.size + 1) scope.names (cloFrom X.env.cells scope.names [])) (D :: fp)
  generalize hce : compEnvC scope (cellsFrom (s3.heap.objs.size + 1) scope.names (cloFrom X.env.cells scope.names [])) s3.heap.objs.size X.env = ce at I4 pg pt pe ⊢
  have cL : ce.locals = s3.heap.objs.size := by rw [← hce] <;> rfl
  have cF : ce.frame = X.env.frame := by rw [← hce] <;> rfl
  generalize e4 : ({ s3 with heap := pushCells (s3.heap.push { cls := .type "dict", data := .dict #[] }) scope.names } : Shared) = s4 at I4 ⊢
  have k4 : ∀ b o, s3.heap.get? b = some o → s4.heap.get? b = some o := fun b o eo => by
    rw [← e4]
    exact pushCells_keeps _ _ _ _ (Heap.get?_push_of_some _ eo)
  have st4 : tn 0 s4.heap := T.keep _ _ _ st3 fun b _ o eo => k4 b o eo
  -- what the block's wish is
  generalize hxe : (notedBy (model X.prog X.w) X.A ce fun e s' => compEnds (model X.prog X.w) X.A X.xe use Qf (.ref D) ce (.error e) s') = xe
  have tkb : Takes (blkW X s3 H2 scope ce (D :: fp) xe) fun cls d _ H' => W cls d σ H' := fun u s' x => by
    show xe u s'
    rw [← hxe]
    exact blk_raises tk hst hf I3 cF cL (fun b hb => (f3 b hb).1) x
  have pg := pg xe
  have pt := pt xe _ tkb
  have pe := pe xe _ tkb
  have stat : ∀ {σ' : L2.St} {H' : Hp} {s' : Shared}, L2.Inv (blkW X s3 H2 scope ce (D :: fp) xe) [] σ' H' s' → (∀ b ∈ D :: fp, H' b = none) → ∀ b ∈ D :: fp, FpOk (blkW X s3 H2 scope ce (D :: fp) xe) [] H' b :=
    fun I' hn b hb => ⟨hn b hb, (I'.ok.exf b hb).1, I'.ok.exfs b hb, .inl hb, (I'.ok.exf b hb).2, fun p hp => by
      have z : p ∈ ([] : List (Addr × Obj)) ++ [] := hp
      simp at z⟩
  -- the list in the making
  let Lst : List V → Heap → Prop := fun acc h => ∃ (its : List Value) (n : Nat), Vals acc its ∧ acc.length ≤ sizeLine ∧ h.get? D = some { cls := .type "list", data := .seq its.toArray n }
  have lst0 : Lst [] s4.heap := ⟨[], 0, .nil, Nat.zero_le _, k4 _ _ D3⟩
  refine codeAny_compStart_list ?_ (T.self X.A 0 s4 _ _ st4 ?_)
  all_goals
    refine compLoop_any (fun n s' => ∃ i H' acc, L2.Inv (blkW X s3 H2 scope ce (D :: fp) xe) [] (wipe σ (own.map (·.2))) H' s' ∧ tn i s'.heap ∧ (∀ b ∈ D :: fp, H' b = none) ∧ Lst acc s'.heap ∧ Wi i n H' acc) ?_ m0
      ⟨0, H2, [], I4.wish xe, st4, fun b hb => (f3 b hb).1.1, lst0, w0⟩
    rw [hxe]
    rintro n s5 ⟨i, H5, acc, I5, st5, n5, l5, w5⟩
    have n5f : ∀ b ∈ fp, H5 b = none := fun b hb => n5 b (List.mem_cons_of_mem _ hb)
    have statf : ∀ b ∈ fp, FpOk (blkW X s3 H2 scope ce (D :: fp) xe) [] H5 b := fun b hb => stat I5 n5 b (List.mem_cons_of_mem _ hb)
    rcases turn i n H5 acc w5 with ⟨stop, qq⟩ | ⟨go, lacc, Nx, hNx, step⟩
    · -- the end: pin the list over the iterator's last turn
      obtain ⟨its, kk, ra, za, eD⟩ := l5
      have I5p : L2.Inv (blkW X s3 H2 scope ce (D :: fp) xe) [(D, { cls := .type "list", data := .seq its.toArray kk })] (wipe σ (own.map (·.2))) H5 s5 := I5.pins_of fun p hp => by
        have z : p = (D, { cls := .type "list", data := .seq its.toArray kk }) := by simpa using hp
        rw [z]
        have f := stat I5 n5 D List.mem_cons_self
        exact ⟨eD, f.1, f.2.1, f.2.2.1, fun v q => by cases q⟩
      have statp : ∀ b ∈ fp, FpOk (blkW X s3 H2 scope ce (D :: fp) xe) [(D, { cls := .type "list", data := .seq its.toArray kk })] H5 b := fun b hb => by
        obtain ⟨q1, q2, q3, q4, q5, q6⟩ := statf b hb
        refine ⟨q1, q2, q3, q4, q5, fun p hp z => ?_⟩
        have z' : p = (D, { cls := .type "list", data := .seq its.toArray kk }) := by simpa using hp
        rw [z'] at z
        have z2 : D = b := z
        exact nDf (by rw [z2]; exact hb)
      refine thn (T.done (blkW X s3 H2 scope ce (D :: fp) xe) rfl rfl rfl hc i _ s5 _ H5 xe I5p statp st5 stop) fun r s6 hr => ?_
      obtain ⟨hr, I6⟩ := hr
      subst hr
      have eD6 : s6.heap.get? D = some { cls := .type "list", data := .seq its.toArray kk } := (I6.pin _ (List.mem_append_right _ List.mem_cons_self)).1
      have I7 : L2.Inv X pins σ H5 s6 := I3.call' (ch := D :: fp) I6.os I6.base I6.hok I6.bare fun b hb => by
        obtain ⟨q1, q2, q3, q4, q5, q6⟩ := (f3 b hb).1
        exact ⟨q4, q2, q5, q6⟩
      have nC : H5 ce.locals = none := I6.free
      have nDC : D ≠ ce.locals := by
        rw [cL]
        exact Nat.ne_of_lt (Heap.lt_size D3)
      have n0 : X.s_0.heap.get? D = none := by
        refine Heap.get?_none_of_le ?_
        have z := I2.sz
        omega
      obtain ⟨q1, q2, q3, q4, q5, q6⟩ := fD
      have I8 : L2.Inv X pins σ (upd H5 D (.lst acc)) s6 := track I7 (n5 D List.mem_cons_self) q2 q5 q6 n0 ⟨za, its, kk, ra, eD6⟩
      obtain ⟨m, hn, _⟩ := I6.loc
      refine hE D s6 m _ ce I8 (qq D (n5 D List.mem_cons_self) za) hn (I3.fpOk (by rw [cL]; exact Nat.le_refl _) ?_)
      rw [upd_ne (Ne.symm nDC)]
      exact nC
    · obtain ⟨its, kk, ra, za, eD⟩ := l5
      have I5p : L2.Inv (blkW X s3 H2 scope ce (D :: fp) xe) [(D, { cls := .type "list", data := .seq its.toArray kk })] (wipe σ (own.map (·.2))) H5 s5 := I5.pins_of fun p hp => by
        have z : p = (D, { cls := .type "list", data := .seq its.toArray kk }) := by simpa using hp
        rw [z]
        have f := stat I5 n5 D List.mem_cons_self
        exact ⟨eD, f.1, f.2.1, f.2.2.1, fun v q => by cases q⟩
      have statp : ∀ {H' : Hp}, (∀ b ∈ fp, H' b = none) → ∀ b ∈ fp, FpOk (blkW X s3 H2 scope ce (D :: fp) xe) [(D, { cls := .type "list", data := .seq its.toArray kk })] H' b := fun hn b hb => by
        obtain ⟨q1, q2, q3, q4, q5, q6⟩ := statf b hb
        refine ⟨hn b hb, q2, q3, q4, q5, fun p hp z => ?_⟩
        have z' : p = (D, { cls := .type "list", data := .seq its.toArray kk }) := by simpa using hp
        rw [z'] at z
        have z2 : D = b := z
        exact nDf (by rw [z2]; exact hb)
      refine thn (T.item (blkW X s3 H2 scope ce (D :: fp) xe) rfl rfl rfl hc i _ s5 _ H5 xe I5p (statp n5f) st5 go) fun r s6 hr => ?_
      obtain ⟨u, hr, h6⟩ := hr
      subst hr
      refine thn h6 fun _ s7 h7 => ?_
      obtain ⟨x, H7, I7, r7, y7, st7, n7⟩ := h7
      have I7' := I7.pinned (statp n7) (T.obj _ _ st7)
      refine thn (pg.run _ s7 _ H7 x u _ I7' r7 (step x H7 y7)) fun _ s8 h8 => ?_
      obtain ⟨σ8, H8, I8, hw8, q8⟩ := h8
      refine thn (pt.run _ s8 σ8 H8 _ I8 q8) fun b s9 h9 => ?_
      obtain ⟨H9, I9, q9⟩ := h9
      have q9 := br_is q9
      have fin : ∀ {s' : Shared} {H' : Hp} {acc' : List V}, L2.Inv (blkW X s3 H2 scope ce (D :: fp) xe) ([(D, { cls := .type "list", data := .seq its.toArray kk })] ++ pinsAt fp s7.heap) σ8 H' s' → Nx H' acc' →
          ∀ (s2' : Shared), (∀ b o, b ≠ D → s'.heap.get? b = some o → s2'.heap.get? b = some o) → (∃ tk gg dd, s2' = { s' with heap := s2'.heap, toks := tk, gens := gg, drawn := dd } ∧ AllBare gg) → Lst acc' s2'.heap →
          ∃ m, m < n ∧ ∃ i H' acc, L2.Inv (blkW X s3 H2 scope ce (D :: fp) xe) [] (wipe σ (own.map (·.2))) H' s2' ∧ tn i s2'.heap ∧ (∀ b ∈ D :: fp, H' b = none) ∧ Lst acc s2'.heap ∧ Wi i m H' acc := by
        intro s' H' acc' I' nx s2' kD hs2 hl2
        obtain ⟨m', hm, w'⟩ := hNx H' acc' nx
        have pinD := I'.pin (D, { cls := .type "list", data := .seq its.toArray kk }) (List.mem_append_right _ (List.mem_append_left _ List.mem_cons_self))
        have kept : ∀ b ∈ fp, ∀ o, s7.heap.get? b = some o → s'.heap.get? b = some o ∧ H' b = none := fun b hb o eo =>
          ⟨(I'.pin (b, o) (List.mem_append_right _ (List.mem_append_right _ (mem_pinsAt hb eo)))).1, (I'.pin (b, o) (List.mem_append_right _ (List.mem_append_right _ (mem_pinsAt hb eo)))).2.1⟩
        have nH : ∀ b ∈ D :: fp, H' b = none := fun b hb => by
          rcases List.mem_cons.mp hb with z | hb
          · rw [z]
            exact pinD.2.1
          · obtain ⟨o, eo, _⟩ := T.obj _ _ st7 b hb
            exact (kept b hb o eo).2
        have hl : (wipe σ (own.map (·.2))).length = σ8.length := by rw [← hw8, wipe_length]
        have Iw : L2.Inv (blkW X s3 H2 scope ce (D :: fp) xe) [] (wipe σ (own.map (·.2))) H' s' := (I'.pins_of (pins' := []) fun p hp => by simp at hp).weak hl (fun j v ej => by
          rw [← hw8] at ej
          exact (wipe_some ej).1)
        obtain ⟨tk, gg, dd, es2, bare⟩ := hs2
        have f := stat Iw nH D List.mem_cons_self
        have I2' : L2.Inv (blkW X s3 H2 scope ce (D :: fp) xe) [] (wipe σ (own.map (·.2))) H' s2' := by
          rw [es2]
          have z := Iw.turned (t' := tk) (h' := s2'.heap) (it := D) kD f.1 f.2.1 f.2.2.2.1 f.2.2.2.2.1 f.2.2.2.2.2
          exact ⟨z.ok, z.os, bare, z.base, z.loc, z.cell, z.free, z.freeC, z.pin, z.hok, z.len⟩
        refine ⟨m', hm, i + 1, H', acc', I2', T.keep _ _ _ st7 fun b hb o eo => kD b o (fun z => nDf (z ▸ hb)) (kept b hb o eo).1, nH, hl2, w'⟩
      cases b with
      | false =>
        simp only [Bool.false_eq_true, if_false] at q9 ⊢
        have pinD := I9.pin (D, { cls := .type "list", data := .seq its.toArray kk }) (List.mem_append_right _ (List.mem_append_left _ List.mem_cons_self))
        exact fin I9 q9 s9 (fun _ _ _ z => z) ⟨_, _, _, rfl, I9.bare⟩ ⟨its, kk, ra, za, pinD.1⟩
      | true =>
        simp only [if_true] at q9 ⊢
        refine thn (pe.run _ s9 σ8 H9 _ I9 q9) fun z s10 h10 => ?_
        obtain ⟨yv, H10, I10, r10, nx⟩ := h10
        have pinD := I10.pin (D, { cls := .type "list", data := .seq its.toArray kk }) (List.mem_append_right _ (List.mem_append_left _ List.mem_cons_self))
        have hlen := ra.length
        refine append_at (hsz := by rw [List.size_toArray]; omega) pinD.1 fun h' sb ho' => ?_
        refine fin I10 nx { s10 with heap := h' } (fun b o hb q => (sb.2 b hb).trans q) ⟨_, _, _, rfl, I10.bare⟩ ⟨its ++ [z], kk + 1, ra.append (.cons r10 .nil), by rw [List.length_append]; exact lacc, ?_⟩
        show h'.get? D = _
        rw [ho']
        simp
/-- [elt for tg in iter if ..], as a value -/
theorem px_lc0 {elt tg iter : Expr} {ifs : List Expr} {scope : Scope} {own : List (Str × Nat)} {pos : Pos} {wi : TI} {g : TG} {tt : WX → TT} {te : WX → TE}
    (hc : X.calm = true) (hN : X.N.Nodup) (tk : Takes X W) (hst : X.stack = X.env :: X.outer) (hf : X.env.frame = some X.env.locals) (hi : PI X tg iter wi) (ok : BlkOk X.N X.env.scope scope own)
    (hg : ∀ s H C cl fp xe, PG (blkW X s H scope (compEnvC scope cl C X.env) fp xe) tg g)
    (ht : ∀ s H C cl fp xe Wb, Takes (blkW X s H scope (compEnvC scope cl C X.env) fp xe) Wb → PTs (blkW X s H scope (compEnvC scope cl C X.env) fp xe) ifs (tt Wb))
    (he : ∀ s H C cl fp xe Wb, Takes (blkW X s H scope (compEnvC scope cl C X.env) fp xe) Wb → PE (blkW X s H scope (compEnvC scope cl C X.env) fp xe) elt (te Wb))
    (hs : ∀ x, foldedSetIterable iter X.env x = pure x := by intro _; rfl) :
    PE X (.ListComp elt [⟨tg, iter, ifs, 0⟩] scope pos) (xLc W wi g tt te (own.map (·.2))) := by
  refine ⟨fun pins s σ H Q I h => ?_⟩
  rw [eval_ListComp]
  refine lc_hid hc tk hst hf I hi ok hN hg ht he hs h fun D s' m H' ce I' q hn f => ⟨m, hn, fun h2 sb => ?_⟩
  obtain ⟨q1, q2, q3, q4, q5, q6⟩ := f
  exact ⟨.ref D, H', I'.turned (t' := s'.toks) (fun b o hb eb => (sb.2 b hb).trans eb) q1 q2 q4 q5 q6, rfl, q⟩
/-- y = [elt for tg in iter if ..] -/
theorem ps_setLcW {i : Nat} {y : Str} {py : Pos} {elt tg iter : Expr} {ifs : List Expr} {scope : Scope} {own : List (Str × Nat)} {pos spos : Pos} {wi : TI} {g : TG} {tt : WX → TT} {te : WX → TE}
    (hc : X.calm = true) (hN : X.N.Nodup) (tk : Takes X W) (hst : X.stack = X.env :: X.outer) (hf : X.env.frame = some X.env.locals)
    (hy : X.N[i]? = some y) (hyl : X.env.scope.names.lookup y = some .local) (hsw : swapsWith (.ListComp elt [⟨tg, iter, ifs, 0⟩] scope pos) (some (.Name y py)) spos.line X.env = pure true)
    (hi : PI X tg iter wi) (ok : BlkOk X.N X.env.scope scope own)
    (hg : ∀ s H C cl fp xe, PG (blkW X s H scope (compEnvC scope cl C X.env) fp xe) tg g)
    (ht : ∀ s H C cl fp xe Wb, Takes (blkW X s H scope (compEnvC scope cl C X.env) fp xe) Wb → PTs (blkW X s H scope (compEnvC scope cl C X.env) fp xe) ifs (tt Wb))
    (he : ∀ s H C cl fp xe Wb, Takes (blkW X s H scope (compEnvC scope cl C X.env) fp xe) Wb → PE (blkW X s H scope (compEnvC scope cl C X.env) fp xe) elt (te Wb))
    (hs : ∀ x, foldedSetIterable iter X.env x = pure x := by intro _; rfl) :
    PS X (.Assign [.Name y py] (.ListComp elt [⟨tg, iter, ifs, 0⟩] scope pos) spos) (tAsg (xLc W wi g tt te (own.map (·.2))) (gName i)) := by
  refine ⟨fun pins s σ H D I h => ?_⟩
  rw [exec_Assign_Name_used _ _ _ _ hsw]
  refine wpAny_bind (wpAny_standAt (wpAny_bind ?_))
  show wpAny _ X.A (comprehension _ scope X.env (firstIterPos [⟨tg, iter, ifs, 0⟩] pos) (newList []) false (eval iter X.env) (some (assign (.Name y py) X.env)) >>= fun _ => _) _ _ s
  have h : xLc W wi g tt te (own.map (·.2)) σ H (fun x H1 => gName i x σ H1 D.nx) := h
  refine wpAny_bind (thn (lc_hid (Qf := fun _ s' => SP X pins D .next s') hc tk hst hf I hi ok hN hg ht he hs h fun L s' m H' ce I' q hn f => ?_) fun _ s' hq => wpAny_pure (wpAny_pure hq))
  show wpAny _ _ (assign (.Name y py) X.env (.ref L)) _ _ _
  refine wpAny_assign_Name (store_ok2 (v := V.ref L) I' hN hy (.inl hyl) rfl (fun s2 I2 hsb => ?_) (.inr hyl))
  obtain ⟨a, sb, ha⟩ := hsb
  obtain ⟨q1, q2, q3, q4, q5, q6⟩ := f
  have hca : ce.locals ≠ a := by
    rcases ha with z | z
    · rw [z]
      exact q2
    · exact fun e => q5 y a z e.symm
  refine ⟨m, hn.sameBut sb hca, fun h3 sb3 => ?_⟩
  exact ⟨_, H', I2.turned (t' := s2.toks) (fun b o hb eb => (sb3.2 b hb).trans eb) q1 q2 q4 q5 q6, q⟩
end
end CL
end

section
set_option Elab.async false
set_option linter.all false
set_option maxRecDepth 100000
set_option maxHeartbeats 4000000
/-! CLx: own errors with fields: made, raised, caught and kept behind the suite. -/
namespace CL
open PySem PySem.Spec PyProof.Rows L2

/-! ### what the written part says of an error's class, as one Bool -/
def oexB (K : PySem.W.Frag) (C : Addr) : Bool := match K.lookup C with
  | some ⟨.type "type", _, .cls cd, sl⟩ => (match cd.mro, sl.toList with
    | .ref C' :: bm, [_, _, _, _, some (.builtin n), _] => C' == C && (n == "ValueError.__new__" && (!cd.hasDel && (cd.hasDict && PySem.HandSPX.refsVE bm)))
    | _, _ => false)
  | _ => false
theorem oexB_cls {K : PySem.W.Frag} {C : Addr} (h : oexB K C = true) :
    ∃ nm q N bs bm sn sub ab col dd k0 k1 k2 k3 k5, K.lookup C = some (excClassObj nm q C N bs bm true sn sub ab col dd k0 k1 k2 k3 k5 "ValueError.__new__") ∧ PySem.HandSPX.refsVE bm = true := by
  unfold oexB at h
  split at h
  · rename_i dd cd sl ho
    split at h
    · rename_i C' bm k0 k1 k2 k3 n k5 hm hs
      simp only [Bool.and_eq_true, beq_iff_eq, Bool.not_eq_true'] at h
      obtain ⟨e1, e2, e3, e4, e5⟩ := h
      subst e1 e2
      obtain ⟨nm, bs, mro, ns, qn, hd, sn, sub, ab, col, del⟩ := cd
      dsimp only at hm e3 e4
      subst hm e3 e4
      have hsl : sl = #[k0, k1, k2, k3, some (.builtin "ValueError.__new__"), k5] := by
        obtain ⟨l⟩ := sl
        simp only at hs
        rw [hs]
      subst hsl
      exact ⟨_, _, _, _, _, _, _, _, _, _, _, _, _, _, _, ho, e5⟩
    · cases h
  · cases h

/-- all that is asked of an error's class: made, raised, asked by isinstance, its fields read -/
def errB (K : PySem.W.Frag) (C : Addr) : Bool :=
  oexB K C && (decide (PySem.W.findIn K (.ref C) "__setattr__" = some (some (.builtin "object.__setattr__"))) && (decide (PySem.W.subIn K (.ref C) (.type "BaseException") = some true) &&
    (decide (PySem.W.typeIn K (.ref C) = some (.type "type")) && (PySem.W.keepIn K (.ref C) && (xfB K C &&
      (decide (PySem.W.findIn K (.ref C) "__class__" = some (some (.builtin "object.__class__"))) &&
        (decide (PySem.W.specialIn K (.builtin "object.__class__") "__get__" = some (some (.builtin "getset_descriptor.__get__"))) &&
          (decide (PySem.W.takesIn K (.builtin "object.__class__") = some true) && decide (PySem.W.mroIn K C (.type "object") = some true)))))))))
structure ErrC (K : PySem.W.Frag) (C : Addr) : Prop where
  ox : OexC K C
  xf : XfC K C
  ec : ExcC K C
theorem and2 {a b : Bool} (h : (a && b) = true) : a = true ∧ b = true := Bool.and_eq_true_iff.mp h
theorem errB_ok {K : PySem.W.Frag} {C : Addr} (h : errB K C = true) : ErrC K C := by
  obtain ⟨h1, h⟩ := and2 h
  obtain ⟨h2, h⟩ := and2 h
  obtain ⟨h3, h⟩ := and2 h
  obtain ⟨h4, h⟩ := and2 h
  obtain ⟨h5, h⟩ := and2 h
  obtain ⟨h6, h⟩ := and2 h
  obtain ⟨h7, h⟩ := and2 h
  obtain ⟨h8, h⟩ := and2 h
  obtain ⟨h9, h10⟩ := and2 h
  have X := xfB_ok h6
  exact ⟨⟨oexB_cls h1, of_decide_eq_true h2, of_decide_eq_true h3, of_decide_eq_true h4, h5⟩, X,
    ⟨X.ga, X.gg, X.exC, X.hdC, of_decide_eq_true h7, of_decide_eq_true h8, of_decide_eq_true h9, of_decide_eq_true h10⟩⟩

/-! ### B.__init__(self, ..), B an own error class without an __init__ of its own -/
structure BaseI (K : PySem.W.Frag) (B : Addr) : Prop where
  rd : ClX.CRead K B (.type "type")
  at_ : PySem.W.findCls K (.ref B) (.type "type") "__init__" = some (.val (.builtin "ValueError.__init__"))
def baseB (K : PySem.W.Frag) (B : Addr) : Bool := PySem.W.readsIn K B (.type "type") &&
  (decide (PySem.W.specialIn K (.ref B) "__getattribute__" = some (some (.builtin "type.__getattribute__"))) &&
    (match PySem.W.findCls K (.ref B) (.type "type") "__init__" with
      | some (.val (.builtin n)) => n == "ValueError.__init__"
      | _ => false))
theorem baseB_ok {K : PySem.W.Frag} {B : Addr} (h : baseB K B = true) : BaseI K B := by
  obtain ⟨h1, h⟩ := and2 h
  obtain ⟨h2, h3⟩ := and2 h
  refine ⟨⟨h1, of_decide_eq_true h2⟩, ?_⟩
  split at h3
  · rename_i n e
    rw [e, beq_iff_eq.mp h3]
  · cases h3
section
variable {X : Cx}
theorem pe_baseinit {pl : Sem Bool} {B : Addr} {x : Str} {e : Expr} {es : List Expr} {ta : TA} {p1 p2 pos : Pos} (T : BaseI X.K B) (hg : Gl X x) (hm : X.mg x = some (.ref B)) (ha : PA X (e :: es) ta)
    (hdb : (x == ("__debug__" : Str)) = false := by decide)
    (hc : eval (.Call (.Attribute (.Name x p1) "__init__" p2) (e :: es) [] pos) X.env = (do
      let ov ← eval (.Name x p1) X.env
      standAt p2.atName
      let (f, first) ← holding [ov] (getMethod ov "__init__" pl)
      callWith pos f first (backTo pos (starEach (e :: es) X.env)) (backToKw pos (keywordEach [] X.env))) := by rfl)
    (he : starEach (e :: es) X.env = (false, eval e X.env) :: starEach es X.env := by rfl) (hpl : (backTo pos (starEach es X.env)).any (·.1) = false := by rfl) :
    PE X (.Call (.Attribute (.Name x p1) "__init__" p2) (e :: es) [] pos) (tVeI X.K ta) := by
  refine ⟨fun pins s σ H Q I h => ?_⟩
  refine PySem.W.methodCall_KW (ld_glob I hg hm ?_ hdb) hc
  refine PySem.W.method_cls I.kIn T.rd.ga (PySem.W.cls_value I.kIn T.rd.rd T.at_ (by decide +kernel) ?_)
  show wpAny _ _ (callWith pos (.builtin "ValueError.__init__") [] (backTo pos (starEach (e :: es) X.env)) []) _ _ _
  have J := I.tok (s.toks + 1)
  refine PyProof.Rows.callWith_method1 (thn (ha.run pos pins _ σ H _ J h) fun us s1 hu => ?_) he hpl
  obtain ⟨vs, H1, I1, r1, a, C, ws, ev, hl, O, ea, q⟩ := hu
  subst ev
  cases r1 with
  | @cons _ u0 _ ur ra rw' =>
    obtain rfl : u0 = Value.ref a := ra
    refine oinit_ok O I1 ea ?_ fun s2 I2 => ⟨.non, H1, I2, rfl, q⟩
    have hl2 := Paired.length rw'
    rw [sizeLine_eq]
    omega
end

/-! ### an error's own __init__ that lays its fields, and raise of such an error -/
/-- the fields as they are laid: the last first -/
def laid (fs : List Str) (ws : List V) : List (Str × V) := (fs.zip ws).reverse
def spInit (C : Addr) (fs : List Str) : Sp := fun vs H Q _ => ∃ (a : Addr) (ws : List V), vs = .ref a :: ws ∧ ws.length = fs.length ∧ H a = some (exo a C none) ∧
  ∀ d, H d = none → d ≠ a → Q .non (upd (upd H d (exd d (laid fs ws))) a (exo a C (some d)))
def tRaiseX (C : Addr) (fs : List Str) (W : WX) (ta : TA) : TS := fun _ σ H => ta σ H fun ws H1 => ws.length = fs.length ∧ ∀ d, H1 d = none → W (.ref C) (some d) σ (upd H1 d (.xd (laid fs ws)))
theorem raised_of {C : Addr} {fs : List Str} {ws : List V} {H : Hp} {P : Addr → Hp → Prop} (hl : ws.length = fs.length) (h60 : fs.length ≤ 60) (h : ∀ d, H d = none → P d (upd H d (.xd (laid fs ws)))) :
    ws.length ≤ 1000 ∧ ∀ a, H a = none → spInit C fs (.ref a :: (ws ++ [])) (upd H a (exo a C none))
      (fun v H2 => v = .non ∧ ∃ (d : Addr) (gs : List (Str × V)), H2 a = some (exo a C (some d)) ∧ H2 d = some (exd d gs) ∧ H d = none ∧ P d (upd (del H2 a) d (.xd gs))) (fun _ _ _ => False) := by
  refine ⟨by omega, fun a ha => ⟨a, ws, by rw [List.append_nil], hl, upd_same, fun d hd ne => ?_⟩⟩
  rw [upd_ne ne] at hd
  refine ⟨rfl, d, laid fs ws, upd_same, ?_, hd, ?_⟩
  · rw [upd_ne ne, upd_same]
  · have e : upd (del (upd (upd (upd H a (exo a C none)) d (exd d (laid fs ws))) a (exo a C (some d))) a) d (.xd (laid fs ws)) = upd H d (.xd (laid fs ws)) := by
      funext b
      by_cases hb : b = d
      · rw [hb, upd_same, upd_same]
      · rw [upd_ne hb, upd_ne hb]
        by_cases hba : b = a
        · rw [hba, del_same, ha]
        · rw [del_ne hba, upd_ne hba, upd_ne hb, upd_ne hba]
    rw [e]
    exact h d hd
theorem ps_raiseX {X : Cx} {W : WX} {CX : CXT} {x : Str} {C fI : Addr} {k : Nat} {fd : FuncData} {ps fs : List Str} {e : Expr} {es : List Expr} {ta : TA} {p pos pos' : Pos} (hc : X.calm = true) (tk : Takes X W) (T : OexC X.K C) (h60 : fs.length ≤ 60)
    (iC : PySem.W.findIn X.K (.ref C) "__init__" = some (some (.ref fI))) (tI : PySem.W.typeIn X.K (.ref fI) = some (.type "function"))
    (F1 : FnOk X.prog X.w X.K X.mg X.base CX k fI fd ps (spInit C fs)) (hr : Room (k + 1) X.A) (hb : Binds X.K fd ps []) (hx : Passes CX X (fun _ _ _ => False)) (hg : Gl X x) (hm : X.mg x = some (.ref C)) (ha : PA X (e :: es) ta)
    (hdb : (x == ("__debug__" : Str)) = false := by decide) (he : starEach (e :: es) X.env = (false, eval e X.env) :: starEach es X.env := by rfl) (hpl : (backTo pos (starEach es X.env)).any (·.1) = false := by rfl)
    (mono : ∀ σ H Q Q', (∀ vs H1, Q vs H1 → Q' vs H1) → ta σ H Q → ta σ H Q') :
    PS X (.Raise (some (.Call (.Name x p) (e :: es) [] pos)) none pos') (tRaiseX C fs W ta) := by
  have P := ps_raise (pos := pos') hc tk (pmk_oex (p := p) (pos := pos) T iC tI F1 hr hb .nil hx hg hm ha hdb he hpl)
  refine ⟨fun pins s σ H D I h => P.run pins s σ H D I ?_⟩
  refine mono σ H _ _ (fun vs H1 q => ?_) h
  exact raised_of (P := fun d H' => W (.ref C) (some d) σ H') q.1 h60 q.2

/-! ### a caught error, kept -/
/-- at a: an error of the class cls, its own dict at d -/
def exk (a : Addr) (cls : Value) (d : Option Addr) : HO := .ext fun h => ∃ oe vs, h.get? a = some oe ∧ Zc cls d oe ∧ oe.data = .fields vs
theorem exk_ok {P : Program} {w : World} {H : Hp} {h : Heap} {a : Addr} {cls : Value} {d : Option Addr} {oe : Obj} {vs : Array Value} (e : h.get? a = some oe) (z : Zc cls d oe) (f : oe.data = .fields vs) : ObjOk P w H h a (exk a cls d) :=
  ⟨⟨oe, vs, e, z, f⟩, ⟨oe, e⟩, fun h1 h2 q k => by
    obtain ⟨o1, v1, e1, z1, f1⟩ := q
    exact ⟨o1, v1, k o1 e1, z1, f1⟩⟩
theorem exk_at {P : Program} {w : World} {H : Hp} {h : Heap} {a : Addr} {cls : Value} {d : Option Addr} (ok : HOk P w H h) (e : H a = some (exk a cls d)) : ∃ oe vs, h.get? a = some oe ∧ Zc cls d oe ∧ oe.data = .fields vs := by
  have x : ObjOk P w H h a (.ext fun h => ∃ oe vs, h.get? a = some oe ∧ Zc cls d oe ∧ oe.data = .fields vs) := ok a _ e
  exact x.1
/-- what 'except c as n' wishes of an exception of the body, the error kept tracked behind the suite -/
def wKeep (K : PySem.W.Frag) (c : Value) (i : Nat) (ts : Addr → Value → Option Addr → TS) (D : Ends) : WX := fun cls d σ H =>
  PySem.W.exmOne K cls c = some true ∧ ∀ a, H a = none → ts a cls d { nx := fun σ' H' => H' a = none → D.nx (σ'.set i none) (upd H' a (exk a cls d)), rt := fun _ _ => False } (σ.set i (some (.ref a))) H
section
variable {X : Cx} {x n : Str} {c : Value} {i : Nat} {body suite : List Stmt} {b₀ : Stmt} {np pos pos' : Pos} {tb : WX → TS} {ts : Addr → Value → Option Addr → TS}
theorem ps_try_keep (hst : X.stack = X.env :: X.outer) (hf : X.env.frame = some X.env.locals) (hN : X.N.Nodup) (hi : X.N[i]? = some n) (hln : X.env.kindOf n = some .local) (hc : Names X x c) (hex : X.ex = [])
    (hb : ∀ (W : WX) (pn : List (Addr × Obj)) (xe : Value → Shared → Prop), Takes (X.tr pn xe) W → PassesOwn (model X.prog X.w) X.A X.env xe → PSs (X.tr pn xe) body (tb W))
    (hsu : ∀ (a : Addr) (oe : Obj) (cls : Value) (d : Option Addr) (pn : List (Addr × Obj)), Zc cls d oe → (∃ vs, oe.data = .fields vs) → PSs (X.suite a ((a, oe) :: pn)) (b₀ :: suite) (ts a cls d)) :
    PS X (.Try body [.ExceptHandler (some (.Name x np)) (some n) (b₀ :: suite) pos'] [] [] pos) (fun D σ H => tb (wKeep X.K c i ts D) D σ H) := by
  refine ⟨fun pins s σ H D I h => ?_⟩
  have ok := I.ok
  have hfr : X.A.frames = some (X.env :: X.outer) := by
    rw [ok.frames, hst]
  refine wpAny_Try_except ?_
  generalize hxe : (fun e s₁ => wpAny (model X.prog X.w) X.A (noteFrame e X.env) (fun _ s₂ => wpAny (model X.prog X.w) X.A (setFlight e none) (fun _ s₃ =>
    wpAny (model X.prog X.w) X.A (handleBy e X.env [.ExceptHandler (some (.Name x np)) (some n) (b₀ :: suite) pos']) (SP X pins D) X.xe s₃) X.xe s₂) X.xe s₁ : Value → Shared → Prop) = xe
  have looking : PassesOwn (model X.prog X.w) X.A X.env xe := by
    rw [← hxe]
    exact PassesOwn.looking
  have caught : Takes (X.tr (X.pn ++ pins) xe) (wKeep X.K c i ts D) := by
    intro u s' xx
    show xe u s'
    rw [← hxe]
    obtain ⟨a, B, sI, pins', σ', H', cls, d, rfl, J', nb, up, sky, na, os, ag, hexm, hyes⟩ := xx
    have J : L2.Inv X pins σ' H' sI := J'.ofTry ok
    have nb : ∀ b o, sI.heap.get? b = some o → b ∉ frs X.stack → B.get? b = some o := nb
    have sky : Sky B (X.env :: X.outer) a (Zc cls d) X.env.locals s'.heap := by
      have q : Sky B X.stack a (Zc cls d) X.env.locals s'.heap := sky
      rw [hst] at q
      exact q
    have nBa : B.get? a = none := by
      rcases sky with ⟨_, q, _⟩ | ⟨_, q, _⟩ | ⟨_, q, _⟩ <;> exact q
    show wpAny _ _ (noteFrame (.ref a) X.env) _ _ _
    refine Sky.land Zc.steady hfr hf sky fun h3 fl3 up3 => ?_
    have J3 : L2.Inv X pins σ' H' { s' with heap := h3 } := J.landed nb fl3.1 (up.trans up3) os ag
    obtain ⟨oe3, vs3, he3, hz3, hd3⟩ := fl3.there
    have nfr : a ∉ frs (X.env :: X.outer) := by
      intro hm
      obtain ⟨_, o', e', hnf⟩ := fl3.2.2.1.mem hm
      rw [he3] at e'
      cases e'
      exact hnf _ hd3
    have nL : a ≠ X.env.locals := fun z => nfr (List.mem_filterMap.mpr ⟨X.env, List.mem_cons_self, by rw [hf, z]⟩)
    have nF : a ∉ X.fs := by
      intro hm
      obtain ⟨e, he, q⟩ := List.mem_filterMap.mp hm
      exact nfr (List.mem_filterMap.mpr ⟨e, List.mem_cons_of_mem _ he, q⟩)
    have nfrS : a ∉ frs X.stack := by rw [hst]; exact nfr
    -- it is newer than all that stood in the state without it
    have nI : sI.heap.get? a = none := by
      cases q : sI.heap.get? a with
      | none => rfl
      | some o => rw [nb a o q nfrS] at nBa; cases nBa
    have n0 : X.s_0.heap.get? a = none := by
      cases q : X.s_0.heap.get? a with
      | none => rfl
      | some o =>
        obtain ⟨o', q'⟩ := J.base.there a o q (by rw [hex]; simp)
        rw [nI] at q'
        cases q'
    have nP : ∀ p ∈ X.pn ++ pins, p.1 ≠ a := fun p hp z => by
      have q := (J.pin p hp).1
      rw [z, nI] at q
      cases q
    have S3 := J3.suite he3 hd3 na nL nF
    refine wpAny_handleBy_cons (codeAny_handlers_test ?_) (by intro q; cases q)
    have LT : PySem.W.Looks (model X.prog X.w) h3 (typeOf (.ref a)) cls := fun A' Q' E' s1 k q => wpAny_typeOf_ref (k _ _ he3) (by rw [hz3.1]; exact q)
    have LM := PySem.W.exm_one (M := model X.prog X.w) J3.kIn LT hexm
    have test : ∀ {Q' : Value → Shared → Prop} {E' : Value → Shared → Prop}, Q' c { s' with heap := h3 } →
        wpAny (model X.prog X.w) (X.A.mark (some (.ref a))) (eval (.Name x np) X.env) Q' E' { s' with heap := h3 } := by
      intro Q' E' q
      obtain ⟨hg, hdbg, hm | ⟨hm, hv, hnn⟩⟩ := hc
      · exact ld_glob (X := X.suite a ((a, oe3) :: (X.pn ++ pins))) S3 hg hm q hdbg
      · exact ld_blt (X := X.suite a ((a, oe3) :: (X.pn ++ pins))) S3 hg hm hv q hnn hdbg
    refine test (LM.here (codeAny_handlers_suite_as ?_))
    refine HandSPX.lands_againZ fl3 fun h4 fl4 up4 => ?_
    have J4 : L2.Inv X pins σ' H' { s' with heap := h4 } := J.landed nb fl4.1 ((up.trans up3).trans up4) os ag
    obtain ⟨oe4, vs4, he4, hz4, hd4⟩ := fl4.there
    have S4 := J4.suite he4 hd4 na nL nF
    refine store_ok (X := X.suite a ((a, oe4) :: (X.pn ++ pins))) (v := .ref a) S4 hN hi (.inl hln) rfl (fun s5 S5 => ?_) (.inr hln)
    refine wpAny_mono ((hsu a oe4 cls d (X.pn ++ pins) hz4 ⟨_, hd4⟩).run [] s5 _ H' _ S5 (hyes a na)) (fun f s6 hsp => ?_) (fun _ _ z => False.elim z)
    cases f with
    | next =>
      obtain ⟨σ6, H6, S6, q6⟩ := hsp
      obtain ⟨p1, p2, _⟩ := S6.pin (a, oe4) (List.mem_append_left _ List.mem_cons_self)
      have I6 : L2.Inv X pins σ6 H6 s6 := S6.unsuite ok
      have I7 := track (o := exk a cls d) I6 p2 nL (fun y k ek z => by
        obtain ⟨v, o, ho, hdd⟩ := I6.cell y k ek
        rw [z, p1] at ho
        cases ho
        rw [hd4] at hdd
        cases hdd) nP n0 (exk_ok p1 hz4 hd4)
      exact gone_ok I7 hN hi hln fun s7 J7 => ⟨_, _, J7, q6 p2⟩
    | brk =>
      obtain ⟨_, _, _, q6⟩ := hsp
      exact q6.elim
    | cont =>
      obtain ⟨_, _, _, q6⟩ := hsp
      exact q6.elim
    | ret u =>
      obtain ⟨_, _, _, _, _, q6⟩ := hsp
      exact q6.elim
  refine wpAny_mono ((hb (wKeep X.K c i ts D) (X.pn ++ pins) xe caught looking).run [] s σ H D (I.toTry _) h) (fun f s1 hsp => ?_) (fun e s1 he => he)
  cases f with
  | next =>
    obtain ⟨σ1, H1, J1, q⟩ := hsp
    exact wpAny_execs_nil ⟨σ1, H1, J1.ofTry ok, q⟩
  | brk =>
    obtain ⟨σ1, H1, J1, q⟩ := hsp
    exact ⟨σ1, H1, J1.ofTry ok, q⟩
  | cont =>
    obtain ⟨σ1, H1, J1, q⟩ := hsp
    exact ⟨σ1, H1, J1.ofTry ok, q⟩
  | ret u =>
    obtain ⟨v, σ1, H1, J1, r, q⟩ := hsp
    exact ⟨v, σ1, H1, J1.ofTry ok, r, q⟩
end

/-! ### isinstance of a kept error, its fields -/
section
open PySem.W
variable {prog : Program} {w : World} {A : Around} {E : Value → Shared → Prop} {s : Shared} {K : Frag} {x D : Addr} {ox : Obj} {od : Option Obj}
theorem err_class {Q : Option Value → Shared → Prop} (T : ExcC K D) (hf : findObj K D od "__class__" = some (.bind (.builtin "getset_descriptor.__get__") (.builtin "object.__class__")))
    (X : K.In s.heap) (I : InstAt s.heap x ox D od) (h : Q (some (.ref D)) { s with toks := s.toks + 1 }) : wpAny (model prog w) A (getAttr? (.ref x) "__class__") Q E s := by
  obtain ⟨hp, g, d, t, os⟩ := s
  have ty := I.type (M := model prog w)
  have lg := looks_findIn (M := model prog w) X T.hg
  have lk := looks_findIn (M := model prog w) X T.hk
  have lf := looks_find (M := model prog w) X I hf
  have sub : Looks (model prog w) hp (isInstance (.ref x) (.type "BaseException")) true := ty.andThen (looks_subIn X T.hs)
  have n2 : (Value.builtin "BaseException.__getattribute__" == Value.builtin "object.__getattribute__") = false := by decide +kernel
  unfold getAttr? getAttrBy? getAttrBy
  refine wpAny_bind (wpAny_mkText (wpAny_bind (wpAny_attempt (wpAny_holding (wpAny_bind (ty.at (wpAny_bind (lg.at ?_))))))))
  show wpAny _ _ (if (onTheHeap (Value.ref D) && Value.builtin "BaseException.__getattribute__" == Value.builtin "object.__getattribute__") = true then _ else _) _ _ _
  rw [n2, Bool.and_false, if_neg Bool.false_ne_true]
  unfold getAttrByItsOwn hookBefore
  refine wpAny_bind ?_
  rw [if_pos (show onTheHeap (Value.ref D) = true from rfl)]
  refine lk.at (wpAny_bind (wpAny_attempt (wpAny_holding ?_)))
  unfold callGetattribute
  rw [if_neg (show ¬ (false && onTheHeap (Value.builtin "BaseException.__getattribute__")) = true from Bool.false_ne_true)]
  unfold boundAndCalled
  rw [PySem.F.excAttr_ValueError.ga.bind (.ref x)]
  refine wpAny_bind (wpAny_pure ?_)
  show wpAny _ _ (call (.builtin "BaseException.__getattribute__") [.ref x, .str "__class__" t]) _ _ _
  refine wpAny_call (codeAny_call_builtin PySem.F.excAttr_ValueError.ga.plain PySem.F.entry_bexc_ga ?_)
  refine @check_slot (model prog w) _ _ ⟨hp, g, d, t + 1, os⟩ "BaseException.__getattribute__" "BaseException" "__getattribute__" (.ref x) [.str "__class__" t] [] _
    (by decide +kernel) (by decide +kernel) sub (PySem.F.args_bexc_ga (.ref x) (.str "__class__" t)) ?_
  unfold Builtin.«object.__getattribute__»
  refine wpAny_bind (wpAny_of_eq (a := ((Value.ref x : Value), [Value.str "__class__" t])) (by first | rfl | (simp only [slotArgs]; rfl)) ?_)
  refine wpAny_bind (wpAny_pure (wpAny_bind (ty.at (wpAny_bind (lf.at ?_)))))
  show wpAny _ _ (holding [Value.builtin "object.__class__"] (call (.builtin "getset_descriptor.__get__") [.builtin "object.__class__", .ref x, .ref D]) >>= ret) _ _ _
  refine wpAny_bind (wpAny_holding (wpAny_call (class_get (s := ⟨hp, g, d, t + 1, os⟩) (ox := ox) (od := od) X I T.hm ?_)))
  refine wpAny_pure ?_
  show wpAny _ _ (handedOut (.ref D)) _ _ _
  rw [handedOut_of (v := .ref D) rfl]
  first
    | exact wpAny_pure (wpAny_pure h)
    | exact wpAny_pure h
    | exact wpAny_pure (wpAny_bind (wpAny_pure (wpAny_pure h)))
/-- a class object stands in the written part -/
theorem cls_stands (hd : hasDictIn K D = true) : ∃ o, K.lookup D = some o ∧ ∀ its n, o.data ≠ .seq its n := by
  obtain ⟨cd, hc, _⟩ := any_some hd
  unfold clsIn at hc
  split at hc
  · rename_i ho
    exact ⟨_, ho, fun its n z => by cases z⟩
  · cases hc
theorem kit_err (T : ExcC K D) (hf : findObj K D od "__class__" = some (.bind (.builtin "getset_descriptor.__get__") (.builtin "object.__class__"))) :
    KitX K (.ref x) (.ref D) (fun h => InstAt h x ox D od) where
  ty := fun _ _ _ I => I.type
  it := by
    intro M h X _ A' Q' E' s' k q
    obtain ⟨cd, hcd, _⟩ := any_some T.hd
    unfold clsIn at hcd
    split at hcd
    · rename_i ho'
      unfold isType loadHead
      refine wpAny_bind (wpAny_loadPart (k _ _ (X _ _ ho')) ?_)
      exact wpAny_pure q
    · cases hcd
  ne := by
    intro h tp dd its n sl X htp
    obtain ⟨o, ho, hn⟩ := cls_stands T.hd
    cases q : (Value.ref D == Value.ref tp) with
    | false => rfl
    | true =>
      have e : D = tp := Value.ref.inj (beq_iff_eq.mp q)
      subst e
      have z := (X _ _ ho).symm.trans htp
      exact (hn its.toArray n (by rw [Option.some.inj z])).elim
  ca := fun X I k => err_class T hf X I k
theorem find_class (T : ExcC K D) (od : Option Obj) : findObj K D od "__class__" = some (.bind (.builtin "getset_descriptor.__get__") (.builtin "object.__class__")) := by
  have hc : (clsIn K D).isSome = true := by
    obtain ⟨cd, hc, _⟩ := any_some T.hd
    rw [hc]
    rfl
  cases od with
  | none => exact findObj_dataN hc T.ha T.hn T.ht
  | some o => exact findObj_data hc T.ha T.hn T.ht
end
section
variable {X : Cx} {pins : List (Addr × Obj)} {σ : L2.St} {H : Hp} {s : Shared} {a D : Addr}
/-- the kept error's dict, if it has one, is there -/
def DictAt (H : Hp) : Option Addr → Prop
  | none => True
  | some d => ∃ fs, H d = some (.xd fs)
theorem exk_inst (I : L2.Inv X pins σ H s) {d : Option Addr} (e : H a = some (exk a (.ref D) d)) (hd : DictAt H d) : ∃ ox od, PySem.W.InstAt s.heap a ox D od := by
  obtain ⟨oe, vs, he, hz, hf⟩ := exk_at I.hok e
  have no : PySem.W.notCls oe = true := by
    unfold PySem.W.notCls
    rw [hf] <;> rfl
  cases d with
  | none => exact ⟨oe, none, he, hz.1, no, by rw [hz.2] <;> trivial⟩
  | some dd =>
    obtain ⟨fs, hfs⟩ := hd
    obtain ⟨mA, ⟨o, es, ep, ho, _⟩, _⟩ := (show ObjOk X.prog X.w H s.heap dd (.xd fs) from I.hok dd _ hfs)
    exact ⟨oe, some o, he, hz.1, no, by rw [hz.2]; exact ho⟩
/-- isinstance(e, C), e a kept error of the class at D -/
def rIsX (K : PySem.W.Frag) : List V → Hp → VK → Prop := fun xs H Q => ∃ (a D : Addr) (d : Option Addr) (c : V) (cv : Value) (b : Bool), xs = [.ref a, c] ∧ ClsV c cv ∧ H a = some (exk a (.ref D) d) ∧ DictAt H d ∧ ExcC K D ∧
  PySem.W.kitOne K (.ref D) cv = some b ∧ Q (.bl b) H
theorem call_isX : CallR X (.builtin "isinstance") (rIsX X.K) := by
  intro pins s σ H xs us Q I r h
  obtain ⟨a, D, d, c, cv, b, rfl, hc, e, hd, T, k, q⟩ := h
  obtain ⟨u1, u2, rfl, r1, r2⟩ := vals2 r
  obtain rfl : u1 = Value.ref a := r1
  have e2 := hc.eq r2
  subst e2
  obtain ⟨ox, od, J⟩ := exk_inst I e hd
  exact PySem.W.kia_one (kit_err T (find_class T od)) I.kIn J k (fun z => nomatch z) fun tk => ⟨.bl b, H, I.tok tk, rfl, q⟩
/-- e.f, a field of a kept error -/
def tXk (K : PySem.W.Frag) (f : Str) (te : TE) : TE := fun σ H Q => te σ H fun x H1 => ∃ (a D dd : Addr) (fs : List (Str × V)) (v : V), x = .ref a ∧ H1 a = some (exk a (.ref D) (some dd)) ∧ H1 dd = some (.xd fs) ∧ XfC K D ∧
  PySem.W.findIn K (.ref D) f = some none ∧ fs.lookup f = some v ∧ Q v H1
theorem pe_xk {f : Str} {e : Expr} {te : TE} {pos : Pos} (he : PE X e te) (hb : attributeBase e f X.env (eval e X.env) = eval e X.env := by rfl) : PE X (.Attribute e f pos) (tXk X.K f te) := by
  refine ⟨fun pins s σ H Q I h => ?_⟩
  refine attr_of hb (thn (he.run pins s σ H _ I h) fun u s1 hh => ?_)
  obtain ⟨x, H1, I1, rx, a, D, dd, fs, v, ex, ea, ed, T, hno, l, q⟩ := hh
  subst ex
  obtain rfl : u = Value.ref a := rx
  obtain ⟨oe, vs, ha, hz, hd⟩ := exk_at I1.hok ea
  obtain ⟨mA, hns, hr⟩ := (show ObjOk X.prog X.w H1 s1.heap dd (.xd fs) from I1.hok dd _ ed)
  obtain ⟨od, ho, hl⟩ := lookIn_ns hns
  obtain ⟨u, hu, ru⟩ := RelO.some_of (v := v) (o := mA f) (by rw [← l]; exact hr f)
  have no : PySem.W.notCls oe = true := by
    unfold PySem.W.notCls
    rw [hd] <;> rfl
  have J : PySem.W.InstAt s1.heap a oe D (some od) := ⟨ha, hz.1, no, by rw [hz.2]; exact ho⟩
  exact HandSPX.exc_get I1.kIn J T.ga T.gg T.exC (PySem.W.findObj_own T.hdC hno rfl (by rw [hl, hu])) (handed_of ru) ⟨v, H1, I1.tok _, ru, q⟩
end
end CL
end

section
set_option Elab.async false
set_option linter.all false
set_option maxRecDepth 100000
set_option maxHeartbeats 4000000
/-! CLu: readings whose heads stay closed, with one way on for each; rules that take values of any kind. -/
namespace CL
open PySem PySem.Spec PyProof.Rows L2

/-! ### promises by their arguments -/
abbrev P1 := V → Hp → VK → XK → Prop
abbrev P2 := V → V → Hp → VK → XK → Prop
abbrev P3 := V → V → V → Hp → VK → XK → Prop
def sp0 (p : Hp → VK → XK → Prop) : Sp := fun vs H Q E => vs = [] ∧ p H Q E
def sp1 (p : P1) : Sp := fun vs H Q E => ∃ a, vs = [a] ∧ p a H Q E
def sp2 (p : P2) : Sp := fun vs H Q E => ∃ a b, vs = [a, b] ∧ p a b H Q E
def sp3 (p : P3) : Sp := fun vs H Q E => ∃ a b c, vs = [a, b, c] ∧ p a b c H Q E
def sp4 (p : V → P3) : Sp := fun vs H Q E => ∃ a b c d, vs = [a, b, c, d] ∧ p a b c d H Q E
section
variable {H : Hp} {Q : VK} {E : XK} {a b c d : V}
theorem sp0_go {p : Hp → VK → XK → Prop} (h : p H Q E) : sp0 p [] H Q E := ⟨rfl, h⟩
theorem sp1_go {p : P1} (h : p a H Q E) : sp1 p [a] H Q E := ⟨a, rfl, h⟩
theorem sp2_go {p : P2} (h : p a b H Q E) : sp2 p [a, b] H Q E := ⟨a, b, rfl, h⟩
theorem sp3_go {p : P3} (h : p a b c H Q E) : sp3 p [a, b, c] H Q E := ⟨a, b, c, rfl, h⟩
theorem sp4_go {p : V → P3} (h : p a b c d H Q E) : sp4 p [a, b, c, d] H Q E := ⟨a, b, c, d, rfl, h⟩
end

/-! ### expressions: heads -/
@[irreducible] def xVar (i : Nat) : TE := tVar i
@[irreducible] def xC (v : V) : TE := tC v
@[irreducible] def xOp (r : R2) (a b : TE) : TE := tOp r a b
@[irreducible] def xUn (r : V → Hp → VK → Prop) (a : TE) : TE := tUn r a
@[irreducible] def xNil : TA := tNil
@[irreducible] def xCons (a : TE) (t : TA) : TA := tCons a t
@[irreducible] def xTup (t : TA) : TE := tTup t
@[irreducible] def xLst (t : TA) : TE := tLst t
/-- what a built-in is handed -/
@[irreducible] def xFn (r : List V → Hp → VK → Prop) (t : TA) : TE := fun σ H Q => t σ H fun vs H1 => r vs H1 Q
/-- o.f, o an instance, or a kept error -/
@[irreducible] def fldR (K : PySem.W.Frag) (f : Str) (x : V) (H : Hp) (Q : VK) : Prop :=
  (∃ p C dx fs y, x = .ref p ∧ H p = some (.ins C dx fs) ∧ Cls K C ∧ NoAttr K C f ∧ fs.lookup f = some y ∧ Q y H) ∨
  ∃ (p D d : Addr) (fs : List (Str × V)) (y : V), x = .ref p ∧ H p = some (exk p (.ref D) (some d)) ∧ H d = some (.xd fs) ∧ XfC K D ∧ PySem.W.findIn K (.ref D) f = some none ∧ fs.lookup f = some y ∧ Q y H
@[irreducible] def xFld (K : PySem.W.Frag) (a : TE) (f : Str) : TE := fun σ H Q => a σ H fun x H1 => fldR K f x H1 Q
/-- o.m(..): the instance, then the arguments, then the method's promise -/
@[irreducible] def insR (C : Addr) (m : Str) (x : V) (H : Hp) (R : Prop) : Prop := ∃ p dx fs, x = .ref p ∧ H p = some (.ins C dx fs) ∧ fs.lookup m = none ∧ R
@[irreducible] def xCall (sp : Sp) (dvs : List V) (W : WX) (t : TA) : TE := fun σ H Q => t σ H fun vs H1 => sp (vs ++ dvs) H1 Q fun cls d H' => W cls d σ H'
@[irreducible] def xMeth (C : Addr) (m : Str) (sp : Sp) (dvs : List V) (W : WX) (a : TE) (t : TA) : TE := fun σ H Q => a σ H fun x H1 => insR C m x H1 (t σ H1 fun vs H2 => sp (x :: (vs ++ dvs)) H2 Q fun cls d H' => W cls d σ H')
@[irreducible] def xMake (C : Addr) (sp : Sp) (dvs : List V) (t : TA) : TE := tMake C sp dvs E0 t
@[irreducible] def xSl (r : V → Option Int → Option Int → Hp → VK → Prop) (a : TE) (lo hi : TO) : TE := tSl r a lo hi
@[irreducible] def xNo : TO := tNoPart
@[irreducible] def xPart (a : TE) : TO := tPart a
@[irreducible] def xIfE (t : TT) (a b : TE) : TE := fun σ H Q => t σ H fun c H1 => br c (a σ H1 Q) (b σ H1 Q)
/-- a test's value -/
@[irreducible] def xOfT (t : TT) : TE := fun σ H Q => t σ H fun c H1 => Q (.bl c) H1
/-- an expression's answer, a truth value -/
@[irreducible] def asB (x : V) (H : Hp) (Q : Bool → Hp → Prop) : Prop := ∃ k, x = .bl k ∧ Q k H
@[irreducible] def xCt (a : TE) : TT := fun σ H Q => a σ H fun x H1 => asB x H1 Q
@[irreducible] def tru (K : PySem.W.Frag) (x : V) (H : Hp) (Q : Bool → Hp → Prop) : Prop := ∃ k, TruV K x H k ∧ Q k H
@[irreducible] def xTr (K : PySem.W.Frag) (a : TE) : TT := fun σ H Q => a σ H fun x H1 => tru K x H1 Q
@[irreducible] def xAnd (t u : TT) : TT := fun σ H Q => t σ H fun c H1 => br c (u σ H1 Q) (Q false H1)
@[irreducible] def xOr (t u : TT) : TT := fun σ H Q => t σ H fun c H1 => br c (Q true H1) (u σ H1 Q)
@[irreducible] def xNot (t : TT) : TT := fun σ H Q => t σ H fun c H1 => Q (!c) H1
section
variable {σ : L2.St} {H : Hp} {Q : VK} {B : Bool → Hp → Prop} {L : List V → Hp → Prop} {O : Option Int → Hp → Prop} {i : Nat} {v x : V} {ta tb te : TE} {t u : TT} {tr : TA} {r : R2} {K : PySem.W.Frag} {C : Addr} {W : WX} {dvs : List V} {sp : Sp}
theorem g_var (h : σ[i]? = some (some v)) (q : Q v H) : xVar i σ H Q := by unfold xVar; exact ⟨v, h, q⟩
theorem g_c (q : Q v H) : xC v σ H Q := by unfold xC; exact q
theorem g_op (q : ta σ H fun x H1 => tb σ H1 fun y H2 => r x y H2 Q) : xOp r ta tb σ H Q := by unfold xOp; exact q
theorem g_un {r : V → Hp → VK → Prop} (q : ta σ H fun x H1 => r x H1 Q) : xUn r ta σ H Q := by unfold xUn; exact q
theorem g_nil (q : L [] H) : xNil σ H L := by unfold xNil; exact q
theorem g_cons (q : ta σ H fun x H1 => tr σ H1 fun xs H2 => L (x :: xs) H2) : xCons ta tr σ H L := by unfold xCons; exact q
theorem g_tup (q : tr σ H fun xs H1 => xs.length ≤ sizeLine ∧ ∀ p, H1 p = none → Q (.ref p) (upd H1 p (.tup xs))) : xTup tr σ H Q := by unfold xTup; exact q
theorem g_lst (q : tr σ H fun xs H1 => xs.length ≤ sizeLine ∧ ∀ p, H1 p = none → Q (.ref p) (upd H1 p (.lst xs))) : xLst tr σ H Q := by unfold xLst; exact q
theorem g_fn {r : List V → Hp → VK → Prop} (q : tr σ H fun vs H1 => r vs H1 Q) : xFn r tr σ H Q := by unfold xFn; exact q
theorem g_fld {f : Str} (q : ta σ H fun x H1 => fldR K f x H1 Q) : xFld K ta f σ H Q := by unfold xFld; exact q
theorem fldR_i {f : Str} {p dx : Addr} {fs : List (Str × V)} {y : V} (h : H p = some (.ins C dx fs)) (c : Cls K C) (n : NoAttr K C f) (l : fs.lookup f = some y) (q : Q y H) : fldR K f (.ref p) H Q := by
  unfold fldR; exact .inl ⟨p, C, dx, fs, y, rfl, h, c, n, l, q⟩
theorem fldR_e {f : Str} {p D d : Addr} {fs : List (Str × V)} {y : V} (h : H p = some (exk p (.ref D) (some d))) (hd : H d = some (.xd fs)) (T : XfC K D) (n : PySem.W.findIn K (.ref D) f = some none) (l : fs.lookup f = some y) (q : Q y H) :
    fldR K f (.ref p) H Q := by unfold fldR; exact .inr ⟨p, D, d, fs, y, rfl, h, hd, T, n, l, q⟩
theorem g_call (q : tr σ H fun vs H1 => sp (vs ++ dvs) H1 Q fun cls d H' => W cls d σ H') : xCall sp dvs W tr σ H Q := by unfold xCall; exact q
theorem g_meth {m : Str} (q : ta σ H fun x H1 => insR C m x H1 (tr σ H1 fun vs H2 => sp (x :: (vs ++ dvs)) H2 Q fun cls d H' => W cls d σ H')) : xMeth C m sp dvs W ta tr σ H Q := by unfold xMeth; exact q
theorem insR_i {m : Str} {p dx : Addr} {fs : List (Str × V)} {R : Prop} (h : H p = some (.ins C dx fs)) (l : fs.lookup m = none) (q : R) : insR C m (.ref p) H R := by unfold insR; exact ⟨p, dx, fs, rfl, h, l, q⟩
theorem g_make (q : tr σ H fun vs H1 => ∀ x dx, H1 x = none → H1 dx = none → dx ≠ x → sp (.ref x :: (vs ++ dvs)) (upd (upd H1 dx (.own x)) x (.ins C dx [])) (fun v H2 => v = .non ∧ Q (.ref x) H2) E0) : xMake C sp dvs tr σ H Q := by
  unfold xMake; exact q
theorem g_sl {r : V → Option Int → Option Int → Hp → VK → Prop} {tl th : TO} (q : ta σ H fun x H1 => tl σ H1 fun l H2 => th σ H2 fun h H3 => r x l h H3 Q) : xSl r ta tl th σ H Q := by unfold xSl; exact q
theorem g_no (q : O none H) : xNo σ H O := by unfold xNo; exact q
theorem g_part (q : ta σ H fun x H1 => ∃ n, x = .int n ∧ O (some n) H1) : xPart ta σ H O := by unfold xPart; exact q
theorem g_ifE (q : t σ H fun c H1 => br c (ta σ H1 Q) (tb σ H1 Q)) : xIfE t ta tb σ H Q := by unfold xIfE; exact q
theorem g_ofT (q : t σ H fun c H1 => Q (.bl c) H1) : xOfT t σ H Q := by unfold xOfT; exact q
theorem asB_bl {k : Bool} (q : B k H) : asB (.bl k) H B := by unfold asB; exact ⟨k, rfl, q⟩
theorem g_ct (q : ta σ H fun x H1 => asB x H1 B) : xCt ta σ H B := by unfold xCt; exact q
theorem g_tr (q : ta σ H fun x H1 => tru K x H1 B) : xTr K ta σ H B := by unfold xTr; exact q
theorem tru_bl {k : Bool} (q : B k H) : tru K (.bl k) H B := by unfold tru; exact ⟨k, rfl, q⟩
theorem tru_non (q : B false H) : tru K .non H B := by unfold tru; exact ⟨false, rfl, q⟩
theorem tru_int {n : Int} (q : B (n != 0) H) : tru K (.int n) H B := by unfold tru; exact ⟨_, rfl, q⟩
theorem tru_str {z : Str} (l : z.length ≤ sizeLine) (q : B ((z.length : Int) != 0) H) : tru K (.str z) H B := by unfold tru; exact ⟨_, ⟨l, rfl⟩, q⟩
theorem tru_lst {p : Addr} {xs : List V} (h : SqL K H p xs) (q : B (!xs.isEmpty) H) : tru K (.ref p) H B := by unfold tru; exact ⟨_, .inl ⟨xs, h, rfl⟩, q⟩
theorem tru_tup {p : Addr} {xs : List V} (h : SqT K H p xs) (q : B (!xs.isEmpty) H) : tru K (.ref p) H B := by unfold tru; exact ⟨_, .inr (.inl ⟨xs, h, rfl⟩), q⟩
theorem tru_dct {p : Addr} {kvs : List (Key × V)} (h : H p = some (.dK kvs)) (q : B (!kvs.isEmpty) H) : tru K (.ref p) H B := by unfold tru; exact ⟨_, .inr (.inr ⟨kvs, h, rfl⟩), q⟩
theorem g_and (q : t σ H fun c H1 => br c (u σ H1 B) (B false H1)) : xAnd t u σ H B := by unfold xAnd; exact q
theorem g_or (q : t σ H fun c H1 => br c (B true H1) (u σ H1 B)) : xOr t u σ H B := by unfold xOr; exact q
theorem g_not (q : t σ H fun c H1 => B (!c) H1) : xNot t σ H B := by unfold xNot; exact q
end

/-! ### expressions: rules -/
section
variable {X : Cx} {a b c e : Expr} {es : List Expr} {ta tb te : TE} {t u : TT} {tr : TA} {pos : Pos} {W : WX}
theorem px_var (i : Nat) {x : Str} {pos : Pos} (hN : X.N[i]? = some x := by rfl) (hv : Vis X.env.scope x := by first | exact Or.inl rfl | exact Or.inr (Or.inl rfl) | exact Or.inr (Or.inr rfl))
    (hd : (x == ("__debug__" : Str)) = false := by decide) (hcd : (x == ("__classdict__" : Str)) = false := by decide) : PE X (.Name x pos) (xVar i) := by
  unfold xVar; exact pe_var hN hv hd hcd
theorem px_int {i j pos} : PE X (.Constant (.int i) j pos) (xC (.int i)) := by unfold xC; exact pe_int
theorem px_bl {i j pos} : PE X (.Constant (.bool i) j pos) (xC (.bl i)) := by unfold xC; exact pe_bl
theorem px_non {j pos} : PE X (.Constant .none j pos) (xC .non) := by unfold xC; exact pe_non
theorem px_str {x j pos} : PE X (.Constant (.str x) j pos) (xC (.str x)) := by unfold xC; exact pe_str
theorem px_glob {x : Str} {v : V} {pos : Pos} (hm : ∃ u, X.mg x = some u ∧ RelV v u) (hg : Gl X x := by rfl) (hd : (x == ("__debug__" : Str)) = false := by decide) : PE X (.Name x pos) (xC v) := by
  obtain ⟨u, h, r⟩ := hm
  unfold xC; exact pe_glob hg h r hd
/-- a built-in class as a value -/
theorem px_ty {x : Str} {n : String} {pos : Pos} (hm : X.mg x = none) (hv : bootBuiltins x = some (.type n) := by decide +kernel) (hg : Gl X x := by rfl) (hn : x ≠ "__name__" := by decide) (hd : (x == ("__debug__" : Str)) = false := by decide) :
    PE X (.Name x pos) (xC (.ty n)) := by unfold xC; exact pe_bltn hg hm hv rfl hn hd
theorem px_op {op : Operator} {r : R2} (ho : OpR X (binaryOp op) r) (ha : PE X a ta) (hb : PE X b tb) : PE X (.BinOp a op b pos) (xOp r ta tb) := by unfold xOp; exact pe_op ho ha hb
theorem px_un {op : UnaryOp} {r : V → Hp → VK → Prop} (ho : UnR X (unaryOp op) r) (ha : PE X a ta) : PE X (.UnaryOp op a pos) (xUn r ta) := by unfold xUn; exact pe_un ho ha
theorem px_cmp {op : CmpOp} {r : R2} (ho : OpR X (compareOp op) r) (ha : PE X a ta) (hb : PE X b tb) (hm : behindInMarks op b = false := by first | exact nomark _ | rfl) : PE X (.Compare a [op] [b] pos) (xOp r ta tb) := by unfold xOp; exact pe_cmpR ho ha hb hm
theorem pc_cmp {op : CmpOp} {r : R2} (ho : OpR X (compareOp op) r) (ha : PE X a ta) (hb : PE X b tb) (hm : behindInMarks op b = false := by first | exact nomark _ | rfl) : PT X (.Compare a [op] [b] pos) (xCt (xOp r ta tb)) := by
  refine ⟨fun pins s σ H Q I h => (pt_cmpR ho ha hb hm).run pins s σ H Q I ?_⟩
  unfold xCt xOp at h
  exact Eq.mp (by unfold asB; rfl) h
theorem pq_nil : PA X [] xNil := by unfold xNil; exact pa_nil
theorem pq_cons (ha : PE X e te) (hr : PA X es tr) (hs : starEach (e :: es) X.env = (false, eval e X.env) :: starEach es X.env := by rfl) : PA X (e :: es) (xCons te tr) := by unfold xCons; exact pa_cons ha hr hs
theorem px_tup {k} (h : PA X es tr) : PE X (.Tuple es k pos) (xTup tr) := by unfold xTup; exact pe_tup h
theorem px_lst (h : PA X es tr) : PE X (.List es pos) (xLst tr) := by unfold xLst; exact pe_lst h
theorem px_sl {r : V → Option Int → Option Int → Hp → VK → Prop} {lo hi : Option Expr} {tl th : TO} {p2 : Pos} (hr : SlR X r) (he : PE X e te) (hl : PO X lo tl) (hu : PO X hi th) : PE X (.Subscript e (.Slice lo hi none p2) pos) (xSl r te tl th) := by
  unfold xSl; exact pe_slice hr he hl hu
theorem po_no : PO X none xNo := by unfold xNo; exact po_none
theorem po_at (h : PE X e te) : PO X (some e) (xPart te) := by unfold xPart; exact po_some h
theorem px_ix {r : R2} (hr : IxR X r) (ha : PE X a ta) (hb : PE X b tb) (hs : PlainIx b := by exact fun _ _ => rfl) : PE X (.Subscript a b pos) (xOp r ta tb) := by unfold xOp; exact pe_ix hr ha hb hs
theorem px_if {c : Expr} (hc : PT X c t) (ha : PE X a ta) (hb : PE X b tb) : PE X (.IfExp c a b pos) (xIfE t ta tb) := by
  refine ⟨fun pins s σ H Q I h => (pe_ifExp hc ha hb).run pins s σ H Q I ?_⟩
  unfold xIfE at h
  exact Eq.mp (by unfold br; rfl) h
theorem pt_tr (ha : PE X a ta) (he : ∀ whole, isTrue a X.env whole = (do let v ← whole; standAt a.pos; holding [v] (truthy v)) := by intro _; rfl) : PT X a (xTr X.K ta) := by
  refine ⟨fun pins s σ H Q I h => (pt_truth ha he).run pins s σ H Q I ?_⟩
  unfold xTr at h
  exact Eq.mp (by unfold tru; rfl) h
theorem pw_one {op} (ha : PT X a t) (h : op = .And ∨ op = .Or := by first | exact Or.inl rfl | exact Or.inr rfl) : PW X (.BoolOp op [a] pos) t := by
  rcases h with e | e
  · subst e; exact pw_and1 ha
  · subst e; exact pw_or1 ha
theorem pw_both {rest : List Expr} (ha : PT X a t) (hb : PW X (.BoolOp .And (b :: rest) pos) u) : PW X (.BoolOp .And (a :: b :: rest) pos) (xAnd t u) := by
  refine ⟨fun wh pins s σ H Q I h => (pw_and ha hb).run wh pins s σ H Q I ?_⟩
  unfold xAnd at h
  exact Eq.mp (by unfold br; rfl) h
theorem pw_any {rest : List Expr} (ha : PT X a t) (hb : PW X (.BoolOp .Or (b :: rest) pos) u) : PW X (.BoolOp .Or (a :: b :: rest) pos) (xOr t u) := by
  refine ⟨fun wh pins s σ H Q I h => (pw_or ha hb).run wh pins s σ H Q I ?_⟩
  unfold xOr at h
  exact Eq.mp (by unfold br; rfl) h
theorem pt_no (ha : PT X a t) : PT X (.UnaryOp .Not a pos) (xNot t) := by unfold xNot; exact pt_not ha
theorem px_fld {f : Str} (he : PE X e te) (hb : attributeBase e f X.env (eval e X.env) = eval e X.env := by rfl) : PE X (.Attribute e f pos) (xFld X.K te f) := by
  refine ⟨fun pins s σ H Q I h => ?_⟩
  unfold xFld at h
  refine attr_of hb (thn (he.run pins s σ H _ I h) fun w s1 hh => ?_)
  obtain ⟨x, H1, I1, rx, q⟩ := hh
  unfold fldR at q
  rcases q with ⟨p, C, dx, fs, y, ex, h1, c, n, l, q⟩ | ⟨p, D, d, fs, y, ex, h1, hd, T, n, l, q⟩
  · subst ex
    obtain rfl : w = Value.ref p := rx
    exact getattr_ok I1 h1 c n l fun w2 s2 I2 r2 => ⟨y, H1, I2, r2, q⟩
  · subst ex
    obtain rfl : w = Value.ref p := rx
    obtain ⟨oe, vs, ha, hz, hf⟩ := exk_at I1.hok h1
    obtain ⟨mA, hns, hr⟩ := (show ObjOk X.prog X.w H1 s1.heap d (.xd fs) from I1.hok d _ hd)
    obtain ⟨od, ho, hl⟩ := lookIn_ns hns
    obtain ⟨w2, hw, rw2⟩ := RelO.some_of (v := y) (o := mA f) (by rw [← l]; exact hr f)
    have no : PySem.W.notCls oe = true := by
      unfold PySem.W.notCls
      rw [hf] <;> rfl
    have J : PySem.W.InstAt s1.heap p oe D (some od) := ⟨ha, hz.1, no, by rw [hz.2]; exact ho⟩
    exact HandSPX.exc_get I1.kIn J T.ga T.gg T.exC (PySem.W.findObj_own T.hdC n rfl (by rw [hl, hw])) (handed_of rw2) ⟨y, H1, I1.tok _, rw2, q⟩
/-- a built-in, called by its name -/
theorem px_bi {x : Str} {n : String} {r : List V → Hp → VK → Prop} {p : Pos} (hr : CallR X (.builtin n) r) (hm : X.mg x = none) (ha : PA X (e :: es) tr) (hv : bootBuiltins x = some (.builtin n) := by decide +kernel) (hg : Gl X x := by rfl) (hn : x ≠ "__name__" := by decide) (hdb : (x == ("__debug__" : Str)) = false := by decide)
    (he : starEach (e :: es) X.env = (false, eval e X.env) :: starEach es X.env := by rfl) (hpl : (backTo pos (starEach es X.env)).any (·.1) = false := by rfl) :
    PE X (.Call (.Name x p) (e :: es) [] pos) (xFn r tr) := by unfold xFn; exact pe_callB hr hg hm hv ha hn hdb he hpl
theorem px_bt {x : Str} {n : String} {r : List V → Hp → VK → Prop} {p : Pos} (hr : CallR X (.type n) r) (hm : X.mg x = none) (ha : PA X (e :: es) tr) (hv : bootBuiltins x = some (.type n) := by decide +kernel) (hg : Gl X x := by rfl) (hn : x ≠ "__name__" := by decide) (hdb : (x == ("__debug__" : Str)) = false := by decide)
    (he : starEach (e :: es) X.env = (false, eval e X.env) :: starEach es X.env := by rfl) (hpl : (backTo pos (starEach es X.env)).any (·.1) = false := by rfl) :
    PE X (.Call (.Name x p) (e :: es) [] pos) (xFn r tr) := by unfold xFn; exact pe_callTy hr hg hm hv ha hn hdb he hpl
end
end CL
end

section
set_option Elab.async false
set_option linter.all false
set_option maxRecDepth 100000
set_option maxHeartbeats 4000000
/-! CLs: rules for values of any kind; statements with closed heads; calls. -/
namespace CL
open PySem PySem.Spec PyProof.Rows L2

/-! ### operators -/
section
variable {X : Cx}
def CPowW (i j : Int) : Prop := 0 ≤ j ∧ (Builtin.Int.intBits i : Int) * j ≤ 2 ^ 27
theorem op_powW : OpR X (binaryOp .Pow) (rI CPowW fun i j => .int (i ^ j.toNat)) := opI fun _ _ _ _ _ _ _ hc q => pow_int hc.1 hc.2 q
end
@[irreducible] def uAdd (K : PySem.W.Frag) : R2 := fun x y H Q => rI0 (fun i j => .int (i + j)) x y H Q ∨ (∃ i j, x = .str i ∧ y = .str j ∧ i.length + j.length ≤ sizeLine ∧ Q (.str (i ++ j)) H) ∨ rCat x y H Q ∨ rCatA K x y H Q
@[irreducible] def uSub : R2 := rI0 fun i j => .int (i - j)
@[irreducible] def uMul : R2 := fun x y H Q => rI CMulW (fun i j => .int (i * j)) x y H Q ∨ rRep x y H Q
@[irreducible] def uMod : R2 := rI (fun _ j => j ≠ 0) fun i j => .int (i.fmod j)
@[irreducible] def uDiv : R2 := rI CDivW fun i j => .int (i / j)
@[irreducible] def uPow : R2 := rI CPowW fun i j => .int (i ^ j.toNat)
/-- a list against the empty list -/
def rEqE (K : PySem.W.Frag) : R2 := fun x y H Q => ∃ a b xs, x = .ref a ∧ y = .ref b ∧ SqL K H a xs ∧ H b = some (.lst []) ∧ Q (.bl xs.isEmpty) H
def rNeE (K : PySem.W.Frag) : R2 := fun x y H Q => ∃ a b xs, x = .ref a ∧ y = .ref b ∧ SqL K H a xs ∧ H b = some (.lst []) ∧ Q (.bl (!xs.isEmpty)) H
section
variable {X : Cx}
theorem op_eqE (hu : X.A.units + 64 < cLine) : OpR X (compareOp .Eq) (rEqE X.K) := by
  intro pins s σ H x y v u Q I rx ry h
  obtain ⟨a, b, xs, rfl, rfl, ha, hb, q⟩ := h
  obtain rfl : v = Value.ref a := rx
  obtain rfl : u = Value.ref b := ry
  obtain ⟨its, r1, p1, _⟩ := I.list ha
  obtain ⟨_, r2, p2, _⟩ := I.list (SqL.of hb)
  cases r2
  have l1 := r1.length
  cases xs with
  | nil =>
    cases r1
    exact PySem.SeqAt.RcAt.lists p1.isList p2.isList rfl (by omega) (e := fun _ => true) (fun j h1 _ => absurd h1 (by simp)) X.prog X.w X.xe _ ⟨.bl true, H, I, rfl, q⟩
  | cons x0 xr => exact PySem.SeqAt.RcAt.lists_lengths p1.isList p2.isList (by rw [List.size_toArray, ← l1]; simp) (by omega) X.prog X.w X.xe _ ⟨.bl false, H, I, rfl, q⟩
theorem op_neE (hu : X.A.units + 64 < cLine) : OpR X (compareOp .NotEq) (rNeE X.K) := by
  intro pins s σ H x y v u Q I rx ry h
  obtain ⟨a, b, xs, rfl, rfl, ha, hb, q⟩ := h
  obtain rfl : v = Value.ref a := rx
  obtain rfl : u = Value.ref b := ry
  obtain ⟨its, r1, p1, _⟩ := I.list ha
  obtain ⟨_, r2, p2, _⟩ := I.list (SqL.of hb)
  cases r2
  have l1 := r1.length
  cases xs with
  | nil =>
    cases r1
    exact PySem.SeqAt.RcNeAt.lists p1.isList p2.isList rfl (by omega) (e := fun _ => true) (fun j h1 _ => absurd h1 (by simp)) X.prog X.w X.xe _ ⟨.bl false, H, I, rfl, q⟩
  | cons x0 xr => exact PySem.SeqAt.RcNeAt.lists_lengths p1.isList p2.isList (by rw [List.size_toArray, ← l1]; simp) (by omega) X.prog X.w X.xe _ ⟨.bl true, H, I, rfl, q⟩
end
@[irreducible] def uEq (K : PySem.W.Frag) : R2 := fun x y H Q => rEq x y H Q ∨ rEqD K x y H Q ∨ rEqE K x y H Q
@[irreducible] def uNe (K : PySem.W.Frag) : R2 := fun x y H Q => rNe x y H Q ∨ rNeD K x y H Q ∨ rNeE K x y H Q
@[irreducible] def uLt : R2 := fun x y H Q => rI0 (fun i j => .bl (decide (i < j))) x y H Q ∨ ∃ i j, x = .str i ∧ y = .str j ∧ Q (.bl (decide (i.cps.toList < j.cps.toList))) H
@[irreducible] def uLe : R2 := fun x y H Q => rI0 (fun i j => .bl (decide (i ≤ j))) x y H Q ∨ ∃ i j, x = .str i ∧ y = .str j ∧ Q (.bl (!decide (j.cps.toList < i.cps.toList))) H
@[irreducible] def uGt : R2 := rI0 fun i j => .bl (decide (j < i))
@[irreducible] def uGe : R2 := rI0 fun i j => .bl (decide (j ≤ i))
@[irreducible] def uIs : R2 := fun x y H Q => y = .non ∧ Q (.bl (decide (x = .non))) H
@[irreducible] def uIsNot : R2 := fun x y H Q => y = .non ∧ Q (.bl (!decide (x = .non))) H
/-- what stands in a dict of the written part -/
def KDAt (K : PySem.W.Frag) (w : World) (d : Addr) (z : Str) (r : Option V) : Prop := ∃ es n, KDict K w d es n ∧ ∃ u, PySem.W.nsIn K d z = some u ∧ RelO r u
/-- in, by the answer -/
def inR (K : PySem.W.Frag) (w : World) (x y : V) (H : Hp) (b : Bool) : Prop :=
  (∃ i j, x = .str i ∧ y = .str j ∧ b = (!(Builtin.Str.occurrences j i 0 j.length 1).isEmpty)) ∨ (∃ (c : Nat) (z : Str), x = .str ⟨#[c]⟩ ∧ y = .str z ∧ b = decide (c ∈ z.cps.toList)) ∨
  (∃ p xs, y = .ref p ∧ (SqL K H p xs ∨ SqT K H p xs) ∧ flatV x = true ∧ xs.all flatV = true ∧ b = inV x xs) ∨ (∃ a o, y = .ref a ∧ DGet H a x o ∧ b = o.isSome) ∨ ∃ d z r, x = .str z ∧ y = .ref d ∧ KDAt K w d z r ∧ b = r.isSome
@[irreducible] def uIn (K : PySem.W.Frag) (w : World) : R2 := fun x y H Q => ∃ b, inR K w x y H b ∧ Q (.bl b) H
@[irreducible] def uNotIn (K : PySem.W.Frag) (w : World) : R2 := fun x y H Q => ∃ b, inR K w x y H b ∧ Q (.bl (!b)) H
/-- o[i] -/
@[irreducible] def uIx (K : PySem.W.Frag) (w : World) : R2 := fun x y H Q => rIx K x y H Q ∨ (∃ a v, x = .ref a ∧ DGet H a y (some v) ∧ Q v H) ∨ ∃ d z v, x = .ref d ∧ y = .str z ∧ KDAt K w d z (some v) ∧ Q v H
@[irreducible] def uSl (K : PySem.W.Frag) : V → Option Int → Option Int → Hp → VK → Prop := fun x lo hi H Q => rSlL K x lo hi H Q ∨ rSlA K x lo hi H Q ∨ rSlS x lo hi H Q
section
variable {X : Cx}
theorem u_add : OpR X (binaryOp .Add) (uAdd X.K) := by unfold uAdd; exact op_add.or (op_add_str.or (op_cat.or op_catA))
theorem u_sub : OpR X (binaryOp .Sub) uSub := by unfold uSub; exact op_sub
theorem u_mul : OpR X (binaryOp .Mult) uMul := by unfold uMul; exact op_mulW.or op_rep
theorem u_mod : OpR X (binaryOp .Mod) uMod := by unfold uMod; exact op_modN
theorem u_div : OpR X (binaryOp .FloorDiv) uDiv := by unfold uDiv; exact op_fdivW
theorem u_pow : OpR X (binaryOp .Pow) uPow := by unfold uPow; exact op_powW
theorem u_eq (hu : X.A.units + 64 < cLine) : OpR X (compareOp .Eq) (uEq X.K) := by unfold uEq; exact op_eq.or ((op_eqD hu).or (op_eqE hu))
theorem u_ne (hu : X.A.units + 64 < cLine) : OpR X (compareOp .NotEq) (uNe X.K) := by unfold uNe; exact op_ne.or ((op_neD hu).or (op_neE hu))
theorem u_lt : OpR X (compareOp .Lt) uLt := by unfold uLt; exact op_lt.or op_lt_str
theorem u_le : OpR X (compareOp .LtE) uLe := by unfold uLe; exact op_le.or op_le_str
theorem u_gt : OpR X (compareOp .Gt) uGt := by unfold uGt; exact op_gt
theorem u_ge : OpR X (compareOp .GtE) uGe := by unfold uGe; exact op_ge
theorem u_is : OpR X (compareOp .Is) uIs := by unfold uIs; exact op_isN
theorem u_isnot : OpR X (compareOp .IsNot) uIsNot := by unfold uIsNot; exact op_notN
theorem u_in (hu : X.A.units + 1 < cLine) : OpR X (compareOp .In) (uIn X.K X.w) := by
  intro pins s σ H x y v u Q I rx ry h
  unfold uIn at h
  obtain ⟨b, hb, q⟩ := h
  rcases hb with ⟨i, j, rfl, rfl, rfl⟩ | ⟨c, z, rfl, rfl, rfl⟩ | ⟨p, xs, rfl, hs, f1, f2, rfl⟩ | ⟨a, o, rfl, g, rfl⟩ | ⟨d, z, r, rfl, rfl, ⟨es, n, D, w', e, ro⟩, rfl⟩
  · exact op_in_str pins s σ H _ _ v u Q I rx ry ⟨i, j, rfl, rfl, q⟩
  · exact op_in_sign pins s σ H _ _ v u Q I rx ry ⟨c, z, rfl, rfl, q⟩
  · exact op_in_seq pins s σ H _ _ v u Q I rx ry ⟨p, xs, rfl, hs, f1, f2, q⟩
  · obtain rfl : u = Value.ref a := ry
    exact d_in hu I g rx fun s2 I2 => ⟨.bl o.isSome, H, I2, rfl, q⟩
  · refine op_in_kd D pins s σ H _ _ v u Q I rx ry ⟨z, w', rfl, rfl, e, ?_⟩
    rw [← ro.isSome_eq]
    exact q
theorem u_notin (hu : X.A.units + 1 < cLine) : OpR X (compareOp .NotIn) (uNotIn X.K X.w) := by
  intro pins s σ H x y v u Q I rx ry h
  unfold uNotIn at h
  obtain ⟨b, hb, q⟩ := h
  rcases hb with ⟨i, j, rfl, rfl, rfl⟩ | ⟨c, z, rfl, rfl, rfl⟩ | ⟨p, xs, rfl, hs, f1, f2, rfl⟩ | ⟨a, o, rfl, g, rfl⟩ | ⟨d, z, r, rfl, rfl, ⟨es, n, D, w', e, ro⟩, rfl⟩
  · exact op_notin_str pins s σ H _ _ v u Q I rx ry ⟨i, j, rfl, rfl, q⟩
  · exact op_notIn_sign pins s σ H _ _ v u Q I rx ry ⟨c, z, rfl, rfl, q⟩
  · exact op_notIn_seq pins s σ H _ _ v u Q I rx ry ⟨p, xs, rfl, hs, f1, f2, q⟩
  · obtain rfl : u = Value.ref a := ry
    exact d_notIn hu I g rx fun s2 I2 => ⟨.bl (!o.isSome), H, I2, rfl, q⟩
  · refine op_notIn_kd D pins s σ H _ _ v u Q I rx ry ⟨z, w', rfl, rfl, e, ?_⟩
    rw [← ro.isSome_eq]
    exact q
theorem u_ix (hu : X.A.units + 1 < cLine) : IxR X (uIx X.K X.w) := by
  intro value slice pins s σ H x y v u Q I rx ry h hs
  unfold uIx at h
  rcases h with h | ⟨a, v0, rfl, g, q⟩ | ⟨d, z, v0, rfl, rfl, ⟨es, n, D, w', e, ro⟩, q⟩
  · exact ix_seq value slice pins s σ H x y v u Q I rx ry h hs
  · obtain rfl : v = Value.ref a := rx
    exact tail_any (dict_typeIs I g) slot_dict_getitem.lookup (d_getItem hu I g ry fun w2 s2 I2 r2 => ⟨v0, H, I2, r2, q⟩) hs
  · obtain ⟨u0, rfl, ru⟩ := RelO.some_of ro
    obtain rfl : v = Value.ref d := rx
    obtain ⟨t, rfl⟩ := (show ∃ t, u = Value.str z t from ry)
    have hm := PySem.W.mapOf_K (prog := X.prog) (w := X.w) I.kIn D.at_ D.lit
    exact tail_any hm.typeIs slot_dict_getitem.lookup (wpAny_getItem_of (strKind_is X.prog X.w z t) hm (PySem.W.find_K D.at_ e) ⟨v0, H, I.tok _, ru, q⟩) hs
theorem u_sl : SlR X (uSl X.K) := by unfold uSl; exact sl_list.or (sl_tupA.or sl_str)
end
section
variable {K : PySem.W.Frag} {w : World} {H : Hp} {Q : VK} {i j : Int} {z z' : Str} {a b : Addr} {xs ys : List V} {k : Bool} {x y v : V}
theorem uAdd_i (q : Q (.int (i + j)) H) : uAdd K (.int i) (.int j) H Q := by unfold uAdd; exact .inl ⟨i, j, rfl, rfl, q⟩
theorem uAdd_s (l : z.length + z'.length ≤ sizeLine) (q : Q (.str (z ++ z')) H) : uAdd K (.str z) (.str z') H Q := by unfold uAdd; exact .inr (.inl ⟨z, z', rfl, rfl, l, q⟩)
theorem uAdd_l (h1 : H a = some (.lst xs)) (h2 : H b = some (.lst ys)) (l : xs.length + ys.length ≤ sizeLine) (q : ∀ p, H p = none → Q (.ref p) (upd H p (.lst (xs ++ ys)))) : uAdd K (.ref a) (.ref b) H Q := by
  unfold uAdd; exact .inr (.inr (.inl ⟨a, b, xs, ys, rfl, rfl, h1, h2, l, q⟩))
theorem uSub_i (q : Q (.int (i - j)) H) : uSub (.int i) (.int j) H Q := by unfold uSub; exact ⟨i, j, rfl, rfl, q⟩
theorem uMul_i (c : CMulW i j) (q : Q (.int (i * j)) H) : uMul (.int i) (.int j) H Q := by unfold uMul; exact .inl ⟨i, j, rfl, rfl, c, q⟩
theorem uMod_i (c : 0 < j) (q : Q (.int (i % j)) H) : uMod (.int i) (.int j) H Q := by
  unfold uMod
  refine ⟨i, j, rfl, rfl, by omega, ?_⟩
  show Q (.int (i.fmod j)) H
  rw [Int.fmod_eq_emod_of_nonneg i (by omega)]
  exact q
theorem uDiv_i (c : CDivW i j) (q : Q (.int (i / j)) H) : uDiv (.int i) (.int j) H Q := by unfold uDiv; exact ⟨i, j, rfl, rfl, c, q⟩
theorem uPow_i (c : CPowW i j) (q : Q (.int (i ^ j.toNat)) H) : uPow (.int i) (.int j) H Q := by unfold uPow; exact ⟨i, j, rfl, rfl, c, q⟩
theorem uEq_i (q : Q (.bl (decide (i = j))) H) : uEq K (.int i) (.int j) H Q := by
  unfold uEq; exact .inl ⟨rfl, by rw [dec_int, Bool.beq_eq_decide_eq]; exact q⟩
theorem uEq_s (q : Q (.bl (decide (z = z'))) H) : uEq K (.str z) (.str z') H Q := by
  unfold uEq; exact .inl ⟨rfl, by rw [dec_str, Bool.beq_eq_decide_eq]; exact q⟩
theorem uEq_v (c : scal x y = true) (q : Q (.bl (decide (x = y))) H) : uEq K x y H Q := by unfold uEq; exact .inl ⟨c, q⟩
theorem uEq_d {d e : PyData} (h1 : Dp K H x d) (h2 : Dp K H y e) (s1 : SeqAt.shaped d = true) (s2 : SeqAt.shaped e = true) (q : Q (.bl (PyData.eqv d e)) H) : uEq K x y H Q := by unfold uEq; exact .inr (.inl ⟨d, e, h1, h2, s1, s2, q⟩)
theorem uNe_i (q : Q (.bl (!decide (i = j))) H) : uNe K (.int i) (.int j) H Q := by
  unfold uNe; exact .inl ⟨rfl, by rw [dec_int, Bool.beq_eq_decide_eq]; exact q⟩
theorem uNe_s (q : Q (.bl (!decide (z = z'))) H) : uNe K (.str z) (.str z') H Q := by
  unfold uNe; exact .inl ⟨rfl, by rw [dec_str, Bool.beq_eq_decide_eq]; exact q⟩
theorem uNe_v (c : scal x y = true) (q : Q (.bl (!decide (x = y))) H) : uNe K x y H Q := by unfold uNe; exact .inl ⟨c, q⟩
theorem uNe_d {d e : PyData} (h1 : Dp K H x d) (h2 : Dp K H y e) (s1 : SeqAt.shaped d = true) (s2 : SeqAt.shaped e = true) (q : Q (.bl (!PyData.eqv d e)) H) : uNe K x y H Q := by unfold uNe; exact .inr (.inl ⟨d, e, h1, h2, s1, s2, q⟩)
theorem uNe_e (h : SqL K H a xs) (hb : H b = some (.lst [])) (q : Q (.bl (!xs.isEmpty)) H) : uNe K (.ref a) (.ref b) H Q := by unfold uNe; exact .inr (.inr ⟨a, b, xs, rfl, rfl, h, hb, q⟩)
theorem uEq_e (h : SqL K H a xs) (hb : H b = some (.lst [])) (q : Q (.bl xs.isEmpty) H) : uEq K (.ref a) (.ref b) H Q := by unfold uEq; exact .inr (.inr ⟨a, b, xs, rfl, rfl, h, hb, q⟩)
theorem uLt_i (q : Q (.bl (decide (i < j))) H) : uLt (.int i) (.int j) H Q := by unfold uLt; exact .inl ⟨i, j, rfl, rfl, q⟩
theorem uLt_s (q : Q (.bl (decide (z.cps.toList < z'.cps.toList))) H) : uLt (.str z) (.str z') H Q := by unfold uLt; exact .inr ⟨z, z', rfl, rfl, q⟩
theorem uLe_i (q : Q (.bl (decide (i ≤ j))) H) : uLe (.int i) (.int j) H Q := by unfold uLe; exact .inl ⟨i, j, rfl, rfl, q⟩
theorem uLe_s (q : Q (.bl (!decide (z'.cps.toList < z.cps.toList))) H) : uLe (.str z) (.str z') H Q := by unfold uLe; exact .inr ⟨z, z', rfl, rfl, q⟩
theorem uGt_i (q : Q (.bl (decide (j < i))) H) : uGt (.int i) (.int j) H Q := by unfold uGt; exact ⟨i, j, rfl, rfl, q⟩
theorem uGe_i (q : Q (.bl (decide (j ≤ i))) H) : uGe (.int i) (.int j) H Q := by unfold uGe; exact ⟨i, j, rfl, rfl, q⟩
theorem uIs_n (q : Q (.bl (decide (x = .non))) H) : uIs x .non H Q := by unfold uIs; exact ⟨rfl, q⟩
theorem uIsNot_n (q : Q (.bl (!decide (x = .non))) H) : uIsNot x .non H Q := by unfold uIsNot; exact ⟨rfl, q⟩
theorem uIn_c {c : Nat} (q : Q (.bl (decide (c ∈ z.cps.toList))) H) : uIn K w (.str ⟨#[c]⟩) (.str z) H Q := by unfold uIn; exact ⟨_, .inr (.inl ⟨c, z, rfl, rfl, rfl⟩), q⟩
theorem uNotIn_c {c : Nat} (q : Q (.bl (!decide (c ∈ z.cps.toList))) H) : uNotIn K w (.str ⟨#[c]⟩) (.str z) H Q := by unfold uNotIn; exact ⟨_, .inr (.inl ⟨c, z, rfl, rfl, rfl⟩), q⟩
theorem uIn_q (h : SqL K H a xs ∨ SqT K H a xs) (f1 : flatV x = true) (f2 : xs.all flatV = true) (q : Q (.bl (inV x xs)) H) : uIn K w x (.ref a) H Q := by unfold uIn; exact ⟨_, .inr (.inr (.inl ⟨a, xs, rfl, h, f1, f2, rfl⟩)), q⟩
theorem uNotIn_q (h : SqL K H a xs ∨ SqT K H a xs) (f1 : flatV x = true) (f2 : xs.all flatV = true) (q : Q (.bl (!inV x xs)) H) : uNotIn K w x (.ref a) H Q := by unfold uNotIn; exact ⟨_, .inr (.inr (.inl ⟨a, xs, rfl, h, f1, f2, rfl⟩)), q⟩
theorem uIn_d {o : Option V} (g : DGet H a x o) (q : Q (.bl o.isSome) H) : uIn K w x (.ref a) H Q := by unfold uIn; exact ⟨_, .inr (.inr (.inr (.inl ⟨a, o, rfl, g, rfl⟩))), q⟩
theorem uNotIn_d {o : Option V} (g : DGet H a x o) (q : Q (.bl (!o.isSome)) H) : uNotIn K w x (.ref a) H Q := by unfold uNotIn; exact ⟨_, .inr (.inr (.inr (.inl ⟨a, o, rfl, g, rfl⟩))), q⟩
theorem uIn_k {r : Option V} (g : KDAt K w a z r) (q : Q (.bl r.isSome) H) : uIn K w (.str z) (.ref a) H Q := by unfold uIn; exact ⟨_, .inr (.inr (.inr (.inr ⟨a, z, r, rfl, rfl, g, rfl⟩))), q⟩
theorem uNotIn_k {r : Option V} (g : KDAt K w a z r) (q : Q (.bl (!r.isSome)) H) : uNotIn K w (.str z) (.ref a) H Q := by unfold uNotIn; exact ⟨_, .inr (.inr (.inr (.inr ⟨a, z, r, rfl, rfl, g, rfl⟩))), q⟩
theorem uIx_l (h : SqL K H a xs) (e : atI xs i = some v) (q : Q v H) : uIx K w (.ref a) (.int i) H Q := by unfold uIx; exact .inl (.inl ⟨a, xs, i, v, rfl, rfl, h, e, q⟩)
theorem uIx_t (h : SqT K H a xs) (e : atI xs i = some v) (q : Q v H) : uIx K w (.ref a) (.int i) H Q := by unfold uIx; exact .inl (.inr (.inl ⟨a, xs, i, v, rfl, rfl, h, e, q⟩))
theorem uIx_s {c : Nat} (l : z.length ≤ sizeLine) (e : atI z.cps.toList i = some c) (q : Q (.str ⟨#[c]⟩) H) : uIx K w (.str z) (.int i) H Q := by unfold uIx; exact .inl (.inr (.inr ⟨z, i, c, rfl, rfl, l, e, q⟩))
theorem uIx_d (g : DGet H a y (some v)) (q : Q v H) : uIx K w (.ref a) y H Q := by unfold uIx; exact .inr (.inl ⟨a, v, rfl, g, q⟩)
theorem uIx_k (g : KDAt K w a z (some v)) (q : Q v H) : uIx K w (.ref a) (.str z) H Q := by unfold uIx; exact .inr (.inr ⟨a, z, v, rfl, rfl, g, q⟩)
theorem uSl_l {lo hi : Option Int} (h : SqL K H a xs) (q : ∀ p, H p = none → Q (.ref p) (upd H p (.lst (cutV xs lo hi)))) : uSl K (.ref a) lo hi H Q := by unfold uSl; exact .inl ⟨a, xs, rfl, h, q⟩
theorem uSl_s {lo hi : Option Int} (l : z.length ≤ sizeLine) (q : Q (.str (cutS z lo hi)) H) : uSl K (.str z) lo hi H Q := by unfold uSl; exact .inr (.inr ⟨z, rfl, l, q⟩)
end
end CL
end

section
set_option Elab.async false
set_option linter.all false
set_option maxRecDepth 100000
set_option maxHeartbeats 4000000
/-! CLt: statements with closed heads; loops; calls. -/
namespace CL
open PySem PySem.Spec PyProof.Rows L2

/-! ### ends -/
@[irreducible] def topE (Q : VK) : Ends := { nx := fun _ H => Q .non H, rt := Q }
@[irreducible] def seqE (D : Ends) (u : TS) : Ends := { D with nx := u D }
@[irreducible] def loopE (D : Ends) (N : L2.St → Hp → Prop) : Ends := { D with nx := N, ct := N, bk := D.nx }
@[irreducible] def dNx (D : Ends) (σ : L2.St) (H : Hp) : Prop := D.nx σ H
@[irreducible] def dRt (D : Ends) (v : V) (H : Hp) : Prop := D.rt v H
@[irreducible] def dBk (D : Ends) (σ : L2.St) (H : Hp) : Prop := D.bk σ H
@[irreducible] def dCt (D : Ends) (σ : L2.St) (H : Hp) : Prop := D.ct σ H
section
variable {D : Ends} {u : TS} {σ : L2.St} {H : Hp} {v : V} {Q : VK} {N : L2.St → Hp → Prop}
theorem nx_seq (h : u D σ H) : dNx (seqE D u) σ H := by unfold dNx seqE; exact h
theorem nx_loop (h : N σ H) : dNx (loopE D N) σ H := by unfold dNx loopE; exact h
theorem nx_top (h : Q .non H) : dNx (topE Q) σ H := by unfold dNx topE; exact h
theorem rt_seq (h : dRt D v H) : dRt (seqE D u) v H := by unfold dRt seqE; unfold dRt at h; exact h
theorem rt_loop (h : dRt D v H) : dRt (loopE D N) v H := by unfold dRt loopE; unfold dRt at h; exact h
theorem rt_top (h : Q v H) : dRt (topE Q) v H := by unfold dRt topE; exact h
theorem bk_seq (h : dBk D σ H) : dBk (seqE D u) σ H := by unfold dBk seqE; unfold dBk at h; exact h
theorem bk_loop (h : dNx D σ H) : dBk (loopE D N) σ H := by unfold dBk loopE; unfold dNx at h; exact h
theorem ct_seq (h : dCt D σ H) : dCt (seqE D u) σ H := by unfold dCt seqE; unfold dCt at h; exact h
theorem ct_loop (h : N σ H) : dCt (loopE D N) σ H := by unfold dCt loopE; exact h
end

/-! ### statements: heads -/
@[irreducible] def xEnd : TS := fun D σ H => dNx D σ H
@[irreducible] def xSeq (t u : TS) : TS := fun D σ H => t (seqE D u) σ H
@[irreducible] def xSet (i : Nat) (te : TE) : TS := fun D σ H => te σ H fun x H1 => dNx D (σ.set i (some x)) H1
@[irreducible] def unpR (K : PySem.W.Frag) (n : Nat) (x : V) (H : Hp) (R : List V → Prop) : Prop := ∃ a xs, x = .ref a ∧ (SqT K H a xs ∨ SqL K H a xs) ∧ xs.length = n ∧ R xs
@[irreducible] def xUnp2 (K : PySem.W.Frag) (i j : Nat) (te : TE) : TS := fun D σ H => te σ H fun x H1 => unpR K 2 x H1 fun xs => ∃ y z, xs = [y, z] ∧ dNx D ((σ.set i (some y)).set j (some z)) H1
@[irreducible] def putR (o i v : V) (H : Hp) (Q : Hp → Prop) : Prop := rSetL o i v H Q ∨ rSetD o i v H Q
@[irreducible] def xPut (to ti te : TE) : TS := fun D σ H => te σ H fun v H1 => to σ H1 fun o H2 => ti σ H2 fun i H3 => putR o i v H3 fun H4 => dNx D σ H4
@[irreducible] def xIf (c : TT) (t u : TS) : TS := fun D σ H => c σ H fun b H1 => br b (t D σ H1) (u D σ H1)
@[irreducible] def xRet (te : TE) : TS := fun D σ H => te σ H fun v H1 => dRt D v H1
@[irreducible] def xRetN : TS := fun D _ H => dRt D .non H
@[irreducible] def xDrop (te : TE) : TS := fun D σ H => te σ H fun _ H1 => dNx D σ H1
@[irreducible] def xBrk : TS := fun D σ H => dBk D σ H
@[irreducible] def xCnt : TS := fun D σ H => dCt D σ H
@[irreducible] def iAdd : R2 := fun x y H Q => rI0 (fun i j => .int (i + j)) x y H Q ∨ (∃ i j, x = .str i ∧ y = .str j ∧ i.length + j.length ≤ sizeLine ∧ Q (.str (i ++ j)) H) ∨ rExt2 x y H Q
@[irreducible] def xAug (i : Nat) (r : R2) (te : TE) : TS := fun D σ H => ∃ x, σ[i]? = some (some x) ∧ te σ H fun y H1 => r x y H1 fun z H2 => dNx D (σ.set i (some z)) H2
@[irreducible] def stoR (K : PySem.W.Frag) (f : Str) (x y : V) (H : Hp) (Q : Hp → Prop) : Prop := ∃ a C dx fs, x = .ref a ∧ H a = some (.ins C dx fs) ∧ Cls K C ∧ NoAttr K C f ∧ fs.length < 1000 ∧ Q (upd H a (.ins C dx (putF f y fs)))
@[irreducible] def xSto (K : PySem.W.Frag) (to : TE) (f : Str) (te : TE) : TS := fun D σ H => te σ H fun y H1 => to σ H1 fun x H2 => stoR K f x y H2 fun H3 => dNx D σ H3
@[irreducible] def insA (K : PySem.W.Frag) (f : Str) (x : V) (H : Hp) (R : V → Addr → Prop) : Prop := ∃ a C dx fs v, x = .ref a ∧ H a = some (.ins C dx fs) ∧ Cls K C ∧ NoAttr K C f ∧ fs.lookup f = some v ∧ R v a
@[irreducible] def xStoA (K : PySem.W.Frag) (to : TE) (f : Str) (r : R2) (te : TE) : TS := fun D σ H => to σ H fun x H1 => insA K f x H1 fun v a => te σ H1 fun y H2 => r v y H2 fun z H3 => stoR K f (.ref a) z H3 fun H4 => dNx D σ H4
@[irreducible] def forR (J : It) (g : TG) (tb : TS) (D : Ends) (σ : L2.St) (H1 : Hp) : Prop := ∃ Wt : Nat → Nat → L2.St → Hp → Prop, (∃ m, Wt 0 m σ H1) ∧ ∀ i m σ H, Wt i m σ H →
  (J.stop i H ∧ dNx D σ H) ∨ (J.go i H ∧ ∃ N : L2.St → Hp → Prop, (∀ σ' H', N σ' H' → ∃ m', m' < m ∧ Wt (i + 1) m' σ' H') ∧ ∀ x H', J.yld i H x H' → g x σ H' fun σ2 H2 => tb (loopE D N) σ2 H2)
@[irreducible] def xFor (wi : TI) (g : TG) (tb : TS) : TS := fun D σ H => wi σ H fun J H1 => forR J g tb D σ H1
@[irreducible] def whR (c : TT) (tb : TS) (D : Ends) (σ : L2.St) (H : Hp) : Prop := ∃ Wt : Nat → L2.St → Hp → Prop, (∃ m, Wt m σ H) ∧ ∀ m σ H, Wt m σ H →
  c σ H fun b H1 => br b (tb (loopE D fun σ' H' => ∃ m', m' < m ∧ Wt m' σ' H') σ H1) (dNx D σ H1)
@[irreducible] def xWh (c : TT) (tb : TS) : TS := fun D σ H => whR c tb D σ H
@[irreducible] def xRs (C : Addr) (W : WX) : TS := fun _ σ H => W (.ref C) none σ H
@[irreducible] def xRsX (C : Addr) (fs : List Str) (W : WX) (ta : TA) : TS := fun _ σ H => ta σ H fun ws H1 => ws.length = fs.length ∧ ∀ d, H1 d = none → W (.ref C) (some d) σ (upd H1 d (.xd (laid fs ws)))
/-- targets of a loop -/
@[irreducible] def xG (i : Nat) : TG := fun v σ H Q => Q (σ.set i (some v)) H
@[irreducible] def xG2 (K : PySem.W.Frag) (i j : Nat) : TG := fun v σ H Q => unpR K 2 v H fun xs => ∃ y z, xs = [y, z] ∧ Q ((σ.set i (some y)).set j (some z)) H
section
variable {D : Ends} {u t : TS} {σ : L2.St} {H : Hp} {v x y z : V} {Q : VK} {N : L2.St → Hp → Prop} {i j : Nat} {te to ti : TE} {c : TT} {K : PySem.W.Frag} {f : Str} {a dx C : Addr} {fs : List (Str × V)} {xs : List V} {r : R2} {G : Hp → Prop}
theorem g_end (h : dNx D σ H) : xEnd D σ H := by unfold xEnd; exact h
theorem g_seq (h : t (seqE D u) σ H) : xSeq t u D σ H := by unfold xSeq; exact h
theorem g_set (h : te σ H fun x H1 => dNx D (σ.set i (some x)) H1) : xSet i te D σ H := by unfold xSet; exact h
theorem g_unp2 (h : te σ H fun x H1 => unpR K 2 x H1 fun xs => ∃ y z, xs = [y, z] ∧ dNx D ((σ.set i (some y)).set j (some z)) H1) : xUnp2 K i j te D σ H := by unfold xUnp2; exact h
theorem unp2_t {R : List V → Prop} (h : SqT K H a [y, z]) (q : R [y, z]) : unpR K 2 (.ref a) H R := by unfold unpR; exact ⟨a, _, rfl, .inl h, rfl, q⟩
theorem unp2_l {R : List V → Prop} (h : SqL K H a [y, z]) (q : R [y, z]) : unpR K 2 (.ref a) H R := by unfold unpR; exact ⟨a, _, rfl, .inr h, rfl, q⟩
theorem g_put (h : te σ H fun v H1 => to σ H1 fun o H2 => ti σ H2 fun i H3 => putR o i v H3 fun H4 => dNx D σ H4) : xPut to ti te D σ H := by unfold xPut; exact h
theorem putR_l {k : Int} (h : H a = some (.lst xs)) (e : ixN xs.length k = some j) (q : G (upd H a (.lst (xs.set j v)))) : putR (.ref a) (.int k) v H G := by unfold putR; exact .inl ⟨a, xs, k, j, rfl, rfl, h, e, q⟩
theorem putR_d {kvs : List (Key × V)} {k : Key} {q : V} (eq : q = kV k) (h : H a = some (.dK kvs)) (l : kvs.length < sizeLine) (g : G (upd H a (.dK (putK kvs k v)))) : putR (.ref a) q v H G := by
  unfold putR; subst eq; exact .inr ⟨a, _, rfl, DPut.k h l, g⟩
theorem g_if (h : c σ H fun b H1 => br b (t D σ H1) (u D σ H1)) : xIf c t u D σ H := by unfold xIf; exact h
theorem g_ret (h : te σ H fun v H1 => dRt D v H1) : xRet te D σ H := by unfold xRet; exact h
theorem g_retN (h : dRt D .non H) : xRetN D σ H := by unfold xRetN; exact h
theorem g_drop (h : te σ H fun _ H1 => dNx D σ H1) : xDrop te D σ H := by unfold xDrop; exact h
theorem g_brk (h : dBk D σ H) : xBrk D σ H := by unfold xBrk; exact h
theorem g_cnt (h : dCt D σ H) : xCnt D σ H := by unfold xCnt; exact h
theorem iAdd_i {i j : Int} (q : Q (.int (i + j)) H) : iAdd (.int i) (.int j) H Q := by unfold iAdd; exact .inl ⟨i, j, rfl, rfl, q⟩
theorem iAdd_s {i j : Str} (l : i.length + j.length ≤ sizeLine) (q : Q (.str (i ++ j)) H) : iAdd (.str i) (.str j) H Q := by unfold iAdd; exact .inr (.inl ⟨i, j, rfl, rfl, l, q⟩)
theorem iAdd_l {b : Addr} {zs : List V} (h : H a = some (.lst xs)) (h2 : H b = some (.lst zs)) (l : xs.length + zs.length ≤ sizeLine) (q : Q (.ref a) (upd H a (.lst (xs ++ zs)))) : iAdd (.ref a) (.ref b) H Q := by
  unfold iAdd; exact .inr (.inr ⟨a, b, xs, zs, rfl, rfl, h, h2, l, q⟩)
theorem g_aug (e : σ[i]? = some (some x)) (h : te σ H fun y H1 => r x y H1 fun z H2 => dNx D (σ.set i (some z)) H2) : xAug i r te D σ H := by unfold xAug; exact ⟨x, e, h⟩
theorem g_sto (h : te σ H fun y H1 => to σ H1 fun x H2 => stoR K f x y H2 fun H3 => dNx D σ H3) : xSto K to f te D σ H := by unfold xSto; exact h
theorem stoR_i (h : H a = some (.ins C dx fs)) (c : Cls K C) (n : NoAttr K C f) (l : fs.length < 1000) (q : G (upd H a (.ins C dx (putF f y fs)))) : stoR K f (.ref a) y H G := by unfold stoR; exact ⟨a, C, dx, fs, rfl, h, c, n, l, q⟩
theorem g_stoA (h : to σ H fun x H1 => insA K f x H1 fun v a => te σ H1 fun y H2 => r v y H2 fun z H3 => stoR K f (.ref a) z H3 fun H4 => dNx D σ H4) : xStoA K to f r te D σ H := by unfold xStoA; exact h
theorem insA_i {R : V → Addr → Prop} (h : H a = some (.ins C dx fs)) (c : Cls K C) (n : NoAttr K C f) (l : fs.lookup f = some v) (q : R v a) : insA K f (.ref a) H R := by unfold insA; exact ⟨a, C, dx, fs, v, rfl, h, c, n, l, q⟩
theorem g_for {wi : TI} {g : TG} {tb : TS} (h : wi σ H fun J H1 => forR J g tb D σ H1) : xFor wi g tb D σ H := by unfold xFor; exact h
theorem g_wh {tb : TS} (h : whR c tb D σ H) : xWh c tb D σ H := by unfold xWh; exact h
theorem g_rs {W : WX} (h : W (.ref C) none σ H) : xRs C W D σ H := by unfold xRs; exact h
theorem g_rsX {gs : List Str} {W : WX} {ta : TA} (h : ta σ H fun ws H1 => ws.length = gs.length ∧ ∀ d, H1 d = none → W (.ref C) (some d) σ (upd H1 d (.xd (laid gs ws)))) : xRsX C gs W ta D σ H := by unfold xRsX; exact h
theorem g_g (h : N (σ.set i (some v)) H) : xG i v σ H N := by unfold xG; exact h
theorem g_g2 (h : unpR K 2 v H fun xs => ∃ y z, xs = [y, z] ∧ N ((σ.set i (some y)).set j (some z)) H) : xG2 K i j v σ H N := by unfold xG2; exact h
/-- a for over a walk: Pv by the turn -/
theorem for_w {J : It} {n : Nat} {Gd : Hp → Prop} {Y : Nat → Hp → V → Hp → Prop} (w : Walk J n Gd Y) {g : TG} {tb : TS} (Pv : Nat → L2.St → Hp → Prop) (h0 : Pv 0 σ H) (hG : ∀ i σ H, i ≤ n → Pv i σ H → Gd H)
    (hs : ∀ i x σ H H', i < n → Pv i σ H → Y i H x H' → g x σ H' fun σ2 H2 => tb (loopE D (Pv (i + 1))) σ2 H2) (hd : ∀ σ H, Pv n σ H → dNx D σ H) : forR J g tb D σ H := by
  unfold forR
  refine ⟨fun i m σ H => m = n - i ∧ i ≤ n ∧ Pv i σ H, ⟨n, by simp, Nat.zero_le _, h0⟩, ?_⟩
  rintro i m σ H ⟨rfl, hi, p⟩
  have q := hG i σ H hi p
  by_cases hlt : i < n
  · exact .inr ⟨w.goes i H hlt q, Pv (i + 1), fun σ' H' p' => ⟨n - (i + 1), by omega, rfl, hlt, p'⟩, fun x H' y => hs i x σ H H' hlt p (w.yields i H x H' hlt q y)⟩
  · have e : i = n := by omega
    subst e
    exact .inl ⟨w.stops H q, hd σ H p⟩
/-- a while: an invariant and its measure -/
theorem wh_m {tb : TS} (Wt : Nat → L2.St → Hp → Prop) (m : Nat) (h0 : Wt m σ H)
    (hs : ∀ m σ H, Wt m σ H → c σ H fun b H1 => br b (tb (loopE D fun σ' H' => ∃ m', m' < m ∧ Wt m' σ' H') σ H1) (dNx D σ H1)) : whR c tb D σ H := by
  unfold whR
  exact ⟨Wt, ⟨m, h0⟩, hs⟩
end

/-! ### a list comprehension over a walk -/
theorem lc_w {J : It} {n : Nat} {Gd : Hp → Prop} {Y : Nat → Hp → V → Hp → Prop} (w : Walk J n Gd Y) {g : TG} {tt : TT} {te : TE} {vs : List Nat} {σ : L2.St} {H1 : Hp} {Q : VK} (Pv : Nat → Hp → List V → Prop) (h0 : Pv 0 H1 [])
    (hG : ∀ i H acc, i ≤ n → Pv i H acc → Gd H ∧ acc.length ≤ i) (hn : n ≤ sizeLine)
    (hs : ∀ i x H H' acc, i < n → Pv i H acc → Y i H x H' → g x (wipe σ vs) H' fun σ2 H2 => wipe σ2 vs = wipe σ vs ∧ tt σ2 H2 fun b H3 => br b (te σ2 H3 fun y H4 => Pv (i + 1) H4 (acc ++ [y])) (Pv (i + 1) H3 acc))
    (hd : ∀ H acc, Pv n H acc → ∀ D, H D = none → Q (.ref D) (upd H D (.lst acc))) : lcR J g tt te vs σ H1 Q := by
  unfold lcR
  refine ⟨fun i m H acc => m = n - i ∧ i ≤ n ∧ Pv i H acc, ⟨n, by simp, Nat.zero_le _, h0⟩, ?_⟩
  rintro i m H acc ⟨rfl, hi, p⟩
  obtain ⟨q, ql⟩ := hG i H acc hi p
  by_cases hlt : i < n
  · exact .inr ⟨w.goes i H hlt q, by omega, Pv (i + 1), fun G' acc' p' => ⟨n - (i + 1), by omega, rfl, hlt, p'⟩, fun x H' y => hs i x H H' acc hlt p (w.yields i H x H' hlt q y)⟩
  · have e : i = n := by omega
    subst e
    exact .inl ⟨w.stops H q, fun D hD _ => hd H acc p D hD⟩

/-! ### statements: rules -/
/-- a test's reading, weakened -/
def wkT (t : TT) : TT := fun σ H Q => ∃ Q', t σ H Q' ∧ ∀ b H', Q' b H' → Q b H'
section
variable {X : Cx} {t u : TS} {st : Stmt} {rest body : List Stmt} {pos pos' tpos : Pos} {e o value : Expr} {te to ti : TE} {c : Expr} {tc : TT} {W : WX} {es : List Expr} {ta : TA}
theorem PT.wk (h : PT X c tc) : PT X c (wkT tc) := ⟨fun pins s σ H Q I ⟨Q', h1, h2⟩ => thn (h.run pins s σ H Q' I h1) fun b s' ⟨H', I', q⟩ => ⟨H', I', h2 b H' q⟩⟩
theorem qs_nil : PSs X [] xEnd := by
  refine ⟨fun pins s σ H D I h => pss_nil.run pins s σ H D I ?_⟩
  unfold xEnd dNx at h
  exact h
theorem qs_cons (h1 : PS X st t) (h2 : PSs X rest u) : PSs X (st :: rest) (xSeq t u) := by
  refine ⟨fun pins s σ H D I h => (pss_cons h1 h2).run pins s σ H D I ?_⟩
  unfold xSeq seqE at h
  exact h
theorem qs_one (h1 : PS X st t) : PSs X [st] t := pss_one h1
theorem qs_pass : PS X (.Pass pos) xEnd := by
  refine ⟨fun pins s σ H D I h => ps_pass.run pins s σ H D I ?_⟩
  unfold xEnd dNx at h
  exact h
theorem qs_set {i : Nat} {x : Str} (hN : X.N.Nodup) (he : PE X e te) (hi : X.N[i]? = some x := by rfl) (hx : Loc X.env.scope x := by first | exact Or.inl rfl | exact Or.inr rfl)
    (hs : swapsWith e (some (.Name x pos')) pos.line X.env = pure false := by rfl) (hf : X.fn x = true ∨ X.env.scope.names.lookup x = some .local := by first | exact .inl rfl | exact .inr rfl) : PS X (.Assign [.Name x pos'] e pos) (xSet i te) := by
  refine ⟨fun pins s σ H D I h => (ps_set hN hi hx he hs hf).run pins s σ H D I ?_⟩
  unfold xSet dNx at h
  exact h
theorem qs_setLc {i : Nat} {y : Str} {py : Pos} {elt tg iter : Expr} {ifs : List Expr} {scope : Scope} {own : List (Str × Nat)} {wi : TI} {g : TG} {tt : WX → TT} {tx : WX → TE}
    (hN : X.N.Nodup) (tk : Takes X W) (hi : PI X tg iter wi) (ok : BlkOk X.N X.env.scope scope own)
    (hg : ∀ s H C cl fp xe, PG (blkW X s H scope (compEnvC scope cl C X.env) fp xe) tg g)
    (ht : ∀ s H C cl fp xe Wb, Takes (blkW X s H scope (compEnvC scope cl C X.env) fp xe) Wb → PTs (blkW X s H scope (compEnvC scope cl C X.env) fp xe) ifs (tt Wb))
    (he : ∀ s H C cl fp xe Wb, Takes (blkW X s H scope (compEnvC scope cl C X.env) fp xe) Wb → PE (blkW X s H scope (compEnvC scope cl C X.env) fp xe) elt (tx Wb))
    (hc : X.calm = true := by rfl) (hst : X.stack = X.env :: X.outer := by rfl) (hf : X.env.frame = some X.env.locals := by rfl)
    (hy : X.N[i]? = some y := by rfl) (hyl : X.env.scope.names.lookup y = some .local := by rfl) (hsw : swapsWith (.ListComp elt [⟨tg, iter, ifs, 0⟩] scope pos) (some (.Name y py)) pos'.line X.env = pure true := by rfl)
    (hs : ∀ x, foldedSetIterable iter X.env x = pure x := by intro _; rfl) :
    PS X (.Assign [.Name y py] (.ListComp elt [⟨tg, iter, ifs, 0⟩] scope pos) pos') (xSet i (xLc W wi g tt tx (own.map (·.2)))) := by
  refine ⟨fun pins s σ H D I h => (ps_setLcW hc hN tk hst hf hy hyl hsw hi ok hg ht he hs).run pins s σ H D I ?_⟩
  unfold xSet dNx at h
  exact h
theorem qs_put {i : Expr} (hu : X.A.units + 1 < cLine) (ho : PE X o to) (hi : PE X i ti) (he : PE X e te)
    (ha : ∀ v, assign (.Subscript o i tpos) X.env v = (do
      let ov ← holding [v] (eval o X.env)
      let iv ← holding [v, ov] (eval i X.env)
      standAt tpos
      holding [v, ov, iv] (setItem ov iv v)
      release [v, ov, iv] []) := by intro _; rfl)
    (hs : swapsWithSole [.Subscript o i tpos] e pos.line X.env = pure false := by rfl) (hw : swappedStores [.Subscript o i tpos] e X.env = pure none := by rfl)
    (h1 : (assignEach [.Subscript o i tpos] X.env).map (·.2) = [assign (.Subscript o i tpos) X.env] := by rfl) : PS X (.Assign [.Subscript o i tpos] e pos) (xPut to ti te) := by
  have set : PSet X putR := by
    intro pins s σ H o i v ov iv u Q I ro ri rv h
    unfold putR at h
    rcases h with h | h
    · exact set_list pins s σ H o i v ov iv u Q I ro ri rv h
    · exact set_dict hu pins s σ H o i v ov iv u Q I ro ri rv h
  refine ⟨fun pins s σ H D I h => (ps_asg he (pg_sub ho hi set ha) hs hw h1).run pins s σ H D I ?_⟩
  unfold xPut dNx at h
  exact h
theorem qs_if {a b : List Stmt} (hc : PT X c tc) (ha : PSs X a t) (hb : PSs X b u) : PS X (.If c a b pos) (xIf tc t u) := by
  refine ⟨fun pins s σ H D I h => (ps_if (PT.wk hc) ha hb).run pins s σ H D I ?_⟩
  unfold xIf at h
  exact ⟨_, h, fun b H' q => br_is q⟩
theorem qs_ret (he : PE X e te) : PS X (.Return (some e) pos) (xRet te) := by
  refine ⟨fun pins s σ H D I h => (ps_ret he).run pins s σ H D I ?_⟩
  unfold xRet dRt at h
  exact h
theorem qs_retN : PS X (.Return none pos) xRetN := by
  refine ⟨fun pins s σ H D I h => ps_retN.run pins s σ H D I ?_⟩
  unfold xRetN dRt at h
  exact h
theorem qs_drop (he : PE X e te) (hs : swapsWith e none pos.line X.env = pure false := by rfl) : PS X (.Expr e pos) (xDrop te) := by
  refine ⟨fun pins s σ H D I h => (ps_expr he hs).run pins s σ H D I ?_⟩
  unfold xDrop dNx at h
  exact h
theorem qs_brk : PS X (.Break pos) xBrk := by
  refine ⟨fun pins s σ H D I h => ps_break.run pins s σ H D I ?_⟩
  unfold xBrk dBk at h
  exact h
theorem qs_cnt : PS X (.Continue pos) xCnt := by
  refine ⟨fun pins s σ H D I h => ps_continue.run pins s σ H D I ?_⟩
  unfold xCnt dCt at h
  exact h
theorem i_add : OpR X (inplaceOp .Add) iAdd := by unfold iAdd; exact iop_add.or (iop_add_str.or iop_ext)
theorem qs_aug {i : Nat} {x : Str} {op : Operator} {r : R2} (hN : X.N.Nodup) (ho : OpR X (inplaceOp op) r) (he : PE X e te) (hi : X.N[i]? = some x := by rfl) (hx : Loc X.env.scope x := by first | exact Or.inl rfl | exact Or.inr rfl)
    (hf : X.fn x = true ∨ X.env.scope.names.lookup x = some .local := by first | exact .inl rfl | exact .inr rfl) : PS X (.AugAssign (.Name x pos') op e pos) (xAug i r te) := by
  refine ⟨fun pins s σ H D I h => (ps_aug (ti := r) hN hi hx he ho hf).run pins s σ H D I ?_⟩
  unfold xAug dNx at h
  exact h
theorem qs_sto {f : Str} (ha : PE X o to) (hv : PE X value te) (hs : swapsWith value (some (.Attribute o f pos')) pos.line X.env = pure false := by rfl) : PS X (.Assign [.Attribute o f pos'] value pos) (xSto X.K to f te) := by
  refine ⟨fun pins s σ H D I h => (ps_fld ha hv hs).run pins s σ H D I ?_⟩
  unfold xSto stoR dNx at h
  exact h
theorem qs_stoA {f : Str} {op : Operator} {r : R2} (hr : OpR X (inplaceOp op) r) (ha : PE X o to) (hv : PE X value te) : PS X (.AugAssign (.Attribute o f tpos) op value pos) (xStoA X.K to f r te) := by
  refine ⟨fun pins s σ H D I h => ?_⟩
  unfold xStoA insA at h
  refine wpAny_AugAssign_AttributeAny (thn (ha.run pins s σ H _ I h) fun ov s1 hh => ?_)
  obtain ⟨x, H1, I1, rx, a, C, dx, fs, v, ex, ea, c, n, l, q⟩ := hh
  subst ex
  obtain rfl : ov = Value.ref a := rx
  refine getattr_ok I1 ea c n l fun u s2 I2 ru => thn (hv.run pins s2 σ H1 _ I2 q) fun w3 s3 h3 => ?_
  obtain ⟨y, H2, I3, ry, q3⟩ := h3
  refine thn (hr pins s3 σ H2 v y u w3 _ I3 ru ry q3) fun w4 s4 h4 => ?_
  obtain ⟨z, H3, I4, rz, q4⟩ := h4
  unfold stoR dNx at q4
  obtain ⟨a', C', dx', fs', e1, ea', c', n', l', q4⟩ := q4
  cases e1
  exact setattr_ok I4 ea' c' n' l' rz fun s5 I5 => ⟨σ, _, I5, q4⟩
theorem qs_for {tg iter : Expr} {wi : TI} {g : TG} {tb : TS} (hp : PassesOwn (model X.prog X.w) X.A X.env X.xe) (hi : PI X tg iter wi) (hg : PG X tg g) (hb : PSs X body tb) (hc : X.calm = true := by rfl)
    (hs : ∀ x, foldedSetIterable iter X.env x = pure x := by intro _; rfl) : PS X (.For tg iter body [] pos) (xFor wi g tb) := by
  refine ⟨fun pins s σ H D I h => (ps_for hp hc hi hg hb hs).run pins s σ H D I ?_⟩
  unfold xFor forR dNx loopE at h
  exact h
theorem qs_wh {tb : TS} (hp : PassesOwn (model X.prog X.w) X.A X.env X.xe) (hc : PT X c tc) (hb : PSs X body tb) : PS X (.While c body [] pos) (xWh tc tb) := by
  refine ⟨fun pins s σ H D I h => (ps_while hp (PT.wk hc) hb).run pins s σ H D I ?_⟩
  unfold xWh whR at h
  obtain ⟨Wt, h0, hs⟩ := h
  refine ⟨Wt, h0, ?_⟩
  intro m σ H p
  refine ⟨_, hs m σ H p, fun b H' q => ?_⟩
  have q := br_is q
  cases b with
  | false =>
    rw [if_neg Bool.false_ne_true] at q
    unfold dNx at q
    exact q
  | true =>
    rw [if_pos rfl] at q
    unfold loopE at q
    exact ⟨_, fun σ' H' n => n, q⟩
/-! targets -/
theorem pg_g {i : Nat} {x : Str} (hN : X.N.Nodup) (hi : X.N[i]? = some x := by rfl) (hx : Loc X.env.scope x := by first | exact Or.inl rfl | exact Or.inr rfl) (hf : X.fn x = true ∨ X.env.scope.names.lookup x = some .local := by first | exact .inl rfl | exact .inr rfl) : PG X (.Name x pos) (xG i) := by
  refine ⟨fun pins s σ H v u Q I r h => (pg_name hN hi hx hf).run pins s σ H v u Q I r ?_⟩
  unfold xG at h
  exact h
end
end CL
end

section
set_option Elab.async false
set_option linter.all false
set_option maxRecDepth 100000
set_option maxHeartbeats 4000000
/-! CLk: calls: of defs, methods, classes, built-ins. -/
namespace CL
open PySem PySem.Spec PyProof.Rows L2

/-! ### what a def promises, by its name -/
structure Cal (P : Program) (w : World) (K : PySem.W.Frag) (mg : Str → Option Value) (base : Heap) (k : Nat) (x : Str) (sp : Sp) (dvs : List V) : Prop where
  ex : ∃ (f : Addr) (fd : FuncData) (ps : List Str) (ds : List Value), mg x = some (.ref f) ∧ PySem.W.keepIn K (.ref f) = true ∧ FnOk P w K mg base (L2.CX P w) k f fd ps sp ∧ Binds K fd ps ds ∧ Vals dvs ds
/-- .. called by keywords alone -/
structure CalK (P : Program) (w : World) (K : PySem.W.Frag) (mg : Str → Option Value) (base : Heap) (k : Nat) (x : Str) (sp : Sp) (ks : List Str) (gV : List V → List V) : Prop where
  ex : ∃ (f : Addr) (fd : FuncData) (ps : List Str) (g : List Value → List Value → List Value), mg x = some (.ref f) ∧ PySem.W.keepIn K (.ref f) = true ∧ FnOk P w K mg base (L2.CX P w) k f fd ps sp ∧ KBn K fd ps 0 ks g fun _ zs => gV zs
structure Met (P : Program) (w : World) (K : PySem.W.Frag) (mg : Str → Option Value) (base : Heap) (k : Nat) (C : Addr) (m : Str) (sp : Sp) (dvs : List V) : Prop where
  ex : ∃ (f : Addr) (fd : FuncData) (ps : List Str) (ds : List Value), Cls K C ∧ Meth K C m f ∧ FnOk P w K mg base (L2.CX P w) k f fd ps sp ∧ Binds K fd ps ds ∧ Vals dvs ds
structure Mak (P : Program) (w : World) (K : PySem.W.Frag) (mg : Str → Option Value) (base : Heap) (k : Nat) (x : Str) (C : Addr) (sp : Sp) (dvs : List V) : Prop where
  ex : ∃ (f : Addr) (fd : FuncData) (ps : List Str) (ds : List Value), mg x = some (.ref C) ∧ Mk K C f ∧ FnOk P w K mg base (L2.CX P w) k f fd ps sp ∧ Binds K fd ps ds ∧ Vals dvs ds
@[irreducible] def xCallK (sp : Sp) (gV : List V → List V) (W : WX) (t : TA) : TE := fun σ H Q => t σ H fun zs H1 => ∃ n, zs.length = n ∧ sp (gV zs) H1 Q fun cls d H' => W cls d σ H'
/-- a method's receiver is a list -/
@[irreducible] def lstA (K : PySem.W.Frag) (x : V) (H : Hp) (R : Prop) : Prop := tyV K "list" x H ∧ R
@[irreducible] def appR (x y : V) (H : Hp) (Q : VK) : Prop := rAppend x [y] H Q
@[irreducible] def xApp (K : PySem.W.Frag) (to te : TE) : TE := fun σ H Q => to σ H fun x H1 => lstA K x H1 (te σ H1 fun y H2 => appR x y H2 Q)
@[irreducible] def strA (x : V) (R : Prop) : Prop := (∃ a, x = .str a) ∧ R
@[irreducible] def joinR (K : PySem.W.Frag) (x y : V) (H : Hp) (Q : VK) : Prop := ∃ a p, ∃ ys : List Str, x = .str a ∧ [y] = [V.ref p] ∧ (SqL K H p (ys.map V.str) ∨ SqT K H p (ys.map V.str)) ∧ (ys.map (·.length)).sum + ys.length * a.length ≤ 16777216 ∧ Q (.str (Txt.join a ys)) H
@[irreducible] def xJoin (K : PySem.W.Frag) (to te : TE) : TE := fun σ H Q => to σ H fun x H1 => strA x (te σ H1 fun y H2 => joinR K x y H2 Q)
@[irreducible] def itR (K : PySem.W.Frag) (x : V) (H : Hp) (R : It → Hp → Prop) : Prop := (∃ a, x = .ref a ∧ (∃ xs, SqL K H a xs) ∧ R (Itl K a) H) ∨ (∃ a, x = .ref a ∧ (∃ xs, SqT K H a xs) ∧ R (Itt K a) H) ∨ (∃ z, x = .str z ∧ R (Its z) H) ∨
  ∃ d o kvs, x = .ref d ∧ H d = some (.frz o (.dK kvs)) ∧ R (Itk d o kvs) H
@[irreducible] def xIt (K : PySem.W.Frag) (te : TE) : TI := fun σ H R => te σ H fun x H1 => itR K x H1 R
@[irreducible] def rngR (n : V) (H : Hp) (R : It → Hp → Prop) : Prop := ∃ j : Int, n = .int j ∧ -(2 ^ 62) ≤ j ∧ j < 2 ^ 62 ∧ R (Itr 0 j.toNat) H
@[irreducible] def xRng (te : TE) : TI := fun σ H R => te σ H fun x H1 => rngR x H1 R
@[irreducible] def valR (x : V) (H : Hp) (R : It → Hp → Prop) : Prop := ∃ d o kvs, x = .ref d ∧ H d = some (.frz o (.dK kvs)) ∧ R (Itd d o kvs) H
@[irreducible] def xVals (te : TE) : TI := fun σ H R => te σ H fun x H1 => valR x H1 R
@[irreducible] def zipR (K : PySem.W.Frag) (x y : V) (H : Hp) (R : It → Hp → Prop) : Prop := ∃ a b xs ys, x = .ref a ∧ y = .ref b ∧ ((SqL K H a xs ∧ SqL K H b ys ∧ R (Itz K a b) H) ∨ (SqT K H a xs ∧ SqT K H b ys ∧ R (RZ.ItzT K a b) H))
@[irreducible] def xZip (K : PySem.W.Frag) (ta tb : TE) : TI := fun σ H R => ta σ H fun x H1 => tb σ H1 fun y H2 => zipR K x y H2 R
/-- a dict that is walked in an expression: held while it is so -/
@[irreducible] def xLk (t : TE) : TE := fun σ H Q => tLockE t σ H Q ∨ t σ H Q
@[irreducible] def getR (K : PySem.W.Frag) (w : World) (x y z : V) (H : Hp) (Q : VK) : Prop := (∃ a o, x = .ref a ∧ DGet H a y o ∧ Q (o.getD z) H) ∨ ∃ d k r, x = .ref d ∧ y = .str k ∧ KDAt K w d k r ∧ Q (r.getD z) H
@[irreducible] def xGet (K : PySem.W.Frag) (w : World) (td ty tz : TE) : TE := fun σ H Q => td σ H fun x H1 => ((∃ a, x = .ref a ∧ IsD H1 a) ∨ ∃ d k r, x = .ref d ∧ KDAt K w d k r) ∧ ty σ H1 fun y H2 => tz σ H2 fun z H3 => getR K w x y z H3 Q
/-- text, replaced -/
@[irreducible] def repR (y z : Str) (v : V) (H : Hp) (Q : VK) : Prop := ∃ x, v = .str x ∧ x.length + (x.length + 1) * z.length ≤ 16777216 ∧ Q (.str (Txt.replace x y z)) H
@[irreducible] def xRep (y z : Str) (to : TE) : TE := fun σ H Q => to σ H fun v H1 => repR y z v H1 Q
section
variable {σ : L2.St} {H : Hp} {Q : VK} {to te ta tb : TE} {t : TA} {x y z v : V} {K : PySem.W.Frag} {w : World} {a b : Addr} {xs ys : List V} {R : It → Hp → Prop} {P : Prop} {u u' : Str}
theorem g_callK {sp : Sp} {gV : List V → List V} {W : WX} (q : t σ H fun zs H1 => ∃ n, zs.length = n ∧ sp (gV zs) H1 Q fun cls d H' => W cls d σ H') : xCallK sp gV W t σ H Q := by unfold xCallK; exact q
theorem g_app (q : to σ H fun x H1 => lstA K x H1 (te σ H1 fun y H2 => appR x y H2 Q)) : xApp K to te σ H Q := by unfold xApp; exact q
theorem lstA_i (h : H a = some (.lst xs)) (q : P) : lstA K (.ref a) H P := by unfold lstA; exact ⟨.inl ⟨rfl, xs, .of h⟩, q⟩
theorem appR_i (h : H a = some (.lst xs)) (l : xs.length < sizeLine) (q : Q .non (upd H a (.lst (xs ++ [y])))) : appR (.ref a) y H Q := by unfold appR; exact ⟨a, xs, y, rfl, rfl, h, l, q⟩
theorem g_join (q : to σ H fun x H1 => strA x (te σ H1 fun y H2 => joinR K x y H2 Q)) : xJoin K to te σ H Q := by unfold xJoin; exact q
theorem strA_i (q : P) : strA (.str u) P := by unfold strA; exact ⟨⟨u, rfl⟩, q⟩
theorem joinR_l {zs : List Str} (h : SqL K H a (zs.map V.str)) (l : (zs.map (·.length)).sum + zs.length * u.length ≤ 16777216) (q : Q (.str (Txt.join u zs)) H) : joinR K (.str u) (.ref a) H Q := by unfold joinR; exact ⟨u, a, zs, rfl, rfl, .inl h, l, q⟩
theorem g_it {te : TE} (q : te σ H fun x H1 => itR K x H1 R) : xIt K te σ H R := by unfold xIt; exact q
theorem itR_l (h : SqL K H a xs) (q : R (Itl K a) H) : itR K (.ref a) H R := by unfold itR; exact .inl ⟨a, rfl, ⟨xs, h⟩, q⟩
theorem itR_t (h : SqT K H a xs) (q : R (Itt K a) H) : itR K (.ref a) H R := by unfold itR; exact .inr (.inl ⟨a, rfl, ⟨xs, h⟩, q⟩)
theorem itR_s (q : R (Its u) H) : itR K (.str u) H R := by unfold itR; exact .inr (.inr (.inl ⟨u, rfl, q⟩))
theorem itR_k {o : Obj} {kvs : List (Key × V)} (h : H a = some (.frz o (.dK kvs))) (q : R (Itk a o kvs) H) : itR K (.ref a) H R := by unfold itR; exact .inr (.inr (.inr ⟨a, o, kvs, rfl, h, q⟩))
theorem g_rng (q : te σ H fun x H1 => rngR x H1 R) : xRng te σ H R := by unfold xRng; exact q
theorem rngR_i {j : Int} (h1 : -(2 ^ 62) ≤ j) (h2 : j < 2 ^ 62) (q : R (Itr 0 j.toNat) H) : rngR (.int j) H R := by unfold rngR; exact ⟨j, rfl, h1, h2, q⟩
theorem g_vals (q : te σ H fun x H1 => valR x H1 R) : xVals te σ H R := by unfold xVals; exact q
theorem valR_i {o : Obj} {kvs : List (Key × V)} (h : H a = some (.frz o (.dK kvs))) (q : R (Itd a o kvs) H) : valR (.ref a) H R := by unfold valR; exact ⟨a, o, kvs, rfl, h, q⟩
theorem g_zip (q : ta σ H fun x H1 => tb σ H1 fun y H2 => zipR K x y H2 R) : xZip K ta tb σ H R := by unfold xZip; exact q
theorem zipR_l (h1 : SqL K H a xs) (h2 : SqL K H b ys) (q : R (Itz K a b) H) : zipR K (.ref a) (.ref b) H R := by unfold zipR; exact ⟨a, b, xs, ys, rfl, rfl, .inl ⟨h1, h2, q⟩⟩
theorem zipR_t (h1 : SqT K H a xs) (h2 : SqT K H b ys) (q : R (RZ.ItzT K a b) H) : zipR K (.ref a) (.ref b) H R := by unfold zipR; exact ⟨a, b, xs, ys, rfl, rfl, .inr ⟨h1, h2, q⟩⟩
theorem g_lk {kvs : List (Key × V)} (h : H a = some (.dK kvs)) (q : ∀ od, te σ (upd H a (.frz od (.dK kvs))) fun v H' => H' a = some (.frz od (.dK kvs)) ∧ Q v (upd H' a (.dK kvs))) : xLk te σ H Q := by
  unfold xLk; exact .inl ⟨a, _, h, trivial, q⟩
theorem g_lk0 (q : te σ H Q) : xLk te σ H Q := by unfold xLk; exact .inr q
theorem g_get_d (hd : to σ H fun x H1 => ∃ a, x = .ref a ∧ IsD H1 a ∧ te σ H1 fun y H2 => ta σ H2 fun z H3 => getR K w x y z H3 Q) (mono : ∀ Q Q' : VK, (∀ v H, Q v H → Q' v H) → to σ H Q → to σ H Q') : xGet K w to te ta σ H Q := by
  unfold xGet
  exact mono _ _ (fun v H1 ⟨a, e, d, q⟩ => ⟨.inl ⟨a, e, d⟩, q⟩) hd
theorem repR_i (l : u.length + (u.length + 1) * u'.length ≤ 16777216) {y0 : Str} (q : Q (.str (Txt.replace u y0 u')) H) : repR y0 u' (.str u) H Q := by unfold repR; exact ⟨u, rfl, l, q⟩
theorem g_rep {y0 z0 : Str} (q : to σ H fun v H1 => repR y0 z0 v H1 Q) : xRep y0 z0 to σ H Q := by unfold xRep; exact q
end

section
variable {X : Cx} {e o : Expr} {es : List Expr} {te to ta tb : TE} {t : TA} {pos p apos tpos : Pos} {W : WX} {x m : Str} {sp : Sp} {dvs : List V} {j k : Nat} {C : Addr} {tg : Expr}
theorem px_call (c : Cal X.prog X.w X.K X.mg X.base k x sp dvs) (hr : Room j X.A) (hk : k ≤ j) (tk : Takes X W) (ha : PA X (e :: es) t) (hg : Gl X x := by rfl) (hdb : (x == ("__debug__" : Str)) = false := by decide)
    (he : starEach (e :: es) X.env = (false, eval e X.env) :: starEach es X.env := by rfl) (hpl : (backTo pos (starEach es X.env)).any (·.1) = false := by rfl) : PE X (.Call (.Name x p) (e :: es) [] pos) (xCall sp dvs W t) := by
  obtain ⟨f, fd, ps, ds, hm, kp, F, b, d⟩ := c.ex
  unfold xCall
  exact pe_callSD (E := WE W) (F.mono hk) hr hg hm kp b d (fun σ => passAt tk σ) ha hdb he hpl
theorem px_callK {ks : List Str} {gV : List V → List V} {kws : List Keyword} (c : CalK X.prog X.w X.K X.mg X.base k x sp ks gV) (hr : Room j X.A) (hk : k ≤ j) (tk : Takes X W) (hkw : PK X kws t) (hg : Gl X x := by rfl)
    (hall : (backToKw pos (keywordEach kws X.env)).all (·.1.isSome) = true := by rfl) (hks : (backToKw pos (keywordEach kws X.env)).filterMap (·.1) = ks := by rfl) (hdb : (x == ("__debug__" : Str)) = false := by decide)
    (hpl : ((backTo pos (starEach [] X.env)).any (·.1) || (backToKw pos (keywordEach kws X.env)).any (·.1.isNone)) = false := by rfl) (hlen : ∀ σ H Q, t σ H Q → t σ H fun zs H1 => zs.length = ks.length ∧ Q zs H1) :
    PE X (.Call (.Name x p) [] kws pos) (xCallK sp gV W t) := by
  obtain ⟨f, fd, ps, g, hm, kp, F, b⟩ := c.ex
  refine ⟨fun pins s σ H Q I h => ?_⟩
  unfold xCallK at h
  refine wpAny_Call_Name_kw (ld_glob I hg hm ?_ hdb)
  refine PySem.W.callWith_KW0 (h₀ := X.base) I.ok.mod.kin kp hall ?_ hpl
  refine thn (hkw.run pos pins s σ H _ I (hlen _ _ _ h)) fun ws s2 h2 => ?_
  obtain ⟨zs, H2, I2, rz, l2, n, _, q2⟩ := h2
  refine ⟨I2.kIn, ?_⟩
  rw [hks]
  have r2 := b.rel (vs := []) (us := []) .nil rz
  refine wpAny_call (codeAny_mono ((F.mono hk).run X.A X.stack s2 H2 ⟨[], ks.zip ws⟩ (g [] ws) (gV zs) Q (WE W σ) hr I2.env0 (b.to s2 [] ws I2.kIn rfl (rz.length.symm.trans l2)) r2 q2) fun r s' hq => ?_)
  cases r with
  | error e => exact passAt tk σ pins H2 s2 e s' I2 hq
  | ok fl =>
    cases fl with
    | ret u => exact I2.after hq
    | next => exact False.elim hq
    | brk => exact False.elim hq
    | cont => exact False.elim hq
theorem qk_nil : PK X [] xNil := by unfold xNil; exact pk_nil
theorem qk_cons {kws : List Keyword} {nm : Option Str} {kpos : Pos} (ha : PE X e te) (hr : PK X kws t) : PK X (⟨nm, e, kpos⟩ :: kws) (xCons te t) := by unfold xCons; exact pk_cons ha hr
theorem px_meth {pl : Sem Bool} (c : Met X.prog X.w X.K X.mg X.base k C m sp dvs) (hr : Room j X.A) (hk : k ≤ j) (tk : Takes X W) (ho : PE X o to) (ha : PA X (e :: es) t)
    (hst : starEach (e :: es) X.env = (false, eval e X.env) :: starEach es X.env := by rfl) (hpl : (backTo pos (starEach es X.env)).any (·.1) = false := by rfl)
    (ht : eval (.Call (.Attribute o m apos) (e :: es) [] pos) X.env = (do
      let ov ← eval o X.env
      standAt apos.atName
      let (f, first) ← holding [ov] (getMethod ov m pl)
      callWith pos f first (backTo pos (starEach (e :: es) X.env)) (backToKw pos (keywordEach [] X.env))) := by rfl) :
    PE X (.Call (.Attribute o m apos) (e :: es) [] pos) (xMeth C m sp dvs W to t) := by
  obtain ⟨f, fd, ps, ds, cl, me, F, b, d⟩ := c.ex
  refine ⟨fun pins s σ H Q I h => ?_⟩
  unfold xMeth insR at h
  refine PySem.W.methodCall_KW (pl := pl) (thn (ho.run pins s σ H _ I h) fun u s1 hh => ?_) ht
  obtain ⟨x, H1, I1, rx, a, dx, fs, ex, ea, l, q⟩ := hh
  subst ex
  obtain rfl : u = Value.ref a := rx
  refine getmeth_ok I1 ea cl me l ?_
  refine PySem.W.callWith_K (first := [.ref a]) (h₀ := X.base) I.ok.mod.kin me.kp (thn (ha.run pos pins s1 σ H1 _ I1 q) fun us s2 h2 => ?_) hst hpl
  obtain ⟨vs, H2, I2, r, q2⟩ := h2
  exact ⟨I2.kIn, run_fnSD (E := WE W) (us := .ref a :: us) (vs := .ref a :: vs) (F.mono hk) hr b d (passAt tk σ) I2 (.cons rfl r) q2⟩
theorem px_meth0 {pl : Sem Bool} (c : Met X.prog X.w X.K X.mg X.base k C m sp dvs) (hr : Room j X.A) (hk : k ≤ j) (tk : Takes X W) (ho : PE X o to)
    (ht : eval (.Call (.Attribute o m apos) [] [] pos) X.env = (do
      let ov ← eval o X.env
      standAt apos.atName
      let (f, first) ← holding [ov] (getMethod ov m pl)
      callWith pos f first (backTo pos (starEach [] X.env)) (backToKw pos (keywordEach [] X.env))) := by rfl) :
    PE X (.Call (.Attribute o m apos) [] [] pos) (xMeth C m sp dvs W to xNil) := by
  obtain ⟨f, fd, ps, ds, cl, me, F, b, d⟩ := c.ex
  refine ⟨fun pins s σ H Q I h => ?_⟩
  unfold xMeth insR xNil at h
  refine PySem.W.methodCall_KW (pl := pl) (thn (ho.run pins s σ H _ I h) fun u s1 hh => ?_) ht
  obtain ⟨x, H1, I1, rx, a, dx, fs, ex, ea, l, q⟩ := hh
  subst ex
  obtain rfl : u = Value.ref a := rx
  refine getmeth_ok I1 ea cl me l ?_
  exact PySem.W.callWith_K0 (first := [.ref a]) I1.kIn me.kp (run_fnSD (E := WE W) (us := [.ref a]) (vs := [.ref a]) (F.mono hk) hr b d (passAt tk σ) I1 (.cons rfl .nil) q)
theorem px_make (c : Mak X.prog X.w X.K X.mg X.base k x C sp dvs) (hr : Room j X.A) (hk : k + 1 ≤ j) (ha : PA X (e :: es) t) (hg : Gl X x := by rfl) (hdb : (x == ("__debug__" : Str)) = false := by decide)
    (he : starEach (e :: es) X.env = (false, eval e X.env) :: starEach es X.env := by rfl) (hpl : (backTo pos (starEach es X.env)).any (·.1) = false := by rfl) : PE X (.Call (.Name x p) (e :: es) [] pos) (xMake C sp dvs t) := by
  obtain ⟨f, fd, ps, ds, hm, M, F, b, d⟩ := c.ex
  unfold xMake
  exact pe_make M F (hr.mono hk) hg hm b d passL ha hdb he hpl
theorem px_app (ho : PE X o to) (ha : PE X e te)
    (hbase : attributeBase o "append" X.env (eval o X.env) = eval o X.env := by rfl)
    (hfew : ((backTo pos (starEach [e] X.env)).all (fun x => !x.1) && (backToKw pos (keywordEach [] X.env)).all (fun x => x.1.isSome)
      && decide (([e] : List Expr).length + ([] : List Keyword).length + (if ([] : List Keyword).isEmpty then 0 else 1) < 30)) = true := by rfl)
    (hline : (apos.endLine == pos.line) = true := by rfl) (hs : starEach [e] X.env = (false, eval e X.env) :: starEach [] X.env := by rfl) (hplain : (backTo pos (starEach [] X.env)).any (·.1) = false := by rfl) :
    PE X (.Call (.Attribute o "append" apos) [e] [] pos) (xApp X.K to te) := by
  refine ⟨fun pins s σ H Q I h => (pe_bm F.plainAttrs_list F.slot_list_append F.type_list_append mt_append ho (pa_cons ha pa_nil hs) hbase hfew hline hs hplain).run pins s σ H Q I ?_⟩
  unfold xApp lstA appR at h
  exact h
theorem px_join (ho : PE X o to) (he : PE X e te) (hs : starEach [e] X.env = [(false, eval e X.env)] := by rfl) (hbase : attributeBase o "join" X.env (eval o X.env) = eval o X.env := by rfl) (hline : (apos.endLine == pos.line) = true := by rfl) :
    PE X (.Call (.Attribute o "join" apos) [e] [] pos) (xJoin X.K to te) := by
  refine ⟨fun pins s σ H Q I h => (pe_join ho he hs hbase hline).run pins s σ H Q I ?_⟩
  unfold xJoin strA joinR at h
  exact h
theorem qi_it (he : PE X e te) : PI X tg e (xIt X.K te) := by
  refine ⟨fun pins s σ H R I h => ?_⟩
  unfold xIt itR at h
  refine thn (he.run pins s σ H _ I h) fun v s1 hh => ?_
  obtain ⟨x, H1, I1, r1, q⟩ := hh
  rcases q with ⟨a, rfl, ⟨xs, hq⟩, q⟩ | ⟨a, rfl, ⟨xs, hq⟩, q⟩ | ⟨z, rfl, q⟩ | ⟨d, o, kvs, rfl, hd, q⟩
  · obtain rfl : v = Value.ref a := r1
    obtain ⟨its, rv, p, hz⟩ := I1.list hq
    exact wpAny_pyIter_list p.isList (pi_one (tk := s1.toks) I1 _ (turn_list a _) ⟨_, Heap.get?_push_size _ rfl, rfl, rfl⟩ q)
  · obtain rfl : v = Value.ref a := r1
    obtain ⟨its, rv, p, hz⟩ := I1.tuple hq
    exact wpAny_pyIter_tuple (show s1.heap.IsTuple a its.toArray from p) (pi_one (tk := s1.toks) I1 _ (turn_tuple a _) ⟨_, Heap.get?_push_size _ rfl, rfl, rfl⟩ q)
  · obtain ⟨t, rfl⟩ := r1
    cases ha : z.cps.all (· < 128)
    · exact wpAny_pyIter_wide ha (pi_one (tk := s1.toks) I1 _ (turn_str _ z t "str_iterator" (.inr rfl)) ⟨_, Heap.get?_push_size _ rfl, rfl, rfl⟩ q)
    · exact wpAny_pyIter_ascii ha (pi_one (tk := s1.toks) I1 _ (turn_str _ z t "str_ascii_iterator" (.inl rfl)) ⟨_, Heap.get?_push_size _ rfl, rfl, rfl⟩ q)
  · obtain rfl : v = Value.ref d := r1
    obtain ⟨hs, hgd, hx, es, ep, vs, hdt, hsz, kv, hm⟩ := I1.frzK hd
    refine iter_keys hs hgd hx hdt (pi_one (tk := s1.toks) I1 _ (turn_keys _ hdt) ⟨_, Heap.get?_push_size _ rfl, rfl, ?_⟩ q)
    rw [hsz] <;> rfl
theorem qi_rng {a : Expr} (hm : X.mg "range" = none) (ha : PE X a te) (hg : Gl X "range" := by rfl) (hs : starEach [a] X.env = [(false, eval a X.env)] := by rfl) : PI X tg (.Call (.Name "range" p) [a] [] pos) (xRng te) := by
  refine ⟨fun pins s σ H R I h => (pi_range1 hg hm (pa_cons ha pa_nil hs) hs).run pins s σ H R I ?_⟩
  have e : ∀ (x : V) (H1 : Hp), rngR x H1 R = ∃ j : Int, [x] = [V.int j] ∧ -(2 ^ 62) ≤ j ∧ j < 2 ^ 62 ∧ R (Itr 0 j.toNat) H1 := fun x H1 => by
    unfold rngR
    refine propext ⟨fun ⟨j, e, q⟩ => ⟨j, by rw [e], q⟩, fun ⟨j, e, q⟩ => ⟨j, (List.cons.inj e).1, q⟩⟩
  unfold xRng at h
  simp only [e] at h
  exact h
theorem qi_vals (he : PE X o te) (hbase : attributeBase o "values" X.env (eval o X.env) = eval o X.env := by rfl) (hline : (apos.endLine == pos.line) = true := by rfl) : PI X tg (.Call (.Attribute o "values" apos) [] [] pos) (xVals te) := by
  refine ⟨fun pins s σ H R I h => (pi_values he hbase hline).run pins s σ H R I ?_⟩
  unfold xVals valR at h
  exact h
theorem qi_zip {a b : Expr} {elts : List Expr} {kk : Nat} (hm : X.mg "zip" = none) (ha : PE X a ta) (hb : PE X b tb) (hg : Gl X "zip" := by rfl)
    (hs : starEach [a, b] X.env = (false, eval a X.env) :: starEach [b] X.env := by rfl) (hs2 : starEach [b] X.env = (false, eval b X.env) :: starEach [] X.env := by rfl) (hpl : (backTo pos (starEach [b] X.env)).any (·.1) = false := by rfl) :
    PI X (.Tuple elts kk tpos) (.Call (.Name "zip" p) [a, b] [] pos) (xZip X.K ta tb) := by
  refine ⟨fun pins s σ H R I h => (RZ.pi_zipA hg hm (pa_cons ha (pa_cons hb pa_nil hs2) hs) hs hpl).run pins s σ H R I ?_⟩
  have e : ∀ (x y : V) (H1 : Hp), zipR X.K x y H1 R = ∃ a b xs ys, [x, y] = [V.ref a, V.ref b] ∧ ((SqL X.K H1 a xs ∧ SqL X.K H1 b ys ∧ R (Itz X.K a b) H1) ∨ (SqT X.K H1 a xs ∧ SqT X.K H1 b ys ∧ R (RZ.ItzT X.K a b) H1)) := fun x y H1 => by
    unfold zipR
    refine propext ⟨fun ⟨a, b, xs, ys, e1, e2, q⟩ => ⟨a, b, xs, ys, by rw [e1, e2], q⟩, fun ⟨a, b, xs, ys, e, q⟩ => ?_⟩
    injection e with e1 e2
    injection e2 with e2 e3
    exact ⟨a, b, xs, ys, e1, e2, q⟩
  unfold xZip at h
  simp only [e] at h
  exact h
theorem px_lk (h : PE X e te) : PE X e (xLk te) := by
  refine ⟨fun pins s σ H Q I q => ?_⟩
  unfold xLk at q
  rcases q with q | q
  · exact (pe_lock h).run pins s σ H Q I q
  · exact h.run pins s σ H Q I q
theorem px_lc {elt iter : Expr} {ifs : List Expr} {scope : Scope} {own : List (Str × Nat)} {wi : TI} {g : TG} {tt : WX → TT} {tx : WX → TE}
    (hN : X.N.Nodup) (tk : Takes X W) (hi : PI X tg iter wi) (ok : BlkOk X.N X.env.scope scope own)
    (hg : ∀ s H C cl fp xe, PG (blkW X s H scope (compEnvC scope cl C X.env) fp xe) tg g)
    (ht : ∀ s H C cl fp xe Wb, Takes (blkW X s H scope (compEnvC scope cl C X.env) fp xe) Wb → PTs (blkW X s H scope (compEnvC scope cl C X.env) fp xe) ifs (tt Wb))
    (he : ∀ s H C cl fp xe Wb, Takes (blkW X s H scope (compEnvC scope cl C X.env) fp xe) Wb → PE (blkW X s H scope (compEnvC scope cl C X.env) fp xe) elt (tx Wb))
    (hc : X.calm = true := by rfl) (hst : X.stack = X.env :: X.outer := by rfl) (hf : X.env.frame = some X.env.locals := by rfl)
    (hs : ∀ x, foldedSetIterable iter X.env x = pure x := by intro _; rfl) :
    PE X (.ListComp elt [⟨tg, iter, ifs, 0⟩] scope pos) (xLc W wi g tt tx (own.map (·.2))) := CL.px_lc0 hc hN tk hst hf hi ok hg ht he hs
/-! tests of a comprehension: none, one -/
theorem qt_nil : PTs X [] (fun σ H Q => Q true H) := pts_nil
theorem px_rep {y z : Str} {i j : Nat} {c0 c1 : Pos} (ho : PET X o to) (hyz : (y == z) = false := by decide)
    (hst : starEach [.Constant (.str y) i c0, .Constant (.str z) j c1] X.env = [(false, eval (.Constant (.str y) i c0) X.env), (false, eval (.Constant (.str z) j c1) X.env)] := by rfl)
    (hbase : attributeBase o "replace" X.env (eval o X.env) = eval o X.env := by rfl) (hline : (apos.endLine == pos.line) = true := by rfl) :
    PET X (.Call (.Attribute o "replace" apos) [.Constant (.str y) i c0, .Constant (.str z) j c1] [] pos) (xRep y z to) := by
  have h := CwR.pet_replT (apos := apos) (pos := pos) ho hyz hst hbase hline
  intro pins s σ H Q h0 I q
  refine h pins s σ H Q h0 I ?_
  unfold xRep repR at q
  exact q
/-- a written text, then an operator: a token is out -/
theorem px_opK {x : Str} {i : Nat} {c : Pos} {op : Operator} {r : R2} (hop : OpR X (binaryOp op) r) (hb : PET X e te) : PE X (.BinOp (.Constant (.str x) i c) op e pos) (xOp r (xC (.str x)) te) := by
  refine ⟨fun pins s σ H Q I h => ?_⟩
  unfold xOp xC at h
  refine wpAny_BinOp (Calls.Constant_str ?_)
  refine thn (hb pins { s with toks := s.toks + 1 } σ H _ (by show 1 ≤ s.toks + 1; omega) (I.tok _) h) fun u s2 h2 => ?_
  obtain ⟨y, H2, I2, r2, q2⟩ := h2
  exact hop pins s2 σ H2 (.str x) y _ u Q I2 ⟨_, rfl⟩ r2 q2
theorem pt_of (h : PE X e te) : PET X e te := fun pins s σ H Q _ I q => h.run pins s σ H Q I q
end
end CL
end

section
set_option Elab.async false
set_option linter.all false
set_option maxRecDepth 100000
set_option maxHeartbeats 4000000
/-! CLn: lists as what a tuple target takes; dict.get; isinstance; raise; try. -/
namespace CL
open PySem PySem.Spec PyProof.Rows L2

section
variable {prog : Program} {w : World} {A : Around} {E : Value → Shared → Prop} {s : Shared}
theorem drawL {I l : Addr} {vs : Array Value} (ne : l ≠ I) : ∀ (n i : Nat) (s : Shared) (Q : List Value → Shared → Prop), s.heap.IsListIter I l i → s.heap.IsList l vs → i + n ≤ vs.size →
    (∀ h', h'.IsListIter I l (i + n) → Heap.SameBut I s.heap h' → Q ((vs.toList.drop i).take n) { s with heap := h' }) → wpAny (model prog w) A (draw (.ref I) n) Q E s
  | 0, i, s, Q, hi, _, _, q => wpAny_pure (by simpa using q s.heap hi (Heap.SameBut.refl ..))
  | n + 1, i, s, Q, hi, hl, hz, q => by
    have lt : i < vs.size := by omega
    refine wpAny_bind (m := pyNext (.ref I)) (wpAny_pyNext_list_item hi hl (x := vs[i]) (by simp [lt]) fun h1 i1 sb1 => ?_)
    refine wpAny_bind (wpAny_holding (drawL ne n (i + 1) _ _ i1 (hl.extBut sb1.extBut ne) (by omega) fun h2 i2 sb2 => wpAny_pure ?_))
    have q2 := q h2 (by rw [show i + (n + 1) = i + 1 + n by omega]; exact i2) (sb1.trans sb2)
    have e : vs.toList.drop i = vs[i] :: vs.toList.drop (i + 1) := by simp [List.drop_eq_getElem_cons, lt]
    rw [e, List.take_succ_cons] at q2
    exact q2
theorem unpackL {l : Addr} {vs : Array Value} {Q : List Value → Shared → Prop} (hh : A.handled = none) (hl : s.heap.IsList l vs)
    (q : ∀ h', Heap.ExtBut s.heap.objs.size s.heap h' → Q vs.toList { s with heap := h' }) : wpAny (model prog w) A (unpackItems (.ref l) vs.size none) Q E s := by
  have lt : l ≠ s.heap.objs.size := by obtain ⟨o, ho, _⟩ := id hl; exact Nat.ne_of_lt (Heap.lt_size ho)
  have hp : (s.heap.push { cls := .type "list_iterator", data := .fields #[.ref l, .int 0 0] }).IsList l vs := by
    obtain ⟨o, ho, r⟩ := id hl
    exact ⟨o, Heap.get?_push_of_some _ ho, r⟩
  unfold unpackItems
  refine wpAny_bind (m := notIterableAtAll _) ?_
  unfold notIterableAtAll
  refine wpAny_bind (wpAny_specialOf hl.typeIs slot_list_iter.lookup (wpAny_pure ?_))
  simp only [Bool.false_eq_true, if_false]
  refine wpAny_bind (wpAny_holding (wpAny_pyIter_list hl ?_))
  refine wpAny_bind (wpAny_holding (drawL lt vs.size 0 _ _ ⟨_, Heap.get?_push_size _ rfl, rfl, rfl⟩ hp (by omega) fun h1 i1 sb1 => ?_))
  have all : List.take vs.size (List.drop 0 vs.toList) = vs.toList := by rw [List.drop_zero]; exact List.take_of_length_le (by simp)
  rw [all, if_neg (by simp)]
  refine wpAny_bind (wpAny_holding (wpAny_pyNext_list_end hh i1 (hp.extBut sb1.extBut lt) (by simp) fun h2 e2 => ?_))
  simp only [Option.isSome_none, Bool.false_eq_true, if_false]
  exact wpAny_pure (q h2 fun b o hb e => e2 b o hb (sb1.extBut b o hb (Heap.get?_push_of_some _ e)))
end
section
variable {X : Cx} {e o f : Expr} {te to tf : TE} {pos p apos tpos : Pos} {W : WX} {x y : Str} {i j : Nat}
/-- (x, y) = .. -/
theorem pg_two {k : Nat} {p1 p2 : Pos} (hN : X.N.Nodup) (hc : X.calm = true) (hx : X.N[i]? = some x) (hy : X.N[j]? = some y) (lx : Loc X.env.scope x) (ly : Loc X.env.scope y)
    (fx : X.fn x = true ∨ X.env.scope.names.lookup x = some .local) (fy : X.fn y = true ∨ X.env.scope.names.lookup y = some .local)
    (hn : (assignEach [.Name x p1, .Name y p2] X.env).length = 2) (hst : (assignEach [.Name x p1, .Name y p2] X.env).findIdx? (·.1) = none)
    (h1 : (assignEach [.Name x p1, .Name y p2] X.env).map (·.2) = assign (.Name x p1) X.env :: (assignEach [.Name y p2] X.env).map (·.2)) (h2 : (assignEach [.Name y p2] X.env).map (·.2) = assign (.Name y p2) X.env :: (assignEach [] X.env).map (·.2)) :
    PG X (.Tuple [.Name x p1, .Name y p2] k pos) (xG2 X.K i j) := by
  refine ⟨fun pins s σ H v u Q I r h => ?_⟩
  unfold xG2 unpR at h
  obtain ⟨a, xs, rfl, hq, hl, y1, z1, rfl, q⟩ := h
  obtain rfl : u = Value.ref a := r
  have ts := pgs_cons (pg_name (pos := p1) hN hx lx fx) (pgs_cons (pg_name (pos := p2) hN hy ly fy) pgs_nil h2) h1
  rcases hq with hq | hq
  · exact (pg_tup hc ts hn hst).run pins s σ H (.ref a) _ Q I rfl ⟨a, _, rfl, hq, rfl, y1, _, rfl, z1, _, rfl, rfl, q⟩
  · obtain ⟨its, rv, pl, hz⟩ := I.list hq
    have hs : its.toArray.size = 2 := by rw [List.size_toArray, ← rv.length]; rfl
    rw [PyProof.Rows.assign_Tuple]
    refine wpAny_bind (wpAny_standAt ?_)
    unfold unpack
    rw [hn, hst]
    have un := unpackL (prog := X.prog) (w := X.w) (A := X.A) (E := X.xe) (s := s) (vs := its.toArray) (Q := fun vs s' => wpAny (model X.prog X.w) X.A (assignInOrder ((assignEach [.Name x p1, .Name y p2] X.env).map (·.2)) vs) (fun _ s' => ∃ σ' H', L2.Inv X pins σ' H' s' ∧ Q σ' H') X.xe s') (I.ok.hd hc) pl.isList fun h' hx' => by
      have I1 : L2.Inv X pins σ H { s with heap := h' } := I.kept (t' := s.toks) fun b o e => hx' b o (Nat.ne_of_lt (Heap.lt_size e)) e
      exact ts.run pins _ σ H _ _ Q I1 (by simpa using rv) ⟨y1, _, rfl, z1, _, rfl, rfl, q⟩
    rw [hs] at un
    exact wpAny_bind (wpAny_holding un)
theorem pg_g2 {k : Nat} {p1 p2 : Pos} (hN : X.N.Nodup) (hc : X.calm = true := by rfl) (hx : X.N[i]? = some x := by rfl) (hy : X.N[j]? = some y := by rfl) (lx : Loc X.env.scope x := by first | exact Or.inl rfl | exact Or.inr rfl) (ly : Loc X.env.scope y := by first | exact Or.inl rfl | exact Or.inr rfl)
    (fx : X.fn x = true ∨ X.env.scope.names.lookup x = some .local := by first | exact .inl rfl | exact .inr rfl) (fy : X.fn y = true ∨ X.env.scope.names.lookup y = some .local := by first | exact .inl rfl | exact .inr rfl)
    (hn : (assignEach [.Name x p1, .Name y p2] X.env).length = 2 := by rfl) (hst : (assignEach [.Name x p1, .Name y p2] X.env).findIdx? (·.1) = none := by rfl)
    (h1 : (assignEach [.Name x p1, .Name y p2] X.env).map (·.2) = assign (.Name x p1) X.env :: (assignEach [.Name y p2] X.env).map (·.2) := by rfl) (h2 : (assignEach [.Name y p2] X.env).map (·.2) = assign (.Name y p2) X.env :: (assignEach [] X.env).map (·.2) := by rfl) :
    PG X (.Tuple [.Name x p1, .Name y p2] k pos) (xG2 X.K i j) := pg_two hN hc hx hy lx ly fx fy hn hst h1 h2
theorem qs_unp2 {k : Nat} {p1 p2 : Pos} (hN : X.N.Nodup) (he : PE X e te) (hg : PG X (.Tuple [.Name x p1, .Name y p2] k tpos) (xG2 X.K i j))
    (hs : swapsWithSole [.Tuple [.Name x p1, .Name y p2] k tpos] e pos.line X.env = pure false := by rfl) (hw : swappedStores [.Tuple [.Name x p1, .Name y p2] k tpos] e X.env = pure none := by rfl)
    (h1 : (assignEach [.Tuple [.Name x p1, .Name y p2] k tpos] X.env).map (·.2) = [assign (.Tuple [.Name x p1, .Name y p2] k tpos) X.env] := by rfl) : PS X (.Assign [.Tuple [.Name x p1, .Name y p2] k tpos] e pos) (xUnp2 X.K i j te) := by
  refine ⟨fun pins s σ H D I h => (ps_asg he hg hs hw h1).run pins s σ H D I ?_⟩
  unfold xUnp2 dNx at h
  unfold tAsg xG2
  exact h
/-! d.get(k, z): tracked, or of the written part -/
theorem px_get (hu : X.A.units + 1 < cLine) (ho : PE X o to) (he : PE X e te) (hf : PE X f tf) (mb : attributeBase o "get" X.env (eval o X.env) = eval o X.env := by rfl)
    (mf : ((backTo pos (starEach [e, f] X.env)).all (fun x => !x.1) && (backToKw pos (keywordEach [] X.env)).all (fun x => x.1.isSome)
      && decide (([e, f] : List Expr).length + ([] : List Keyword).length + (if ([] : List Keyword).isEmpty then 0 else 1) < 30)) = true := by rfl)
    (ml : (apos.endLine == pos.line) = true := by rfl) (mt : backTo pos (starEach [e, f] X.env) = [(false, eval e X.env), (false, eval f X.env)] := by rfl) :
    PE X (.Call (.Attribute o "get" apos) [e, f] [] pos) (xGet X.K X.w to te tf) := by
  refine ⟨fun pins s σ H Q I h => ?_⟩
  unfold xGet at h
  refine wpAny_Call_method mb mf ml PySem.F.plainAttrs_dict PySem.F.slot_dict_get PySem.F.type_dict_get (thn (ho.run pins s σ H _ I h) fun u s1 hh => ?_)
  obtain ⟨x, H1, I1, rx, dd, q1⟩ := hh
  have ty : s1.TypeIs u "dict" ∧ ∀ b, u = .ref b → ∃ ob, s1.heap.get? b = some ob ∧ ob.dict = none := by
    rcases dd with ⟨a, rfl, d⟩ | ⟨d, k, r, rfl, es, n, D, _⟩
    · obtain rfl : u = Value.ref a := rx
      obtain ⟨t1, t2, _⟩ := isD_at I1 d
      exact ⟨t1, t2⟩
    · obtain rfl : u = Value.ref d := rx
      refine ⟨kd_type D I1, fun b z => ?_⟩
      cases z
      exact ⟨_, I1.kIn _ _ D.at_, rfl⟩
  refine ⟨ty.1, ty.2, ?_⟩
  rw [mt]
  refine Calls.callWith_builtin rfl (Calls.evalArgs_plain (Calls.spliced_cons (thn (he.run pins s1 σ H1 _ I1 q1) fun iv s2 h2 => Calls.spliced_cons ?_)))
  obtain ⟨y, H2, I2, ry, q2⟩ := h2
  refine thn (hf.run pins s2 σ H2 _ I2 q2) fun zv s3 h3 => Calls.spliced_nil ?_
  obtain ⟨z, H3, I3, rz, q3⟩ := h3
  unfold getR at q3
  rcases q3 with ⟨a, o', rfl, g, q⟩ | ⟨d, k, r, rfl, rfl, ⟨es, n, D, w', e', ro⟩, q⟩
  · obtain rfl : u = Value.ref a := rx
    exact d_get2 hu I3 g ry rz fun w' s4 I4 rw' => ⟨_, H3, I4, rw', q⟩
  · obtain rfl : u = Value.ref d := rx
    obtain ⟨t, rfl⟩ := (show ∃ t, iv = Value.str k t from ry)
    have hm := PySem.W.mapOf_K (prog := X.prog) (w := X.w) I3.kIn D.at_ D.lit
    refine call_meetsIn PySem.F.slot_dict_get hm.typeIs PySem.F.entry_dict_get (PySem.F.args_dict_get_3 _ _ _) (meets_dict_get_default (strKind X.prog X.w) d (strKind_is X.prog X.w k t) D.low zv) ⟨_, hm, ?_⟩
    rw [PySem.W.find_K D.at_ e']
    refine ⟨_, H3, I3.tok _, ?_, q⟩
    cases r with
    | none =>
      rw [ro.none_of]
      exact rz
    | some v =>
      obtain ⟨u0, e0, ru⟩ := RelO.some_of ro
      rw [e0]
      exact ru
/-! isinstance -/
@[irreducible] def isiR (K : PySem.W.Frag) : List V → Hp → VK → Prop := fun xs H Q => rIsi K xs H Q ∨ rIsiT K xs H Q ∨ rIsX K xs H Q
theorem cr_isi : CallR X (.builtin "isinstance") (isiR X.K) := by unfold isiR; exact call_isi.or (call_isiT.or call_isX)
theorem isi_1 {K : PySem.W.Frag} {H : Hp} {Q : VK} {x : V} {n m : String} {b : Bool} (t : TyX K H x (.type m)) (e : kitB m n = some b) (q : Q (.bl b) H) : isiR K [x, .ty n] H Q := by
  unfold isiR; exact .inl ⟨x, .ty n, _, _, b, rfl, .ty n, t, kit_ty e, q⟩
theorem isi_2 {K : PySem.W.Frag} {H : Hp} {Q : VK} {x : V} {n1 n2 m : String} {tp : Addr} {b1 b2 : Bool} (h : H tp = some (.tup [.ty n1, .ty n2])) (t : TyX K H x (.type m)) (e1 : kitB m n1 = some b1) (e2 : kitB m n2 = some b2) (q : Q (.bl (b1 || b2)) H) :
    isiR K [x, .ref tp] H Q := by
  unfold isiR
  refine .inr (.inl ⟨x, tp, _, _, [.type n1, .type n2], b1 || b2, rfl, h, .cons (.ty n1) (.cons (.ty n2) .nil), t, ?_, q⟩)
  refine kitAny_cons (kit_ty e1) (fun z => ?_) fun z => by rw [z] <;> rfl
  subst z
  refine kitAny_cons (kit_ty e2) (fun z => ?_) fun z => by rw [z] <;> rfl
  rw [z]
  exact kitAny_nil
theorem isi_3 {K : PySem.W.Frag} {H : Hp} {Q : VK} {x : V} {n1 n2 n3 m : String} {tp : Addr} {b1 b2 b3 : Bool} (h : H tp = some (.tup [.ty n1, .ty n2, .ty n3])) (t : TyX K H x (.type m)) (e1 : kitB m n1 = some b1) (e2 : kitB m n2 = some b2)
    (e3 : kitB m n3 = some b3) (q : Q (.bl (b1 || (b2 || b3))) H) : isiR K [x, .ref tp] H Q := by
  unfold isiR
  refine .inr (.inl ⟨x, tp, _, _, [.type n1, .type n2, .type n3], b1 || (b2 || b3), rfl, h, .cons (.ty n1) (.cons (.ty n2) (.cons (.ty n3) .nil)), t, ?_, q⟩)
  refine kitAny_cons (kit_ty e1) (fun z => ?_) fun z => by rw [z] <;> rfl
  subst z
  refine kitAny_cons (kit_ty e2) (fun z => ?_) fun z => by rw [z] <;> rfl
  subst z
  refine kitAny_cons (kit_ty e3) (fun z => ?_) fun z => by rw [z] <;> rfl
  rw [z]
  exact kitAny_nil
theorem isi_x {K : PySem.W.Frag} {H : Hp} {Q : VK} {a D : Addr} {d : Option Addr} {c : V} {cv : Value} {b : Bool} (k : ClsV c cv) (h : H a = some (exk a (.ref D) d)) (hd : DictAt H d) (ec : ExcC K D) (e : PySem.W.kitOne K (.ref D) cv = some b) (q : Q (.bl b) H) :
    isiR K [.ref a, c] H Q := by unfold isiR; exact .inr (.inr ⟨a, D, d, c, cv, b, rfl, k, h, hd, ec, e, q⟩)
/-! raise -/
theorem qs_rsX {CX : CXT} {C fI : Addr} {k : Nat} {fd : FuncData} {ps fs : List Str} {es : List Expr} {ta : TA} {p' : Pos} (tk : Takes X W) (T : OexC X.K C) (h60 : fs.length ≤ 60)
    (iC : PySem.W.findIn X.K (.ref C) "__init__" = some (some (.ref fI))) (tI : PySem.W.typeIn X.K (.ref fI) = some (.type "function"))
    (F1 : FnOk X.prog X.w X.K X.mg X.base CX k fI fd ps (spInit C fs)) (hr : Room (k + 1) X.A) (hb : Binds X.K fd ps []) (hx : Passes CX X (fun _ _ _ => False)) (hm : X.mg x = some (.ref C)) (ha : PA X (e :: es) ta)
    (mono : ∀ σ H Q Q', (∀ vs H1, Q vs H1 → Q' vs H1) → ta σ H Q → ta σ H Q') (hc : X.calm = true := by rfl) (hg : Gl X x := by rfl)
    (hdb : (x == ("__debug__" : Str)) = false := by decide) (he : starEach (e :: es) X.env = (false, eval e X.env) :: starEach es X.env := by rfl) (hpl : (backTo pos (starEach es X.env)).any (·.1) = false := by rfl) :
    PS X (.Raise (some (.Call (.Name x p) (e :: es) [] pos)) none p') (xRsX C fs W ta) := by
  refine ⟨fun pins s σ H D I h => (ps_raiseX hc tk T h60 iC tI F1 hr hb hx hg hm ha hdb he hpl mono).run pins s σ H D I ?_⟩
  unfold xRsX at h
  exact h
end
end CL
end

section
set_option Elab.async false
set_option linter.all false
set_option maxRecDepth 100000
set_option maxHeartbeats 4000000
/-! CLm: dict displays; and, or, not as values; built-ins by values; a def's rule. -/
namespace CL
open PySem PySem.Spec PyProof.Rows L2

@[irreducible] def xNew : TE := tDNewK
@[irreducible] def dispR (p : Addr) (x y : V) (H : Hp) (Q : VK) : Prop := H p = some (.dK []) ∧ ∃ k : Key, x = kV k ∧ Q (.ref p) (upd H p (.dK [(k, y)]))
/-- {k: v} -/
@[irreducible] def xDisp (tk tv : TE) : TE := fun σ H Q => ∀ p, H p = none → tk σ (upd H p (.dK [])) fun x H1 => tv σ H1 fun y H2 => dispR p x y H2 Q
@[irreducible] def xAndV (a b : TE) : TE := fun σ H Q => a σ H fun x H1 => asB x H1 fun c H2 => br c (b σ H2 Q) (Q (.bl false) H2)
@[irreducible] def xOrV (a b : TE) : TE := fun σ H Q => a σ H fun x H1 => asB x H1 fun c H2 => br c (Q (.bl true) H2) (b σ H2 Q)
@[irreducible] def xNotV (a : TE) : TE := fun σ H Q => a σ H fun x H1 => asB x H1 fun c H2 => Q (.bl (!c)) H2
@[irreducible] def uNeg : V → Hp → VK → Prop := rU fun i => .int (-i)
@[irreducible] def allR (K : PySem.W.Frag) : List V → Hp → VK → Prop := rAll K
@[irreducible] def anyR (K : PySem.W.Frag) : List V → Hp → VK → Prop := rAny K
@[irreducible] def maxR (K : PySem.W.Frag) : List V → Hp → VK → Prop := rMax K
@[irreducible] def minR : List V → Hp → VK → Prop := fun xs H Q => ∃ i j, xs = [.int i, .int j] ∧ Q (.int (if j < i then j else i)) H
@[irreducible] def lenR (K : PySem.W.Frag) : List V → Hp → VK → Prop := rLen K
@[irreducible] def strR : List V → Hp → VK → Prop := fun xs H Q => ∃ i, xs = [.int i] ∧ i.natAbs.log2 < 1920 ∧ Q (.str (toString i)) H
@[irreducible] def intR : List V → Hp → VK → Prop := fun xs H Q => ((∃ i, xs = [.int i] ∧ Q (.int i) H) ∨ ∃ k, xs = [.bl k] ∧ Q (.int (if k then 1 else 0)) H) ∨ ∃ a n, xs = [.str a] ∧ PySem.intText? a = some n ∧ a.length ≤ 640 ∧ Q (.int n) H
@[irreducible] def tupR (K : PySem.W.Frag) : List V → Hp → VK → Prop := fun xs H Q => ∃ p ys, xs = [.ref p] ∧ ((SqL K H p ys ∧ ∀ l, H l = none → Q (.ref l) (upd H l (.tup ys))) ∨ (SqT K H p ys ∧ Q (.ref p) H))
@[irreducible] def srtR (K : PySem.W.Frag) : List V → Hp → VK → Prop := fun xs H Q => rSortedS K xs H Q ∨ ∃ (a : Addr) (kvs : List (Key × V)) (ks : List Str), xs = [.ref a] ∧ Rd H a (.dK kvs) ∧ kvs.map (·.1) = ks.map Sum.inr ∧ ks.length < 64 ∧
  ∀ ys p, ys.Perm ks → sortedS ys = true → H p = none → Q (.ref p) (upd H p (.lst (ys.map V.str)))
section
variable {σ : L2.St} {H : Hp} {Q : VK} {a b : TE} {x y : V} {p : Addr} {K : PySem.W.Frag} {xs : List V}
theorem g_new (q : ∀ p, H p = none → Q (.ref p) (upd H p (.dK []))) : xNew σ H Q := by unfold xNew; exact q
theorem g_disp (q : ∀ p, H p = none → a σ (upd H p (.dK [])) fun x H1 => b σ H1 fun y H2 => dispR p x y H2 Q) : xDisp a b σ H Q := by unfold xDisp; exact q
theorem dispR_i {z : Str} (h : H p = some (.dK [])) (q : Q (.ref p) (upd H p (.dK [(.inr z, y)]))) : dispR p (.str z) y H Q := by unfold dispR; exact ⟨h, .inr z, rfl, q⟩
theorem g_andV (q : a σ H fun x H1 => asB x H1 fun c H2 => br c (b σ H2 Q) (Q (.bl false) H2)) : xAndV a b σ H Q := by unfold xAndV; exact q
theorem g_orV (q : a σ H fun x H1 => asB x H1 fun c H2 => br c (Q (.bl true) H2) (b σ H2 Q)) : xOrV a b σ H Q := by unfold xOrV; exact q
theorem g_notV (q : a σ H fun x H1 => asB x H1 fun c H2 => Q (.bl (!c)) H2) : xNotV a σ H Q := by unfold xNotV; exact q
theorem uNeg_i {i : Int} (q : Q (.int (-i)) H) : uNeg (.int i) H Q := by unfold uNeg; exact ⟨i, rfl, q⟩
theorem allR_i {bs : List Bool} (h : SqL K H p (bs.map V.bl)) (q : Q (.bl (bs.all id)) H) : allR K [.ref p] H Q := by unfold allR; exact ⟨p, bs, rfl, h, q⟩
theorem anyR_i {bs : List Bool} (h : SqL K H p (bs.map V.bl)) (q : Q (.bl (bs.any id)) H) : anyR K [.ref p] H Q := by unfold anyR; exact ⟨p, bs, rfl, h, q⟩
theorem maxR_i {ns : List Int} (h : SqL K H p (ns.map V.int)) (l : 0 < ns.length) (q : ∀ m, m ∈ ns → (∀ y, y ∈ ns → y ≤ m) → Q (.int m) H) : maxR K [.ref p] H Q := by unfold maxR; exact ⟨p, ns, rfl, h, l, q⟩
theorem minR_i {i j : Int} (q : Q (.int (if j < i then j else i)) H) : minR [.int i, .int j] H Q := by unfold minR; exact ⟨i, j, rfl, q⟩
theorem lenR_l (h : SqL K H p xs) (q : Q (.int xs.length) H) : lenR K [.ref p] H Q := by unfold lenR; exact ⟨_, _, rfl, .inl ⟨xs, h, rfl⟩, q⟩
theorem lenR_t (h : SqT K H p xs) (q : Q (.int xs.length) H) : lenR K [.ref p] H Q := by unfold lenR; exact ⟨_, _, rfl, .inr ⟨xs, h, rfl⟩, q⟩
theorem strR_i {i : Int} (l : i.natAbs.log2 < 1920) (q : Q (.str (toString i)) H) : strR [.int i] H Q := by unfold strR; exact ⟨i, rfl, l, q⟩
theorem intR_b {k : Bool} (q : Q (.int (if k then 1 else 0)) H) : intR [.bl k] H Q := by unfold intR; exact .inl (.inr ⟨k, rfl, q⟩)
theorem intR_s {z : Str} {n : Int} (e : PySem.intText? z = some n) (l : z.length ≤ 640) (q : Q (.int n) H) : intR [.str z] H Q := by unfold intR; exact .inr ⟨z, n, rfl, e, l, q⟩
theorem tupR_l (h : SqL K H p xs) (q : ∀ l, H l = none → Q (.ref l) (upd H l (.tup xs))) : tupR K [.ref p] H Q := by unfold tupR; exact ⟨p, xs, rfl, .inl ⟨h, q⟩⟩
theorem srtR_l {zs : List Str} (h : SqL K H p (zs.map V.str)) (l : zs.length < 64) (q : ∀ (ys : List Str) (p : Addr), ys.Perm zs → sortedS ys = true → H p = none → Q (.ref p) (upd H p (.lst (ys.map V.str)))) : srtR K [.ref p] H Q := by
  unfold srtR; exact .inl ⟨p, zs, rfl, h, l, q⟩
theorem srtR_d {kvs : List (Key × V)} {ks : List Str} (h : Rd H p (.dK kvs)) (e : kvs.map (·.1) = ks.map Sum.inr) (l : ks.length < 64) (q : ∀ (ys : List Str) (p : Addr), ys.Perm ks → sortedS ys = true → H p = none → Q (.ref p) (upd H p (.lst (ys.map V.str)))) : srtR K [.ref p] H Q := by
  unfold srtR; exact .inr ⟨p, kvs, ks, rfl, h, e, l, q⟩
end
section
variable {X : Cx} {a b : Expr} {ta tb : TE} {rest : List Expr} {pos : Pos}
theorem px_new : PE X (.Dict [] [] pos) xNew := by unfold xNew; exact pe_dnewK
theorem px_disp (ha : PE X a ta) (hb : PE X b tb) : PE X (.Dict [some a] [b] pos) (xDisp ta tb) := by
  refine ⟨fun pins s σ H Q I h => ?_⟩
  refine thn ((pe_disp (pps_cons ha hb pps_nil) rfl rfl (by simp) (by simp)).run pins s σ H (fun v H' => Q v H') I fun p hp => ?_) fun u s' q => q
  unfold xDisp at h
  show ta σ (upd H p (.dK [])) fun x H1 => tb σ H1 fun y H2 => H2 p = some (.dK []) ∧ ∃ kvs : List (Key × V), [(x, y)] = kvs.map (fun kv => (kV kv.1, kv.2)) ∧ kvs.length ≤ 15 ∧ Q (.ref p) (upd H2 p (.dK (mergeK [] kvs)))
  have e : ∀ (x y : V) (H2 : Hp), dispR p x y H2 Q = (H2 p = some (.dK []) ∧ ∃ kvs : List (Key × V), [(x, y)] = kvs.map (fun kv => (kV kv.1, kv.2)) ∧ kvs.length ≤ 15 ∧ Q (.ref p) (upd H2 p (.dK (mergeK [] kvs)))) := fun x y H2 => by
    unfold dispR
    refine propext ⟨fun q => ?_, fun q => ?_⟩
    · obtain ⟨h1, k, rfl, h2⟩ := q
      exact ⟨h1, [(k, y)], rfl, by simp, h2⟩
    · obtain ⟨h1, kvs, e1, _, h2⟩ := q
      match kvs, e1 with
      | [(k, z)], e1 =>
        simp only [List.map_cons, List.map_nil, List.cons.injEq, Prod.mk.injEq, and_true] at e1
        obtain ⟨rfl, rfl⟩ := e1
        exact ⟨h1, k, rfl, h2⟩
  have h := h p hp
  simp only [e] at h
  exact h
/-- a truth value's reading, weakened -/
def wkE (t : TE) : TE := fun σ H Q => ∃ Q', t σ H Q' ∧ ∀ v H', Q' v H' → Q v H'
theorem PE.wk {e : Expr} {t : TE} (h : PE X e t) : PE X e (wkE t) := ⟨fun pins s σ H Q I ⟨Q', h1, h2⟩ => thn (h.run pins s σ H Q' I h1) fun u s' ⟨v, H', I', r, q⟩ => ⟨v, H', I', r, h2 v H' q⟩⟩
theorem px_one {op} (h : PE X a ta) : PE X (.BoolOp op [a] pos) ta := pe_one h
theorem px_andV (ha : PE X a ta) (hb : PE X (.BoolOp .And (b :: rest) pos) tb) : PE X (.BoolOp .And (a :: b :: rest) pos) (xAndV ta tb) := by
  refine ⟨fun pins s σ H Q I h => (pe_and (PE.wk ha) hb).run pins s σ H Q I ?_⟩
  unfold xAndV at h
  refine ⟨_, h, fun v H' q => ?_⟩
  unfold asB at q
  obtain ⟨k, e, q⟩ := q
  exact ⟨k, e, br_is q⟩
theorem px_orV (ha : PE X a ta) (hb : PE X (.BoolOp .Or (b :: rest) pos) tb) : PE X (.BoolOp .Or (a :: b :: rest) pos) (xOrV ta tb) := by
  refine ⟨fun pins s σ H Q I h => (pe_or (PE.wk ha) hb).run pins s σ H Q I ?_⟩
  unfold xOrV at h
  refine ⟨_, h, fun v H' q => ?_⟩
  unfold asB at q
  obtain ⟨k, e, q⟩ := q
  exact ⟨k, e, br_is q⟩
theorem px_notV (ha : PE X a ta) : PE X (.UnaryOp .Not a pos) (xNotV ta) := by
  refine ⟨fun pins s σ H Q I h => (pe_not (PE.wk ha)).run pins s σ H Q I ?_⟩
  unfold xNotV at h
  refine ⟨_, h, fun v H' q => ?_⟩
  unfold asB at q
  exact q
theorem u_neg : UnR X (unaryOp .USub) uNeg := by unfold uNeg; exact un_neg
theorem r_all (hc : X.calm = true := by rfl) : CallR X (.builtin "all") (allR X.K) := by unfold allR; exact cr_all hc
theorem r_any (hc : X.calm = true := by rfl) : CallR X (.builtin "any") (anyR X.K) := by unfold anyR; exact cr_any hc
theorem r_max (hc : X.calm = true := by rfl) : CallR X (.builtin "max") (maxR X.K) := by unfold maxR; exact cr_max hc
theorem r_min (hc : X.calm = true := by rfl) : CallR X (.builtin "min") minR := by unfold minR; exact call_min2 hc
theorem r_len : CallR X (.builtin "len") (lenR X.K) := by unfold lenR; exact call_len
theorem r_str : CallR X (.type "str") strR := by unfold strR; exact call_str_int
theorem r_int : CallR X (.type "int") intR := by unfold intR; exact call_int1.or call_int_str
theorem r_tup : CallR X (.type "tuple") (tupR X.K) := by unfold tupR; exact call_tuple_of
theorem r_srt (hc : X.calm = true := by rfl) : CallR X (.builtin "sorted") (srtR X.K) := by unfold srtR; exact cr_sortedS.or (call_sortedD hc)
end
/-- a def's rule, its body's ends closed -/
theorem okT {P : Program} {w : World} {K : PySem.W.Frag} {mg : Str → Option Value} {base : Heap} {x qual : Str} {params : Arguments} {body : List Stmt} {scope : Scope} {dvs : List V} {kws : List (Str × V)} {f : Addr} {fd : FuncData}
    {N ps : List Str} {k : Nat} {sp : Sp} (F : FunD K x qual params body scope dvs kws f fd) (S : FnScope N ps scope) (len : ∀ vs H Q E, sp vs H Q E → vs.length = ps.length)
    (t : WX → TS) (hd : ∀ (cdv : Value) (A : Around) (outer : List Env) (s : Shared) (H : Hp) (E : XK), Room k (A.deeper (envOfC qual scope s.heap.objs.size f cdv)) →
      PSs (cxOf (L2.CX P w) P w K mg base N qual scope f cdv A outer s H E) body (t fun cls d _ H' => E cls d H'))
    (hw : ∀ (H : Hp) (vs : List V) (Q : VK) (E : XK), sp vs H Q E → t (fun cls d _ H' => E cls d H') (topE Q) (start N vs) H) : FnOk P w K mg base (L2.CX P w) (k + 1) f fd ps sp :=
  F.ok S len fun cdv A outer s H vs Q E hr h => ⟨_, hd cdv A outer s H E hr, by
    have q := hw H vs Q E h
    unfold topE at q
    exact q⟩
/-- the wish of a def's body -/
theorem takesT {P : Program} {w : World} {K : PySem.W.Frag} {mg : Str → Option Value} {base : Heap} {N : List Str} {qual : Str} {scope : Scope} {f : Addr} {cd : Value} {A : Around} {outer : List Env} {s : Shared} {H : Hp} {E : XK} :
    Takes (cxOf (L2.CX P w) P w K mg base N qual scope f cd A outer s H E) fun cls d _ H' => E cls d H' := takes_of rfl rfl rfl rfl
theorem passesT {P : Program} {w : World} {K : PySem.W.Frag} {mg : Str → Option Value} {base : Heap} {N : List Str} {qual : Str} {scope : Scope} {f : Addr} {cd : Value} {A : Around} {outer : List Env} {s : Shared} {H : Hp} {E : XK} :
    PassesOwn (model P w) (cxOf (L2.CX P w) P w K mg base N qual scope f cd A outer s H E).A (cxOf (L2.CX P w) P w K mg base N qual scope f cd A outer s H E).env (cxOf (L2.CX P w) P w K mg base N qual scope f cd A outer s H E).xe :=
  passes_of (X := cxOf (L2.CX P w) P w K mg base N qual scope f cd A outer s H E) rfl
theorem g_yes {σ : L2.St} {H : Hp} {Q : Bool → Hp → Prop} (q : Q true H) : tYes σ H Q := q
@[irreducible] def xTry (K : PySem.W.Frag) (c : Value) (i : Nat) (tb : WX → TS) (ts : Addr → Value → Option Addr → TS) : TS := fun D σ H => tb (wKeep K c i ts D) D σ H
theorem g_try {K : PySem.W.Frag} {c : Value} {i : Nat} {tb : WX → TS} {ts : Addr → Value → Option Addr → TS} {D : Ends} {σ : L2.St} {H : Hp} (q : tb (wKeep K c i ts D) D σ H) : xTry K c i tb ts D σ H := by unfold xTry; exact q
section
variable {X : Cx} {x n : Str} {c : Value} {i : Nat} {body suite : List Stmt} {b₀ : Stmt} {np pos pos' : Pos} {tb : WX → TS} {ts : Addr → Value → Option Addr → TS}
theorem qs_try (hN : X.N.Nodup) (hc : Names X x c) (hb : ∀ (W : WX) (pn : List (Addr × Obj)) (xe : Value → Shared → Prop), Takes (X.tr pn xe) W → PassesOwn (model X.prog X.w) X.A X.env xe → PSs (X.tr pn xe) body (tb W))
    (hsu : ∀ (a : Addr) (oe : Obj) (cls : Value) (d : Option Addr) (pn : List (Addr × Obj)), Zc cls d oe → (∃ vs, oe.data = .fields vs) → PSs (X.suite a ((a, oe) :: pn)) (b₀ :: suite) (ts a cls d))
    (hst : X.stack = X.env :: X.outer := by rfl) (hf : X.env.frame = some X.env.locals := by rfl) (hi : X.N[i]? = some n := by rfl) (hln : X.env.kindOf n = some .local := by rfl) (hex : X.ex = [] := by rfl) :
    PS X (.Try body [.ExceptHandler (some (.Name x np)) (some n) (b₀ :: suite) pos'] [] [] pos) (xTry X.K c i tb ts) := by
  unfold xTry
  exact ps_try_keep hst hf hN hi hln hc hex hb hsu
end
abbrev OwnE (K : PySem.W.Frag) (C : Addr) : Prop := PySem.W.excIn K C He.veBase "ValueError.__new__" = true ∧ PySem.W.keepIn K (.ref C) = true ∧ PySem.W.subIn K (.ref C) (.type "BaseException") = some true ∧ PySem.W.typeIn K (.ref C) = some (.type "type")
/-- raise C('..'), C an own error class without an __init__ of its own -/
theorem qs_rs {X : Cx} {W : WX} {C : Addr} {x z : Str} {i : Nat} {c p pos pos' : Pos} (tk : Takes X W) (T : OwnE X.K C) (hm : X.mg x = some (.ref C)) (hc : X.calm = true := by rfl) (hg : Gl X x := by rfl) (hdb : (x == ("__debug__" : Str)) = false := by decide)
    (he : starEach [.Constant (.str z) i c] X.env = (false, eval (.Constant (.str z) i c) X.env) :: starEach [] X.env := by rfl) (hpl : (backTo pos (starEach [] X.env)).any (·.1) = false := by rfl) :
    PS X (.Raise (some (.Call (.Name x p) [.Constant (.str z) i c] [] pos)) none pos') (xRs C W) := by
  refine ⟨fun pins s σ H D I h => (ps_raise hc tk (pmk_ownA PySem.F.excBase_ValueError T.1 hm T.2.1 (raises_own T.2.2.1 T.2.2.2) hg (pa_cons pe_str pa_nil he) hdb he hpl)).run pins s σ H D I ?_⟩
  unfold xRs at h
  exact ⟨by rw [sizeLine_eq]; simp, h⟩
/-- the arguments of raise NoText(0, self.at): weakening -/
theorem mono_if {K : PySem.W.Frag} {i : Nat} {f : Str} {k : Int} : ∀ (σ : L2.St) (H : Hp) (Q Q' : List V → Hp → Prop), (∀ vs H1, Q vs H1 → Q' vs H1) → xCons (xC (.int k)) (xCons (xFld K (xVar i) f) xNil) σ H Q → xCons (xC (.int k)) (xCons (xFld K (xVar i) f) xNil) σ H Q' := by
  intro σ H Q Q' hq h
  unfold xCons xC xFld xVar xNil fldR at h ⊢
  obtain ⟨v, e, h⟩ := h
  refine ⟨v, e, ?_⟩
  rcases h with ⟨p, C, dx, fs, y, e, a1, a2, a3, a4, q⟩ | ⟨p, D, d, fs, y, e, a1, a2, a3, a4, a5, q⟩
  · exact .inl ⟨p, C, dx, fs, y, e, a1, a2, a3, a4, hq _ _ q⟩
  · exact .inr ⟨p, D, d, fs, y, e, a1, a2, a3, a4, a5, hq _ _ q⟩
/-- a text by its signs -/
abbrev S (l : List Nat) : Str := ⟨l.toArray⟩
end CL
end

section
set_option Elab.async false
set_option linter.all false
set_option maxRecDepth 100000
set_option maxHeartbeats 4000000
/-! CLw: calls with keywords. -/
namespace CL
open PySem PySem.Spec PyProof.Rows L2
structure CalN (P : Program) (w : World) (K : PySem.W.Frag) (mg : Str → Option Value) (base : Heap) (k : Nat) (x : Str) (sp : Sp) (n : Nat) (ks : List Str) (gV : List V → List V → List V) : Prop where
  ex : ∃ (f : Addr) (fd : FuncData) (ps : List Str) (g : List Value → List Value → List Value), mg x = some (.ref f) ∧ PySem.W.keepIn K (.ref f) = true ∧ FnOk P w K mg base (L2.CX P w) k f fd ps sp ∧ KBn K fd ps n ks g gV
@[irreducible] def calN (n m : Nat) (sp : Sp) (gV : List V → List V → List V) (vs zs : List V) (H : Hp) (Q : VK) (E : XK) : Prop := vs.length = n ∧ zs.length = m ∧ sp (gV vs zs) H Q E
@[irreducible] def xCallN (n m : Nat) (sp : Sp) (gV : List V → List V → List V) (W : WX) (t tk : TA) : TE := fun σ H Q => t σ H fun vs H1 => tk σ H1 fun zs H2 => calN n m sp gV vs zs H2 Q fun cls d H' => W cls d σ H'
theorem g_callN {n m : Nat} {sp : Sp} {gV : List V → List V → List V} {W : WX} {t tk : TA} {σ : L2.St} {H : Hp} {Q : VK} (q : t σ H fun vs H1 => tk σ H1 fun zs H2 => calN n m sp gV vs zs H2 Q fun cls d H' => W cls d σ H') : xCallN n m sp gV W t tk σ H Q := by unfold xCallN; exact q
theorem calN_i {n m : Nat} {sp : Sp} {gV : List V → List V → List V} {vs zs : List V} {H : Hp} {Q : VK} {E : XK} (l1 : vs.length = n) (l2 : zs.length = m) (q : sp (gV vs zs) H Q E) : calN n m sp gV vs zs H Q E := by unfold calN; exact ⟨l1, l2, q⟩
section
variable {X : Cx} {e : Expr} {es : List Expr} {kws : List Keyword} {t tz : TA} {p pos : Pos} {W : WX} {x : Str} {sp : Sp} {j k n m : Nat} {ks : List Str} {gV : List V → List V → List V}
theorem run_callN {f : Addr} {fd : FuncData} {ps : List Str} {g : List Value → List Value → List Value} {pins : List (Addr × Obj)} {σ : L2.St} {H : Hp} {s : Shared} {Q : VK} {us ws : List Value} {vs zs : List V} (tk : Takes X W) (F : FnOk X.prog X.w X.K X.mg X.base (L2.CX X.prog X.w) k f fd ps sp) (hr : Room k X.A) (hb : KBn X.K fd ps n ks g gV)
    (I : L2.Inv X pins σ H s) (r : Vals vs us) (rz : Vals zs ws) (l1 : vs.length = n) (l2 : zs.length = ks.length) (h : sp (gV vs zs) H Q fun cls d H' => W cls d σ H') : wpAny (model X.prog X.w) X.A (call (.ref f) us (ks.zip ws)) (EP X pins σ Q) X.xe s := by
  have r2 := hb.rel r rz
  refine wpAny_call (codeAny_mono (F.run X.A X.stack s H ⟨us, ks.zip ws⟩ (g us ws) (gV vs zs) Q (WE W σ) hr I.env0 (hb.to s us ws I.kIn (r.length.symm.trans l1) (rz.length.symm.trans l2)) r2 h) fun r s' hq => ?_)
  cases r with
  | error e => exact passAt tk σ pins H s e s' I hq
  | ok fl =>
    cases fl with
    | ret u => exact I.after hq
    | next => exact False.elim hq
    | brk => exact False.elim hq
    | cont => exact False.elim hq
theorem px_callN (c : CalN X.prog X.w X.K X.mg X.base k x sp n ks gV) (hr : Room j X.A) (hk : k ≤ j) (tk : Takes X W) (ha : PA X (e :: es) t) (hkw : PK X kws tz) (hg : Gl X x := by rfl) (hm : ks.length = m := by rfl)
    (hall : (backToKw pos (keywordEach kws X.env)).all (·.1.isSome) = true := by rfl) (hks : (backToKw pos (keywordEach kws X.env)).filterMap (·.1) = ks := by rfl)
    (hdb : (x == ("__debug__" : Str)) = false := by decide) (he : starEach (e :: es) X.env = (false, eval e X.env) :: starEach es X.env := by rfl)
    (hpl : ((backTo pos (starEach (e :: es) X.env)).any (·.1) || (backToKw pos (keywordEach kws X.env)).any (·.1.isNone)) = false := by rfl) :
    PE X (.Call (.Name x p) (e :: es) kws pos) (xCallN n m sp gV W t tz) := by
  obtain ⟨f, fd, ps, g, hmm, kp, F, b⟩ := c.ex
  refine ⟨fun pins s σ H Q I h => ?_⟩
  unfold xCallN calN at h
  refine wpAny_Call_Name_kw (ld_glob I hg hmm ?_ hdb)
  refine PySem.W.callWith_KW (h₀ := X.base) I.ok.mod.kin kp hall (thn (ha.run pos pins s σ H _ I h) fun us s1 ⟨vs, H1, I1, r, q⟩ => ?_) hpl he
  refine thn (hkw.run pos pins s1 σ H1 _ I1 q) fun ws s2 ⟨zs, H2, I2, rz, l1, l2, q2⟩ => ⟨I2.kIn, ?_⟩
  rw [hks]
  exact run_callN tk (F.mono hk) hr b I2 r rz l1 (l2.trans hm.symm) q2
theorem px_callN0 (c : CalN X.prog X.w X.K X.mg X.base k x sp 0 ks gV) (hr : Room j X.A) (hk : k ≤ j) (tk : Takes X W) (hkw : PK X kws tz) (hg : Gl X x := by rfl) (hm : ks.length = m := by rfl)
    (hall : (backToKw pos (keywordEach kws X.env)).all (·.1.isSome) = true := by rfl) (hks : (backToKw pos (keywordEach kws X.env)).filterMap (·.1) = ks := by rfl)
    (hdb : (x == ("__debug__" : Str)) = false := by decide)
    (hpl : ((backTo pos (starEach [] X.env)).any (·.1) || (backToKw pos (keywordEach kws X.env)).any (·.1.isNone)) = false := by rfl) :
    PE X (.Call (.Name x p) [] kws pos) (xCallN 0 m sp gV W xNil tz) := by
  obtain ⟨f, fd, ps, g, hmm, kp, F, b⟩ := c.ex
  refine ⟨fun pins s σ H Q I h => ?_⟩
  unfold xCallN calN xNil at h
  refine wpAny_Call_Name_kw (ld_glob I hg hmm ?_ hdb)
  refine PySem.W.callWith_KW0 (h₀ := X.base) I.ok.mod.kin kp hall ?_ hpl
  refine thn (hkw.run pos pins s σ H _ I h) fun ws s2 ⟨zs, H2, I2, rz, l1, l2, q2⟩ => ⟨I2.kIn, ?_⟩
  rw [hks]
  exact run_callN tk (F.mono hk) hr b I2 .nil rz l1 (l2.trans hm.symm) q2
end
end CL
end

section
set_option Elab.async false
set_option linter.all false
set_option maxRecDepth 100000
set_option maxHeartbeats 4000000
/-! CLh: what a head looks at, the statics' own namespace among it. -/
namespace CL
open PySem PySem.Spec PyProof.Rows L2
def frC (n : Nat) (g : Addr → Option Obj) : PySem.W.Frag := He.frT g (cStatics :: He.asD g n)
abbrev AlC : Type := He.AlT × Bool
def obsC (n : Nat) (fa : List He.Fa) (fn : List He.DefD) (ts : List He.Tab) (ex : PySem.W.Frag → Bool) (g : Addr → Option Obj) : AlC := (He.obsT fa fn ts (frC n g), ex (frC n g))
structure SaysC (fa : List He.Fa) (fn : List He.DefD) (ts : List He.Tab) (ex : PySem.W.Frag → Bool) (w : World) (K : PySem.W.Frag) : Prop where
  t : He.SaysT fa fn ts w K
  more : ex K = true
def hookC (n : Nat) (fa : List He.Fa) (fn : List He.DefD) (ts : List He.Tab) (ex : PySem.W.Frag → Bool) : PySem.W.Hook where
  α := AlC
  obs := fun s => obsC n fa fn ts ex s.heap.get?
  val := fun w => (He.valT fn ts w, true)
  says := fun w h => ∃ K : PySem.W.Frag, K.In h ∧ SaysC fa fn ts ex w K
  of := fun _ s e => ⟨frC n s.heap.get?, He.frT_in, ⟨congrArg (fun z : AlC => z.1) e, congrArg (fun z : AlC => z.2) e⟩⟩
  keeps := fun _ _ _ ⟨K, hK, c⟩ k => ⟨K, PySem.W.Frag.In.keeps hK k, c⟩
theorem obsC_eq {n : Nat} {fa : List He.Fa} {fn : List He.DefD} {ts : List He.Tab} {ex : PySem.W.Frag → Bool} {g : Addr → Option Obj} {s : Shared} (h : ∀ a, g a = s.heap.get? a) : obsC n fa fn ts ex g = (hookC n fa fn ts ex).obs s := by
  have e : g = s.heap.get? := funext h
  rw [e] <;> rfl
end CL
end

section
set_option Elab.async false
set_option linter.all false
set_option maxRecDepth 100000
set_option maxHeartbeats 4000000
/-! CLz: a law's end, what its defs let out told world by world. -/
namespace CL
open PySem PySem.Spec PyProof.Rows L2
/-- what the law's own def is, at a world -/
structure LawD (l : PySem.W.OpenLaw) (n k : Nat) (x : Str) (w : World) (CX : CXT) (mg : Str → Option Value) (fa : Addr) (h : Heap) : Prop where
  ex : ∃ (K : PySem.W.Frag) (fd : FuncData) (sp : Sp), K.In h ∧ (∀ (s : Shared) (u : Value), BindsTo s fd ⟨[u], []⟩ [(x, u)]) ∧
    (∀ (H : Hp) (a : Addr) (ns : List Int), ns.length ≤ n → SqL K H a (ns.map V.int) → sp [.ref a] H (fun v _ => v = .bl true) fun _ _ _ => False) ∧
    ∀ b : Heap, K.In b → b.Ns mainGlobals mg → FnOk l.prog w K mg b CX k fa fd [x] sp
theorem walk_w {l : PySem.W.OpenLaw} {n k : Nat} {q : Program} {loose : List Str} {XP : (Str → Option Value) → Heap → Prop} {YP : World → Heap → Prop} {d : DefRec} {CX : World → CXT} {x : Str}
    (e1 : l.most = some n) (e2 : n ≤ sizeLine) (e3 : d.params.defaults = []) (room : Room k callerA)
    (F : ∀ (w : World) (mg : Str → Option Value) (fa : Addr) (h : Heap), YP w h → h.Ns mainGlobals mg → mg d.name = some (.ref fa) → LawD l n k x w (CX w) mg fa h)
    (out : ∀ (w : World) (H : Hp) (s : Shared) (e : Value) (s' : Shared), ¬ CX w [] H s (fun _ _ _ => False) e s') : PySem.W.WalkO q loose XP YP l.row.toRowW d [] (fun f vs => PySem.call f vs) :=
  Att.attach_call e1 e3 fun w s0 s1 mg mb fa o pm cd doc a vs ns G Y ho hd hcd hmg hobj hints hlen hg => by
    obtain ⟨K, fd, sp, kin, bind, prom, ok⟩ := (F w mg fa _ Y G.T.g hmg).ex
    have small := Nat.le_trans hlen e2
    refine law_call kin G.T.g G.T.b G.T.builtins G.T.nolimit hg hobj hints small room ok bind (fun H _ sq => prom H a ns hlen sq) ?_
    exact fun H e s' z => out w H s1 e s' z
end CL
end

section
set_option Elab.async false
set_option linter.all false
set_option maxRecDepth 100000
set_option maxHeartbeats 4000000
/-! CLy: from what a head tells to what the walks ask: tables, calls by name. -/
namespace CL
open PySem PySem.Spec PyProof.Rows L2
theorem tab_keys {K : PySem.W.Frag} {w : World} {a : Addr} {es : Array DictEntry} {n : Nat} {ks : List Str} (D : KDict K w a es n) (e : He.dicW K a = some (He.keysIn w.params ks)) : es.toList.map He.keyOf = He.keysIn w.params ks := by
  unfold He.dicW at e
  rw [D.at_] at e
  dsimp only at e
  split at e
  · exact Option.some.inj e
  · cases e
theorem lookup_memS {α : Type} {z : Str} {v : α} : ∀ {l : List (Str × α)}, l.lookup z = some v → (z, v) ∈ l
  | [], h => by cases h
  | (b, u) :: r, h => by
    rw [List.lookup_cons] at h
    cases q : (z == b) with
    | true =>
      rw [q] at h
      have e : u = v := Option.some.inj h
      rw [beq_iff_eq.mp q, e]
      exact List.mem_cons_self
    | false =>
      rw [q] at h
      exact List.mem_cons_of_mem _ (lookup_memS h)
theorem tab_at {K : PySem.W.Frag} {w : World} {a : Addr} {ks : List Str} {kvs : List (Str × He.Dv)} (e : He.dicW K a = some (He.keysIn w.params ks)) (hv : He.valsB K a kvs = true) (hk : kvs.map (·.1) = ks) (z : Str) : KDAt K w a z ((kvs.lookup z).map (He.Dv.v K)) := by
  obtain ⟨es, n, D⟩ := He.dicW_ok e
  have hm := tab_keys D e
  refine ⟨es, n, D, ?_⟩
  cases q : kvs.lookup z with
  | some dv =>
    have hmem : (z, dv) ∈ kvs := lookup_memS q
    obtain ⟨u, h1, h2⟩ := He.valsB_ok hv hmem
    exact ⟨some u, h1, h2⟩
  | none =>
    refine ⟨none, ?_, trivial⟩
    have hz : z ∉ ks := fun hin => by
      rw [← hk] at hin
      obtain ⟨p, hp, rfl⟩ := List.mem_map.mp hin
      have := List.lookup_eq_none_iff.mp q p hp
      simp at this
    have key : ∀ d ∈ es.toList, ∃ x t, d.key = .str x t ∧ x ∈ ks := fun d hd => by
      have h1 : He.keyOf d ∈ es.toList.map He.keyOf := List.mem_map_of_mem hd
      rw [hm] at h1
      obtain ⟨x, hx, h2⟩ := List.mem_map.mp h1
      unfold He.keyOf at h2
      cases hkk : d.key with
      | str y t =>
        rw [hkk] at h2
        have h3 := Option.some.inj h2
        refine ⟨y, t, rfl, ?_⟩
        rw [← (Prod.mk.inj h3).1]
        exact hx
      | _ => rw [hkk] at h2; cases h2
    unfold PySem.W.nsIn
    rw [D.at_]
    dsimp only
    have hf : es.toList.find? (fun d => d.key.isStr z) = none := List.find?_eq_none.mpr fun d hd h => by
      obtain ⟨x, t, h1, h2⟩ := key d hd
      rw [h1] at h
      have h3 : x = z := by simpa [Value.isStr] using h
      exact hz (h3 ▸ h2)
    rw [hf]
    dsimp only
    have ha : es.toList.any (·.refKey) = false := List.any_eq_false.mpr fun d hd h => by
      obtain ⟨x, t, h1, h2⟩ := key d hd
      unfold DictEntry.refKey at h
      rw [h1] at h
      cases h
    rw [ha]
    rfl
end CL
end

section
set_option Elab.async false
set_option linter.all false
set_option maxRecDepth 100000
set_option maxHeartbeats 0
namespace K96
open PySem PySem.Spec PyProof.Rows L2 CL
def top (i : Nat) : Stmt := PySem.Challenge.pw_clockloom_k96_papers_written.main.body.getD i (.Pass ⟨0, 0, 0, 0⟩)
def mth (i j : Nat) : Stmt := (match top i with
  | .ClassDef _ _ _ b _ _ _ _ _ _ _ => b
  | _ => []).getD j (.Pass ⟨0, 0, 0, 0⟩)
abbrev s_NoText_init : Stmt := mth 2 0
abbrev s_is_bare : Stmt := top 11
abbrev s_sign_text : Stmt := top 12
abbrev s_word_text : Stmt := top 13
abbrev s_plain_text : Stmt := top 14
abbrev s_things_text : Stmt := top 15
abbrev s_text_of : Stmt := top 16
abbrev s_paper_text : Stmt := top 17
abbrev s_Strip_init : Stmt := mth 18 0
abbrev s_Strip_sign : Stmt := mth 18 1
abbrev s_Strip_must_be : Stmt := mth 18 2
abbrev s_Strip_may : Stmt := mth 18 3
abbrev s_Strip_run : Stmt := mth 18 4
abbrev s_Strip_whole_number : Stmt := mth 18 5
abbrev s_Strip_quoted : Stmt := mth 18 6
abbrev s_Strip_key : Stmt := mth 18 7
abbrev s_Strip_thing : Stmt := mth 18 8
abbrev s_Strip_things : Stmt := mth 18 9
abbrev s_Strip_pairs : Stmt := mth 18 10
abbrev s_read_paper : Stmt := top 19
abbrev s__law_purse : Stmt := top 21
abbrev s__law_draw : Stmt := top 22
abbrev s__law_text : Stmt := top 23
abbrev s__law_plain : Stmt := top 24
abbrev s__law_thing : Stmt := top 25
abbrev s__law_nested : Stmt := top 26
abbrev s__law_is_bare : Stmt := top 27
abbrev s__law_word : Stmt := top 28
abbrev s__law_spelt : Stmt := top 29
abbrev s__law_depth : Stmt := top 30
abbrev s__law_kind : Stmt := top 31
abbrev s__law_like : Stmt := top 32
abbrev s__law_too_deep : Stmt := top 33
abbrev s__law_plain_end : Stmt := top 34
abbrev s_law : Stmt := top 35
abbrev FnP (K : PySem.W.Frag) (x q : Str) (st : Stmt) (f : Addr) (fd : FuncData) : Prop := FunD K x q (defArgs st) (defBody st) (defScope st) [] [] f fd
def d_NoText_init : He.DefD := ⟨("NoText", some "__init__"), "__init__", "NoText.__init__", defArgs s_NoText_init, defBody s_NoText_init, defScope s_NoText_init, [], []⟩
def d_is_bare : He.DefD := ⟨("is_bare", none), "is_bare", "is_bare", defArgs s_is_bare, defBody s_is_bare, defScope s_is_bare, [], []⟩
def d_sign_text : He.DefD := ⟨("sign_text", none), "sign_text", "sign_text", defArgs s_sign_text, defBody s_sign_text, defScope s_sign_text, [], []⟩
def d_word_text : He.DefD := ⟨("word_text", none), "word_text", "word_text", defArgs s_word_text, defBody s_word_text, defScope s_word_text, [], []⟩
def d_plain_text : He.DefD := ⟨("plain_text", none), "plain_text", "plain_text", defArgs s_plain_text, defBody s_plain_text, defScope s_plain_text, [], []⟩
def d_things_text : He.DefD := ⟨("things_text", none), "things_text", "things_text", defArgs s_things_text, defBody s_things_text, defScope s_things_text, [], []⟩
def d_text_of : He.DefD := ⟨("text_of", none), "text_of", "text_of", defArgs s_text_of, defBody s_text_of, defScope s_text_of, [], []⟩
def d_paper_text : He.DefD := ⟨("paper_text", none), "paper_text", "paper_text", defArgs s_paper_text, defBody s_paper_text, defScope s_paper_text, [], [("deep", .int 40)]⟩
def d_Strip_init : He.DefD := ⟨("Strip", some "__init__"), "__init__", "Strip.__init__", defArgs s_Strip_init, defBody s_Strip_init, defScope s_Strip_init, [], []⟩
def d_Strip_sign : He.DefD := ⟨("Strip", some "sign"), "sign", "Strip.sign", defArgs s_Strip_sign, defBody s_Strip_sign, defScope s_Strip_sign, [], []⟩
def d_Strip_must_be : He.DefD := ⟨("Strip", some "must_be"), "must_be", "Strip.must_be", defArgs s_Strip_must_be, defBody s_Strip_must_be, defScope s_Strip_must_be, [], []⟩
def d_Strip_may : He.DefD := ⟨("Strip", some "may"), "may", "Strip.may", defArgs s_Strip_may, defBody s_Strip_may, defScope s_Strip_may, [], []⟩
def d_Strip_run : He.DefD := ⟨("Strip", some "run"), "run", "Strip.run", defArgs s_Strip_run, defBody s_Strip_run, defScope s_Strip_run, [], []⟩
def d_Strip_whole_number : He.DefD := ⟨("Strip", some "whole_number"), "whole_number", "Strip.whole_number", defArgs s_Strip_whole_number, defBody s_Strip_whole_number, defScope s_Strip_whole_number, [], []⟩
def d_Strip_quoted : He.DefD := ⟨("Strip", some "quoted"), "quoted", "Strip.quoted", defArgs s_Strip_quoted, defBody s_Strip_quoted, defScope s_Strip_quoted, [], []⟩
def d_Strip_key : He.DefD := ⟨("Strip", some "key"), "key", "Strip.key", defArgs s_Strip_key, defBody s_Strip_key, defScope s_Strip_key, [], []⟩
def d_Strip_thing : He.DefD := ⟨("Strip", some "thing"), "thing", "Strip.thing", defArgs s_Strip_thing, defBody s_Strip_thing, defScope s_Strip_thing, [], []⟩
def d_Strip_things : He.DefD := ⟨("Strip", some "things"), "things", "Strip.things", defArgs s_Strip_things, defBody s_Strip_things, defScope s_Strip_things, [], []⟩
def d_Strip_pairs : He.DefD := ⟨("Strip", some "pairs"), "pairs", "Strip.pairs", defArgs s_Strip_pairs, defBody s_Strip_pairs, defScope s_Strip_pairs, [], []⟩
def d_read_paper : He.DefD := ⟨("read_paper", none), "read_paper", "read_paper", defArgs s_read_paper, defBody s_read_paper, defScope s_read_paper, [], [("deep", .int 40)]⟩
def d__law_purse : He.DefD := ⟨("_law_purse", none), "_law_purse", "_law_purse", defArgs s__law_purse, defBody s__law_purse, defScope s__law_purse, [], []⟩
def d__law_draw : He.DefD := ⟨("_law_draw", none), "_law_draw", "_law_draw", defArgs s__law_draw, defBody s__law_draw, defScope s__law_draw, [], []⟩
def d__law_text : He.DefD := ⟨("_law_text", none), "_law_text", "_law_text", defArgs s__law_text, defBody s__law_text, defScope s__law_text, [], []⟩
def d__law_plain : He.DefD := ⟨("_law_plain", none), "_law_plain", "_law_plain", defArgs s__law_plain, defBody s__law_plain, defScope s__law_plain, [], []⟩
def d__law_thing : He.DefD := ⟨("_law_thing", none), "_law_thing", "_law_thing", defArgs s__law_thing, defBody s__law_thing, defScope s__law_thing, [], []⟩
def d__law_nested : He.DefD := ⟨("_law_nested", none), "_law_nested", "_law_nested", defArgs s__law_nested, defBody s__law_nested, defScope s__law_nested, [], []⟩
def d__law_is_bare : He.DefD := ⟨("_law_is_bare", none), "_law_is_bare", "_law_is_bare", defArgs s__law_is_bare, defBody s__law_is_bare, defScope s__law_is_bare, [], []⟩
def d__law_word : He.DefD := ⟨("_law_word", none), "_law_word", "_law_word", defArgs s__law_word, defBody s__law_word, defScope s__law_word, [], []⟩
def d__law_spelt : He.DefD := ⟨("_law_spelt", none), "_law_spelt", "_law_spelt", defArgs s__law_spelt, defBody s__law_spelt, defScope s__law_spelt, [], []⟩
def d__law_depth : He.DefD := ⟨("_law_depth", none), "_law_depth", "_law_depth", defArgs s__law_depth, defBody s__law_depth, defScope s__law_depth, [], []⟩
def d__law_kind : He.DefD := ⟨("_law_kind", none), "_law_kind", "_law_kind", defArgs s__law_kind, defBody s__law_kind, defScope s__law_kind, [], []⟩
def d__law_like : He.DefD := ⟨("_law_like", none), "_law_like", "_law_like", defArgs s__law_like, defBody s__law_like, defScope s__law_like, [], []⟩
def d__law_too_deep : He.DefD := ⟨("_law_too_deep", none), "_law_too_deep", "_law_too_deep", defArgs s__law_too_deep, defBody s__law_too_deep, defScope s__law_too_deep, [], []⟩
def d__law_plain_end : He.DefD := ⟨("_law_plain_end", none), "_law_plain_end", "_law_plain_end", defArgs s__law_plain_end, defBody s__law_plain_end, defScope s__law_plain_end, [], []⟩
def d_law : He.DefD := ⟨("law", none), "law", "law", defArgs s_law, defBody s_law, defScope s_law, [], []⟩
def fn : List He.DefD := [d_NoText_init, d_is_bare, d_sign_text, d_word_text, d_plain_text, d_things_text, d_text_of, d_paper_text, d_Strip_init, d_Strip_sign, d_Strip_must_be, d_Strip_may, d_Strip_run, d_Strip_whole_number, d_Strip_quoted, d_Strip_key, d_Strip_thing, d_Strip_things, d_Strip_pairs, d_read_paper, d__law_purse, d__law_draw, d__law_text, d__law_plain, d__law_thing, d__law_nested, d__law_is_bare, d__law_word, d__law_spelt, d__law_depth, d__law_kind, d__law_like, d__law_too_deep, d__law_plain_end, d_law]
def gloN : List Str := ["is_bare", "sign_text", "word_text", "plain_text", "things_text", "text_of", "paper_text", "read_paper", "_law_purse", "_law_draw", "_law_text", "_law_plain", "_law_thing", "_law_nested", "_law_is_bare", "_law_word", "_law_spelt", "_law_depth", "_law_kind", "_law_like", "_law_too_deep", "_law_plain_end", "law", "LoomError", "NoText", "TooDeep", "Strip", "KEPT", "ENDS"]
def freN : List Str := ["ValueError", "all", "bool", "dict", "enumerate", "int", "isinstance", "len", "list", "max", "min", "range", "sorted", "str", "tuple", "zip"]
def strN : List (Str × Str) := [("SMALL", "abcdefghijklmnopqrstuvwxyz"), ("FIGURES", "0123456789")]
def intN : List (Str × Int) := [("MOST_DEEP", 40), ("DEEPEST", 100)]
def clsN : List Str := ["Strip"]
def fldN : List (Str × Str) := [("Strip", "text"), ("Strip", "at"), ("NoText", "row"), ("NoText", "at")]
def metN : List (Str × Str) := [("Strip", "sign"), ("Strip", "must_be"), ("Strip", "may"), ("Strip", "run"), ("Strip", "whole_number"), ("Strip", "quoted"), ("Strip", "key"), ("Strip", "thing"), ("Strip", "things"), ("Strip", "pairs")]
def mkrN : List Str := ["Strip"]
def excN : List Str := ["TooDeep"]
def errN : List Str := ["NoText", "TooDeep"]
def basN : List Str := ["LoomError"]
def iniN : List Str := ["NoText"]
def exmN : List (Str × Str) := [("TooDeep", "LoomError"), ("NoText", "LoomError")]
def kitN : List (Str × Str × Bool) := [("NoText", "TooDeep", false), ("TooDeep", "TooDeep", true), ("TooDeep", "NoText", false), ("NoText", "NoText", true)]
def kitV : List (Str × String × Bool) := [("NoText", "ValueError", true), ("TooDeep", "ValueError", true)]
def fa : List He.Fa := gloN.map .glo ++ (freN.map .free ++ (strN.map (fun p => .str p.1 p.2) ++ (intN.map (fun p => .int p.1 p.2) ++ (clsN.map .cls ++ (fldN.map (fun p => .noat p.1 p.2) ++ (metN.map (fun p => .meth p.1 p.2) ++ (mkrN.map .mkr ++ (excN.map .exc ++ exmN.map (fun p => .exm p.1 p.2 true)))))))))
def loose : List Str := ["LoomError", "NoText", "TooDeep", "SMALL", "MOST_DEEP", "DEEPEST", "FIGURES", "KEPT", "ENDS", "is_bare", "sign_text", "word_text", "plain_text", "things_text", "text_of", "paper_text", "Strip", "read_paper", "_law_purse", "_law_draw", "_law_text", "_law_plain", "_law_thing", "_law_nested", "_law_is_bare", "_law_word", "_law_spelt", "_law_depth", "_law_kind", "_law_like", "_law_too_deep", "_law_plain_end"]
def ts : List He.Tab := [(fun K => He.ga K "KEPT", ["none", "yes", "no"]), (fun K => He.ga K "ENDS", ["(", "[", "{"])]
def ex (K : PySem.W.Frag) : Bool := (errN.all fun x => errB K (He.ga K x)) && ((basN.all fun x => baseB K (He.ga K x)) && ((iniN.all fun x => decide (PySem.W.findIn K (.ref (He.ga K x)) "__init__" = some (some (.ref (He.ma K (He.ga K x) "__init__")))) && decide (PySem.W.typeIn K (.ref (He.ma K (He.ga K x) "__init__")) = some (.type "function"))) &&
  ((kitN.all fun p => decide (PySem.W.kitOne K (.ref (He.ga K p.1)) (.ref (He.ga K p.2.1)) = some p.2.2)) && ((kitV.all fun p => decide (PySem.W.kitOne K (.ref (He.ga K p.1)) (.type p.2.1) = some p.2.2)) && ((He.valsB K (He.ga K "KEPT") [("none", .non), ("yes", .bl true), ("no", .bl false)]) && (He.valsB K (He.ga K "ENDS") [("(", .str ")"), ("[", .str "]"), ("{", .str "}")]))))))
abbrev R : PySem.W.OpenRow := PySem.W.OpenLaw.row PySem.Challenge.rw_clockloom_k96_papers_written
abbrev hk : PySem.W.Hook := hookC 5 fa fn ts ex
def ob (s : PySem.W.SharedT) : AlC := obsC 5 fa fn ts ex (HandSHeadRun.getT s)
theorem ob_eq (s : PySem.W.SharedT) : ob s = hk.obs s.abs := obsC_eq (HandSHeadRun.getT_eq s)
theorem run_f (w : World) : HandSHeadRun.RunEq R (PySem.W.view R.prog [35]) hk ob 4000 loose (w.withFollow "special-get-raises" false) := by
  intro os
  kernel_rfl
theorem run_t (w : World) : HandSHeadRun.RunEq R (PySem.W.view R.prog [35]) hk ob 4000 loose (w.withFollow "special-get-raises" true) := by
  intro os
  kernel_rfl
theorem run (w : World) : HandSHeadRun.RunEq R (PySem.W.view R.prog [35]) hk ob 4000 loose w :=
  PySem.W.byRow2 "special-get-raises" (P := fun w => HandSHeadRun.RunEq R (PySem.W.view R.prog [35]) hk ob 4000 loose w) run_f run_t w
/-- what the law's walk takes of the module -/
structure MF (K : PySem.W.Frag) (mg : Str → Option Value) : Prop where
  fs : ∀ f ∈ fa, f.ok K = true
  ex_ : ex K = true
  gl : ∀ x ∈ gloN, mg x = some (.ref (He.ga K x))
  fr : ∀ x ∈ freN, mg x = none
  st : ∀ p ∈ strN, ∃ t, mg p.1 = some (.str p.2 t)
  it : ∀ p ∈ intN, ∃ t, mg p.1 = some (.int p.2 t)
theorem mf_of {K : PySem.W.Frag} {mg : Str → Option Value} {h : Heap} {w : World} (X : K.In h) (G : h.Ns mainGlobals mg) (c : SaysC fa fn ts ex w K) : MF K mg := by
  have F : ∀ f ∈ fa, f.ok K = true := fun f hf => He.SaysD.facts c.t.d hf
  refine ⟨F, c.more, fun x hx => He.glo_ok X G (F _ ?_), fun x hx => He.free_ok X G (F _ ?_), fun p hp => He.str_ok X G (F (.str p.1 p.2) ?_), fun p hp => He.int_ok X G (F (.int p.1 p.2) ?_)⟩
  all_goals simp only [fa, List.mem_append, List.mem_map]
  · exact .inl ⟨x, hx, rfl⟩
  · exact .inr (.inl ⟨x, hx, rfl⟩)
  · exact .inr (.inr (.inl ⟨p, hp, rfl⟩))
  · exact .inr (.inr (.inr (.inl ⟨p, hp, rfl⟩)))
section
variable {K : PySem.W.Frag} {mg : Str → Option Value} (M : MF K mg)
include M
theorem MF.glo (x : Str) (h : gloN.contains x = true := by decide +kernel) : mg x = some (.ref (He.ga K x)) := M.gl x (List.contains_iff_mem.mp h)
theorem MF.fre (x : Str) (h : freN.contains x = true := by decide +kernel) : mg x = none := M.fr x (List.contains_iff_mem.mp h)
theorem MF.ref (x : Str) (h : gloN.contains x = true := by decide +kernel) : ∃ u, mg x = some u ∧ RelV (.ref (He.ga K x)) u := ⟨_, M.glo x h, rfl⟩
theorem MF.str (x z : Str) (h : strN.contains (x, z) = true := by decide +kernel) : ∃ u, mg x = some u ∧ RelV (.str z) u := by
  obtain ⟨t, e⟩ := M.st (x, z) (List.contains_iff_mem.mp h)
  exact ⟨_, e, t, rfl⟩
theorem MF.int (x : Str) (i : Int) (h : intN.contains (x, i) = true := by decide +kernel) : ∃ u, mg x = some u ∧ RelV (.int i) u := by
  obtain ⟨t, e⟩ := M.it (x, i) (List.contains_iff_mem.mp h)
  exact ⟨_, e, t, rfl⟩
theorem MF.fact {f : He.Fa} (h : f ∈ fa) : f.ok K = true := M.fs f h
theorem MF.cls (x : Str) (h : clsN.contains x = true := by decide +kernel) : Cls K (He.ga K x) := He.cls_ok (M.fs _ (by
  have q := List.contains_iff_mem.mp h
  simp only [fa, List.mem_append, List.mem_map]
  exact .inr (.inr (.inr (.inr (.inl ⟨x, q, rfl⟩))))))
theorem MF.noat (x f : Str) (h : fldN.contains (x, f) = true := by decide +kernel) : NoAttr K (He.ga K x) f := He.noat_ok (M.fs _ (by
  have q := List.contains_iff_mem.mp h
  simp only [fa, List.mem_append, List.mem_map]
  exact .inr (.inr (.inr (.inr (.inr (.inl ⟨(x, f), q, rfl⟩)))))))
theorem MF.meth (x m : Str) (h : metN.contains (x, m) = true := by decide +kernel) : Meth K (He.ga K x) m (He.ma K (He.ga K x) m) := He.meth_ok (M.fs _ (by
  have q := List.contains_iff_mem.mp h
  simp only [fa, List.mem_append, List.mem_map]
  exact .inr (.inr (.inr (.inr (.inr (.inr (.inl ⟨(x, m), q, rfl⟩))))))))
theorem MF.mkr (x : Str) (h : mkrN.contains x = true := by decide +kernel) : Mk K (He.ga K x) (He.ma K (He.ga K x) "__init__") := He.mkr_ok (M.fs _ (by
  have q := List.contains_iff_mem.mp h
  simp only [fa, List.mem_append, List.mem_map]
  exact .inr (.inr (.inr (.inr (.inr (.inr (.inr (.inl ⟨x, q, rfl⟩)))))))))
theorem MF.exc (x : Str) (h : excN.contains x = true := by decide +kernel) : OwnE K (He.ga K x) := He.exc_ok (M.fs _ (by
  have q := List.contains_iff_mem.mp h
  simp only [fa, List.mem_append, List.mem_map]
  exact .inr (.inr (.inr (.inr (.inr (.inr (.inr (.inr (.inl ⟨x, q, rfl⟩))))))))))
theorem MF.exm (x y : Str) (h : exmN.contains (x, y) = true := by decide +kernel) : PySem.W.exmOne K (.ref (He.ga K x)) (.ref (He.ga K y)) = some true := He.exm_ok (M.fs _ (by
  have q := List.contains_iff_mem.mp h
  simp only [fa, List.mem_append, List.mem_map]
  exact .inr (.inr (.inr (.inr (.inr (.inr (.inr (.inr (.inr ⟨(x, y), q, rfl⟩))))))))))
theorem MF.err (x : Str) (h : errN.contains x = true := by decide +kernel) : ErrC K (He.ga K x) := errB_ok (List.all_eq_true.mp (and2 M.ex_).1 x (List.contains_iff_mem.mp h))
theorem MF.base (x : Str) (h : basN.contains x = true := by decide +kernel) : BaseI K (He.ga K x) := baseB_ok (List.all_eq_true.mp (and2 (and2 M.ex_).2).1 x (List.contains_iff_mem.mp h))
theorem MF.initC (x : Str) (h : iniN.contains x = true := by decide +kernel) : PySem.W.findIn K (.ref (He.ga K x)) "__init__" = some (some (.ref (He.ma K (He.ga K x) "__init__"))) :=
  of_decide_eq_true (and2 (List.all_eq_true.mp (and2 (and2 (and2 M.ex_).2).2).1 x (List.contains_iff_mem.mp h))).1
theorem MF.initT (x : Str) (h : iniN.contains x = true := by decide +kernel) : PySem.W.typeIn K (.ref (He.ma K (He.ga K x) "__init__")) = some (.type "function") :=
  of_decide_eq_true (and2 (List.all_eq_true.mp (and2 (and2 (and2 M.ex_).2).2).1 x (List.contains_iff_mem.mp h))).2
theorem MF.kit (x y : Str) (b : Bool) (h : kitN.contains (x, y, b) = true := by decide +kernel) : PySem.W.kitOne K (.ref (He.ga K x)) (.ref (He.ga K y)) = some b :=
  of_decide_eq_true (List.all_eq_true.mp (and2 (and2 (and2 (and2 M.ex_).2).2).2).1 (x, y, b) (List.contains_iff_mem.mp h))
theorem MF.kitv (x : Str) (y : String) (b : Bool) (h : kitV.contains (x, y, b) = true := by decide +kernel) : PySem.W.kitOne K (.ref (He.ga K x)) (.type y) = some b :=
  of_decide_eq_true (List.all_eq_true.mp (and2 (and2 (and2 (and2 (and2 M.ex_).2).2).2).2).1 (x, y, b) (List.contains_iff_mem.mp h))
theorem MF.more : ((He.valsB K (He.ga K "KEPT") [("none", .non), ("yes", .bl true), ("no", .bl false)]) && (He.valsB K (He.ga K "ENDS") [("(", .str ")"), ("[", .str "]"), ("{", .str "}")])) = true := (and2 (and2 (and2 (and2 (and2 M.ex_).2).2).2).2).2
end
end K96
end

section
set_option Elab.async false
set_option linter.all false
set_option maxRecDepth 100000
set_option maxHeartbeats 4000000
namespace K96
open PySem PySem.Spec PyProof.Rows L2 CL
/-! is_bare -/
def N_is_bare : List Str := ["text", "sign"]
theorem sc_is_bare : FnScope N_is_bare ["text"] (defScope s_is_bare) := ⟨rfl, rfl, rfl, by decide +kernel, rfl, by decide +kernel, by decide +kernel⟩
def t_is_bare (K : PySem.W.Frag) (w : World) (W : WX) : TS :=
    (xRet (xAndV (xOp (uNe K) (xVar 0) (xC (.str (S [])))) (xAndV (xOp (uNotIn K w) (xVar 0) (xC (.ref (He.ga K "KEPT")))) (xFn (allR K) (xCons (xLc W (xIt K (xVar 0)) (xG 1) (fun W => tYes) (fun W => (xOp (uIn K w) (xVar 1) (xC (.str (S [97, 98, 99, 100, 101, 102, 103, 104, 105, 106, 107, 108, 109, 110, 111, 112, 113, 114, 115, 116, 117, 118, 119, 120, 121, 122]))))) [1]) xNil)))))
theorem pr_is_bare {P : Program} {w : World} {K : PySem.W.Frag} {mg : Str → Option Value} {base : Heap} {f : Addr} {cdv : Value} {A : Around} {outer : List Env} {s : Shared} {H : Hp} {E : XK} {j : Nat} (M : MF K mg) (hr : Room j (A.deeper (envOfC "is_bare" (defScope s_is_bare) s.heap.objs.size f cdv)))  :
    PSs (cxOf (L2.CX P w) P w K mg base N_is_bare "is_bare" (defScope s_is_bare) f cdv A outer s H E) (defBody s_is_bare) (t_is_bare K w fun cls d _ H' => E cls d H') := by
  have hN : (cxOf (L2.CX P w) P w K mg base N_is_bare "is_bare" (defScope s_is_bare) f cdv A outer s H E).N.Nodup := sc_is_bare.nd
  have tk := takesT (P := P) (w := w) (K := K) (mg := mg) (base := base) (N := N_is_bare) (qual := "is_bare") (scope := defScope s_is_bare) (f := f) (cd := cdv) (A := A) (outer := outer) (s := s) (H := H) (E := E)
  have hu := hr.units
  have hu1 : (A.deeper (envOfC "is_bare" (defScope s_is_bare) s.heap.objs.size f cdv)).units + 1 < cLine := by omega
  unfold t_is_bare
  exact (qs_one (qs_ret (px_andV (px_cmp (u_ne hu) (px_var 0) px_str) (px_andV (px_cmp (u_notin hu1) (px_var 0) (px_glob (M.ref "KEPT"))) (px_one (px_bi r_all (M.fre "all") (pq_cons (px_lc hN tk (qi_it (px_var 0)) (blkOk_by (N := N_is_bare) (sc := defScope s_is_bare) (own := [("sign", 1)]) (by decide +kernel)) (fun _ _ _ _ _ _ => (pg_g hN)) (fun _ _ _ _ _ _ W tkb => pts_nil) (fun _ _ _ _ _ _ W tkb => (px_cmp (u_in hu1) (px_var 1) (px_glob (M.str "SMALL" "abcdefghijklmnopqrstuvwxyz"))))) pq_nil)))))))
/-! sign_text -/
def N_sign_text : List Str := ["sign"]
theorem sc_sign_text : FnScope N_sign_text ["sign"] (defScope s_sign_text) := ⟨rfl, rfl, rfl, by decide +kernel, rfl, by decide +kernel, by decide +kernel⟩
def t_sign_text (K : PySem.W.Frag) (w : World) (W : WX) : TS :=
    (xSeq (xIf (xCt (xOp (uEq K) (xVar 0) (xC (.str (S [10])))))
    (xRet (xC (.str (S [94, 110]))))
    xEnd)
    (xSeq (xIf (xCt (xOp (uIn K w) (xVar 0) (xTup (xCons (xC (.str (S [39]))) (xCons (xC (.str (S [94]))) xNil)))))
    (xRet (xOp (uAdd K) (xC (.str (S [94]))) (xVar 0)))
    xEnd)
    (xRet (xVar 0))))
theorem pr_sign_text {P : Program} {w : World} {K : PySem.W.Frag} {mg : Str → Option Value} {base : Heap} {f : Addr} {cdv : Value} {A : Around} {outer : List Env} {s : Shared} {H : Hp} {E : XK} {j : Nat} (M : MF K mg) (hr : Room j (A.deeper (envOfC "sign_text" (defScope s_sign_text) s.heap.objs.size f cdv)))  :
    PSs (cxOf (L2.CX P w) P w K mg base N_sign_text "sign_text" (defScope s_sign_text) f cdv A outer s H E) (defBody s_sign_text) (t_sign_text K w fun cls d _ H' => E cls d H') := by
  have hN : (cxOf (L2.CX P w) P w K mg base N_sign_text "sign_text" (defScope s_sign_text) f cdv A outer s H E).N.Nodup := sc_sign_text.nd
  have tk := takesT (P := P) (w := w) (K := K) (mg := mg) (base := base) (N := N_sign_text) (qual := "sign_text") (scope := defScope s_sign_text) (f := f) (cd := cdv) (A := A) (outer := outer) (s := s) (H := H) (E := E)
  have hu := hr.units
  have hu1 : (A.deeper (envOfC "sign_text" (defScope s_sign_text) s.heap.objs.size f cdv)).units + 1 < cLine := by omega
  unfold t_sign_text
  exact (qs_cons (qs_if (pc_cmp (u_eq hu) (px_var 0) px_str) (qs_one (qs_ret px_str)) qs_nil) (qs_cons (qs_if (pc_cmp (u_in hu1) (px_var 0) (px_tup (pq_cons px_str (pq_cons px_str pq_nil)))) (qs_one (qs_ret (px_op u_add px_str (px_var 0)))) qs_nil) (qs_one (qs_ret (px_var 0)))))
/-! word_text -/
def N_word_text : List Str := ["text", "sign"]
theorem sc_word_text : FnScope N_word_text ["text"] (defScope s_word_text) := ⟨rfl, rfl, rfl, by decide +kernel, rfl, by decide +kernel, by decide +kernel⟩
def t_word_text (K : PySem.W.Frag) (w : World) (sp_is_bare sp_sign_text : Sp) (W : WX) : TS :=
    (xSeq (xIf (xTr K (xCall sp_is_bare [] W (xCons (xVar 0) xNil)))
    (xRet (xVar 0))
    xEnd)
    (xRet (xOp (uAdd K) (xOp (uAdd K) (xC (.str (S [39]))) (xJoin K (xC (.str (S []))) (xLc W (xIt K (xVar 0)) (xG 1) (fun W => tYes) (fun W => (xCall sp_sign_text [] W (xCons (xVar 1) xNil))) [1]))) (xC (.str (S [39]))))))
theorem pr_word_text {P : Program} {w : World} {K : PySem.W.Frag} {mg : Str → Option Value} {base : Heap} {f : Addr} {cdv : Value} {A : Around} {outer : List Env} {s : Shared} {H : Hp} {E : XK} {j : Nat} {sp_is_bare sp_sign_text : Sp} (M : MF K mg) (hr : Room j (A.deeper (envOfC "word_text" (defScope s_word_text) s.heap.objs.size f cdv))) {k_is_bare : Nat} (c_is_bare : Cal P w K mg base k_is_bare "is_bare" sp_is_bare []) (hk_is_bare : k_is_bare ≤ j) {k_sign_text : Nat} (c_sign_text : Cal P w K mg base k_sign_text "sign_text" sp_sign_text []) (hk_sign_text : k_sign_text ≤ j) :
    PSs (cxOf (L2.CX P w) P w K mg base N_word_text "word_text" (defScope s_word_text) f cdv A outer s H E) (defBody s_word_text) (t_word_text K w sp_is_bare sp_sign_text fun cls d _ H' => E cls d H') := by
  have hN : (cxOf (L2.CX P w) P w K mg base N_word_text "word_text" (defScope s_word_text) f cdv A outer s H E).N.Nodup := sc_word_text.nd
  have tk := takesT (P := P) (w := w) (K := K) (mg := mg) (base := base) (N := N_word_text) (qual := "word_text") (scope := defScope s_word_text) (f := f) (cd := cdv) (A := A) (outer := outer) (s := s) (H := H) (E := E)
  have hu := hr.units
  have hu1 : (A.deeper (envOfC "word_text" (defScope s_word_text) s.heap.objs.size f cdv)).units + 1 < cLine := by omega
  unfold t_word_text
  exact (qs_cons (qs_if (pt_tr (px_call c_is_bare hr hk_is_bare tk (pq_cons (px_var 0) pq_nil))) (qs_one (qs_ret (px_var 0))) qs_nil) (qs_one (qs_ret (px_op u_add (px_op u_add px_str (px_join px_str (px_lc hN tk (qi_it (px_var 0)) (blkOk_by (N := N_word_text) (sc := defScope s_word_text) (own := [("sign", 1)]) (by decide +kernel)) (fun _ _ _ _ _ _ => (pg_g hN)) (fun _ _ _ _ _ _ W tkb => pts_nil) (fun _ _ _ _ _ _ W tkb => (px_call c_sign_text hr hk_sign_text tkb (pq_cons (px_var 1) pq_nil)))))) px_str))))
/-! plain_text -/
def N_plain_text : List Str := ["thing"]
theorem sc_plain_text : FnScope N_plain_text ["thing"] (defScope s_plain_text) := ⟨rfl, rfl, rfl, by decide +kernel, rfl, by decide +kernel, by decide +kernel⟩
def t_plain_text (K : PySem.W.Frag) (w : World) (sp_word_text : Sp) (W : WX) : TS :=
    (xSeq (xIf (xTr K (xFn (isiR K) (xCons (xVar 0) (xCons (xC (.ty "str")) xNil))))
    (xRet (xCall sp_word_text [] W (xCons (xVar 0) xNil)))
    xEnd)
    (xSeq (xIf (xAnd (xTr K (xFn (isiR K) (xCons (xVar 0) (xCons (xC (.ty "int")) xNil)))) (xNot (xTr K (xFn (isiR K) (xCons (xVar 0) (xCons (xC (.ty "bool")) xNil))))))
    (xRet (xFn strR (xCons (xVar 0) xNil)))
    xEnd)
    (xSeq (xIf (xCt (xOp uIs (xVar 0) (xC .non)))
    (xRet (xC (.str (S [110, 111, 110, 101]))))
    xEnd)
    (xRet (xIfE (xTr K (xVar 0)) (xC (.str (S [121, 101, 115]))) (xC (.str (S [110, 111]))))))))
theorem pr_plain_text {P : Program} {w : World} {K : PySem.W.Frag} {mg : Str → Option Value} {base : Heap} {f : Addr} {cdv : Value} {A : Around} {outer : List Env} {s : Shared} {H : Hp} {E : XK} {j : Nat} {sp_word_text : Sp} (M : MF K mg) (hr : Room j (A.deeper (envOfC "plain_text" (defScope s_plain_text) s.heap.objs.size f cdv))) {k_word_text : Nat} (c_word_text : Cal P w K mg base k_word_text "word_text" sp_word_text []) (hk_word_text : k_word_text ≤ j) :
    PSs (cxOf (L2.CX P w) P w K mg base N_plain_text "plain_text" (defScope s_plain_text) f cdv A outer s H E) (defBody s_plain_text) (t_plain_text K w sp_word_text fun cls d _ H' => E cls d H') := by
  have hN : (cxOf (L2.CX P w) P w K mg base N_plain_text "plain_text" (defScope s_plain_text) f cdv A outer s H E).N.Nodup := sc_plain_text.nd
  have tk := takesT (P := P) (w := w) (K := K) (mg := mg) (base := base) (N := N_plain_text) (qual := "plain_text") (scope := defScope s_plain_text) (f := f) (cd := cdv) (A := A) (outer := outer) (s := s) (H := H) (E := E)
  have hu := hr.units
  have hu1 : (A.deeper (envOfC "plain_text" (defScope s_plain_text) s.heap.objs.size f cdv)).units + 1 < cLine := by omega
  unfold t_plain_text
  exact (qs_cons (qs_if (pt_tr (px_bi cr_isi (M.fre "isinstance") (pq_cons (px_var 0) (pq_cons (px_ty (M.fre "str")) pq_nil)))) (qs_one (qs_ret (px_call c_word_text hr hk_word_text tk (pq_cons (px_var 0) pq_nil)))) qs_nil) (qs_cons (qs_if (PW.pt (pw_both (pt_tr (px_bi cr_isi (M.fre "isinstance") (pq_cons (px_var 0) (pq_cons (px_ty (M.fre "int")) pq_nil)))) (pw_one (pt_no (pt_tr (px_bi cr_isi (M.fre "isinstance") (pq_cons (px_var 0) (pq_cons (px_ty (M.fre "bool")) pq_nil)))))))) (qs_one (qs_ret (px_bt r_str (M.fre "str") (pq_cons (px_var 0) pq_nil)))) qs_nil) (qs_cons (qs_if (pc_cmp u_is (px_var 0) px_non) (qs_one (qs_ret px_str)) qs_nil) (qs_one (qs_ret (px_if (pt_tr (px_var 0)) px_str px_str))))))
/-! things_text -/
def N_things_text : List Str := ["things", "deep", "thing"]
theorem sc_things_text : FnScope N_things_text ["things", "deep"] (defScope s_things_text) := ⟨rfl, rfl, rfl, by decide +kernel, rfl, by decide +kernel, by decide +kernel⟩
def t_things_text (K : PySem.W.Frag) (w : World) (sp_text_of : Sp) (W : WX) : TS :=
    (xRet (xJoin K (xC (.str (S [32]))) (xLc W (xIt K (xVar 0)) (xG 2) (fun W => tYes) (fun W => (xCall sp_text_of [] W (xCons (xVar 2) (xCons (xVar 1) xNil)))) [2])))
theorem pr_things_text {P : Program} {w : World} {K : PySem.W.Frag} {mg : Str → Option Value} {base : Heap} {f : Addr} {cdv : Value} {A : Around} {outer : List Env} {s : Shared} {H : Hp} {E : XK} {j : Nat} {sp_text_of : Sp} (M : MF K mg) (hr : Room j (A.deeper (envOfC "things_text" (defScope s_things_text) s.heap.objs.size f cdv))) {k_text_of : Nat} (c_text_of : Cal P w K mg base k_text_of "text_of" sp_text_of []) (hk_text_of : k_text_of ≤ j) :
    PSs (cxOf (L2.CX P w) P w K mg base N_things_text "things_text" (defScope s_things_text) f cdv A outer s H E) (defBody s_things_text) (t_things_text K w sp_text_of fun cls d _ H' => E cls d H') := by
  have hN : (cxOf (L2.CX P w) P w K mg base N_things_text "things_text" (defScope s_things_text) f cdv A outer s H E).N.Nodup := sc_things_text.nd
  have tk := takesT (P := P) (w := w) (K := K) (mg := mg) (base := base) (N := N_things_text) (qual := "things_text") (scope := defScope s_things_text) (f := f) (cd := cdv) (A := A) (outer := outer) (s := s) (H := H) (E := E)
  have hu := hr.units
  have hu1 : (A.deeper (envOfC "things_text" (defScope s_things_text) s.heap.objs.size f cdv)).units + 1 < cLine := by omega
  unfold t_things_text
  exact (qs_one (qs_ret (px_join px_str (px_lc hN tk (qi_it (px_var 0)) (blkOk_by (N := N_things_text) (sc := defScope s_things_text) (own := [("thing", 2)]) (by decide +kernel)) (fun _ _ _ _ _ _ => (pg_g hN)) (fun _ _ _ _ _ _ W tkb => pts_nil) (fun _ _ _ _ _ _ W tkb => (px_call c_text_of hr hk_text_of tkb (pq_cons (px_var 2) (pq_cons (px_var 1) pq_nil))))))))
/-! text_of -/
def N_text_of : List Str := ["thing", "deep", "key"]
theorem sc_text_of : FnScope N_text_of ["thing", "deep"] (defScope s_text_of) := ⟨rfl, rfl, rfl, by decide +kernel, rfl, by decide +kernel, by decide +kernel⟩
def t_text_of (K : PySem.W.Frag) (w : World) (sp_plain_text sp_things_text sp_word_text sp_text_of : Sp) (W : WX) : TS :=
    (xSeq (xIf (xNot (xTr K (xFn (isiR K) (xCons (xVar 0) (xCons (xTup (xCons (xC (.ty "tuple")) (xCons (xC (.ty "list")) (xCons (xC (.ty "dict")) xNil)))) xNil)))))
    (xRet (xCall sp_plain_text [] W (xCons (xVar 0) xNil)))
    xEnd)
    (xSeq (xIf (xCt (xOp uLt (xVar 1) (xC (.int 1))))
    (xRs (He.ga K "TooDeep") W)
    xEnd)
    (xSeq (xIf (xTr K (xFn (isiR K) (xCons (xVar 0) (xCons (xC (.ty "tuple")) xNil))))
    (xRet (xOp (uAdd K) (xOp (uAdd K) (xC (.str (S [40]))) (xCall sp_things_text [] W (xCons (xVar 0) (xCons (xOp uSub (xVar 1) (xC (.int 1))) xNil)))) (xC (.str (S [41])))))
    xEnd)
    (xSeq (xIf (xTr K (xFn (isiR K) (xCons (xVar 0) (xCons (xC (.ty "list")) xNil))))
    (xRet (xOp (uAdd K) (xOp (uAdd K) (xC (.str (S [91]))) (xCall sp_things_text [] W (xCons (xVar 0) (xCons (xOp uSub (xVar 1) (xC (.int 1))) xNil)))) (xC (.str (S [93])))))
    xEnd)
    (xRet (xOp (uAdd K) (xOp (uAdd K) (xC (.str (S [123]))) (xJoin K (xC (.str (S [32]))) (xLc W (xIt K (xFn (srtR K) (xCons (xVar 0) xNil))) (xG 2) (fun W => tYes) (fun W => (xOp (uAdd K) (xOp (uAdd K) (xCall sp_word_text [] W (xCons (xVar 2) xNil)) (xC (.str (S [32])))) (xCall sp_text_of [] W (xCons (xOp (uIx K w) (xVar 0) (xVar 2)) (xCons (xOp uSub (xVar 1) (xC (.int 1))) xNil))))) [2]))) (xC (.str (S [125])))))))))
theorem pr_text_of {P : Program} {w : World} {K : PySem.W.Frag} {mg : Str → Option Value} {base : Heap} {f : Addr} {cdv : Value} {A : Around} {outer : List Env} {s : Shared} {H : Hp} {E : XK} {j : Nat} {sp_plain_text sp_things_text sp_word_text sp_text_of : Sp} (M : MF K mg) (hr : Room j (A.deeper (envOfC "text_of" (defScope s_text_of) s.heap.objs.size f cdv))) {k_plain_text : Nat} (c_plain_text : Cal P w K mg base k_plain_text "plain_text" sp_plain_text []) (hk_plain_text : k_plain_text ≤ j) {k_things_text : Nat} (c_things_text : Cal P w K mg base k_things_text "things_text" sp_things_text []) (hk_things_text : k_things_text ≤ j) {k_word_text : Nat} (c_word_text : Cal P w K mg base k_word_text "word_text" sp_word_text []) (hk_word_text : k_word_text ≤ j) {k_text_of : Nat} (c_text_of : Cal P w K mg base k_text_of "text_of" sp_text_of []) (hk_text_of : k_text_of ≤ j) :
    PSs (cxOf (L2.CX P w) P w K mg base N_text_of "text_of" (defScope s_text_of) f cdv A outer s H E) (defBody s_text_of) (t_text_of K w sp_plain_text sp_things_text sp_word_text sp_text_of fun cls d _ H' => E cls d H') := by
  have hN : (cxOf (L2.CX P w) P w K mg base N_text_of "text_of" (defScope s_text_of) f cdv A outer s H E).N.Nodup := sc_text_of.nd
  have tk := takesT (P := P) (w := w) (K := K) (mg := mg) (base := base) (N := N_text_of) (qual := "text_of") (scope := defScope s_text_of) (f := f) (cd := cdv) (A := A) (outer := outer) (s := s) (H := H) (E := E)
  have hu := hr.units
  have hu1 : (A.deeper (envOfC "text_of" (defScope s_text_of) s.heap.objs.size f cdv)).units + 1 < cLine := by omega
  unfold t_text_of
  exact (qs_cons (qs_if (pt_no (pt_tr (px_bi cr_isi (M.fre "isinstance") (pq_cons (px_var 0) (pq_cons (px_tup (pq_cons (px_ty (M.fre "tuple")) (pq_cons (px_ty (M.fre "list")) (pq_cons (px_ty (M.fre "dict")) pq_nil)))) pq_nil))))) (qs_one (qs_ret (px_call c_plain_text hr hk_plain_text tk (pq_cons (px_var 0) pq_nil)))) qs_nil) (qs_cons (qs_if (pc_cmp u_lt (px_var 1) px_int) (qs_one (qs_rs tk (M.exc "TooDeep") (M.glo "TooDeep"))) qs_nil) (qs_cons (qs_if (pt_tr (px_bi cr_isi (M.fre "isinstance") (pq_cons (px_var 0) (pq_cons (px_ty (M.fre "tuple")) pq_nil)))) (qs_one (qs_ret (px_op u_add (px_op u_add px_str (px_call c_things_text hr hk_things_text tk (pq_cons (px_var 0) (pq_cons (px_op u_sub (px_var 1) px_int) pq_nil)))) px_str))) qs_nil) (qs_cons (qs_if (pt_tr (px_bi cr_isi (M.fre "isinstance") (pq_cons (px_var 0) (pq_cons (px_ty (M.fre "list")) pq_nil)))) (qs_one (qs_ret (px_op u_add (px_op u_add px_str (px_call c_things_text hr hk_things_text tk (pq_cons (px_var 0) (pq_cons (px_op u_sub (px_var 1) px_int) pq_nil)))) px_str))) qs_nil) (qs_one (qs_ret (px_op u_add (px_op u_add px_str (px_join px_str (px_lc hN tk (qi_it (px_bi r_srt (M.fre "sorted") (pq_cons (px_var 0) pq_nil))) (blkOk_by (N := N_text_of) (sc := defScope s_text_of) (own := [("key", 2)]) (by decide +kernel)) (fun _ _ _ _ _ _ => (pg_g hN)) (fun _ _ _ _ _ _ W tkb => pts_nil) (fun _ _ _ _ _ _ W tkb => (px_op u_add (px_op u_add (px_call c_word_text hr hk_word_text tkb (pq_cons (px_var 2) pq_nil)) px_str) (px_call c_text_of hr hk_text_of tkb (pq_cons (px_ix (u_ix hu1) (px_var 0) (px_var 2)) (pq_cons (px_op u_sub (px_var 1) px_int) pq_nil)))))))) px_str)))))))
/-! paper_text -/
def N_paper_text : List Str := ["thing", "deep"]
theorem sc_paper_text : FnScope N_paper_text ["thing", "deep"] (defScope s_paper_text) := ⟨rfl, rfl, rfl, by decide +kernel, rfl, by decide +kernel, by decide +kernel⟩
def t_paper_text (K : PySem.W.Frag) (w : World) (sp_text_of : Sp) (W : WX) : TS :=
    (xRet (xCall sp_text_of [] W (xCons (xVar 0) (xCons (xFn minR (xCons (xVar 1) (xCons (xC (.int 100)) xNil))) xNil))))
theorem pr_paper_text {P : Program} {w : World} {K : PySem.W.Frag} {mg : Str → Option Value} {base : Heap} {f : Addr} {cdv : Value} {A : Around} {outer : List Env} {s : Shared} {H : Hp} {E : XK} {j : Nat} {sp_text_of : Sp} (M : MF K mg) (hr : Room j (A.deeper (envOfC "paper_text" (defScope s_paper_text) s.heap.objs.size f cdv))) {k_text_of : Nat} (c_text_of : Cal P w K mg base k_text_of "text_of" sp_text_of []) (hk_text_of : k_text_of ≤ j) :
    PSs (cxOf (L2.CX P w) P w K mg base N_paper_text "paper_text" (defScope s_paper_text) f cdv A outer s H E) (defBody s_paper_text) (t_paper_text K w sp_text_of fun cls d _ H' => E cls d H') := by
  have hN : (cxOf (L2.CX P w) P w K mg base N_paper_text "paper_text" (defScope s_paper_text) f cdv A outer s H E).N.Nodup := sc_paper_text.nd
  have tk := takesT (P := P) (w := w) (K := K) (mg := mg) (base := base) (N := N_paper_text) (qual := "paper_text") (scope := defScope s_paper_text) (f := f) (cd := cdv) (A := A) (outer := outer) (s := s) (H := H) (E := E)
  have hu := hr.units
  have hu1 : (A.deeper (envOfC "paper_text" (defScope s_paper_text) s.heap.objs.size f cdv)).units + 1 < cLine := by omega
  unfold t_paper_text
  exact (qs_one (qs_ret (px_call c_text_of hr hk_text_of tk (pq_cons (px_var 0) (pq_cons (px_bi r_min (M.fre "min") (pq_cons (px_var 1) (pq_cons (px_glob (M.int "DEEPEST" 100)) pq_nil))) pq_nil)))))
/-! Strip.__init__ -/
def N_Strip_init : List Str := ["self", "text"]
theorem sc_Strip_init : FnScope N_Strip_init ["self", "text"] (defScope s_Strip_init) := ⟨rfl, rfl, rfl, by decide +kernel, rfl, by decide +kernel, by decide +kernel⟩
def t_Strip_init (K : PySem.W.Frag) (w : World) (W : WX) : TS :=
    (xSeq (xSto K (xVar 0) "text" (xVar 1))
    (xSto K (xVar 0) "at" (xC (.int 0))))
theorem pr_Strip_init {P : Program} {w : World} {K : PySem.W.Frag} {mg : Str → Option Value} {base : Heap} {f : Addr} {cdv : Value} {A : Around} {outer : List Env} {s : Shared} {H : Hp} {E : XK} {j : Nat} (M : MF K mg) (hr : Room j (A.deeper (envOfC "Strip.__init__" (defScope s_Strip_init) s.heap.objs.size f cdv)))  :
    PSs (cxOf (L2.CX P w) P w K mg base N_Strip_init "Strip.__init__" (defScope s_Strip_init) f cdv A outer s H E) (defBody s_Strip_init) (t_Strip_init K w fun cls d _ H' => E cls d H') := by
  have hN : (cxOf (L2.CX P w) P w K mg base N_Strip_init "Strip.__init__" (defScope s_Strip_init) f cdv A outer s H E).N.Nodup := sc_Strip_init.nd
  have tk := takesT (P := P) (w := w) (K := K) (mg := mg) (base := base) (N := N_Strip_init) (qual := "Strip.__init__") (scope := defScope s_Strip_init) (f := f) (cd := cdv) (A := A) (outer := outer) (s := s) (H := H) (E := E)
  have hu := hr.units
  have hu1 : (A.deeper (envOfC "Strip.__init__" (defScope s_Strip_init) s.heap.objs.size f cdv)).units + 1 < cLine := by omega
  unfold t_Strip_init
  exact (qs_cons (qs_sto (px_var 0) (px_var 1)) (qs_one (qs_sto (px_var 0) px_int)))
/-! Strip.sign -/
def N_Strip_sign : List Str := ["self"]
theorem sc_Strip_sign : FnScope N_Strip_sign ["self"] (defScope s_Strip_sign) := ⟨rfl, rfl, rfl, by decide +kernel, rfl, by decide +kernel, by decide +kernel⟩
def t_Strip_sign (K : PySem.W.Frag) (w : World) (W : WX) : TS :=
    (xRet (xSl (uSl K) (xFld K (xVar 0) "text") (xPart (xFld K (xVar 0) "at")) (xPart (xOp (uAdd K) (xFld K (xVar 0) "at") (xC (.int 1))))))
theorem pr_Strip_sign {P : Program} {w : World} {K : PySem.W.Frag} {mg : Str → Option Value} {base : Heap} {f : Addr} {cdv : Value} {A : Around} {outer : List Env} {s : Shared} {H : Hp} {E : XK} {j : Nat} (M : MF K mg) (hr : Room j (A.deeper (envOfC "Strip.sign" (defScope s_Strip_sign) s.heap.objs.size f cdv)))  :
    PSs (cxOf (L2.CX P w) P w K mg base N_Strip_sign "Strip.sign" (defScope s_Strip_sign) f cdv A outer s H E) (defBody s_Strip_sign) (t_Strip_sign K w fun cls d _ H' => E cls d H') := by
  have hN : (cxOf (L2.CX P w) P w K mg base N_Strip_sign "Strip.sign" (defScope s_Strip_sign) f cdv A outer s H E).N.Nodup := sc_Strip_sign.nd
  have tk := takesT (P := P) (w := w) (K := K) (mg := mg) (base := base) (N := N_Strip_sign) (qual := "Strip.sign") (scope := defScope s_Strip_sign) (f := f) (cd := cdv) (A := A) (outer := outer) (s := s) (H := H) (E := E)
  have hu := hr.units
  have hu1 : (A.deeper (envOfC "Strip.sign" (defScope s_Strip_sign) s.heap.objs.size f cdv)).units + 1 < cLine := by omega
  unfold t_Strip_sign
  exact (qs_one (qs_ret (px_sl u_sl (px_fld (px_var 0)) (po_at (px_fld (px_var 0))) (po_at (px_op u_add (px_fld (px_var 0)) px_int)))))
/-! Strip.must_be -/
def N_Strip_must_be : List Str := ["self", "good"]
theorem sc_Strip_must_be : FnScope N_Strip_must_be ["self", "good"] (defScope s_Strip_must_be) := ⟨rfl, rfl, rfl, by decide +kernel, rfl, by decide +kernel, by decide +kernel⟩
def t_Strip_must_be (K : PySem.W.Frag) (w : World) (W : WX) : TS :=
    (xIf (xNot (xTr K (xVar 1)))
    (xRsX (He.ga K "NoText") ["row", "at"] W (xCons (xC (.int 0)) (xCons (xFld K (xVar 0) "at") xNil)))
    xEnd)
theorem pr_Strip_must_be {P : Program} {w : World} {K : PySem.W.Frag} {mg : Str → Option Value} {base : Heap} {f : Addr} {cdv : Value} {A : Around} {outer : List Env} {s : Shared} {H : Hp} {E : XK} {j : Nat} (M : MF K mg) (hr : Room j (A.deeper (envOfC "Strip.must_be" (defScope s_Strip_must_be) s.heap.objs.size f cdv))) {kx_NoText : Nat} {fx_NoText : FuncData} (x_NoText : FnOk P w K mg base (L2.CX P w) kx_NoText (He.ma K (He.ga K "NoText") "__init__") fx_NoText ["self", "row", "at"] (spInit (He.ga K "NoText") ["row", "at"])) (hkx_NoText : kx_NoText + 1 ≤ j) (b_NoText : Binds K fx_NoText ["self", "row", "at"] []) :
    PSs (cxOf (L2.CX P w) P w K mg base N_Strip_must_be "Strip.must_be" (defScope s_Strip_must_be) f cdv A outer s H E) (defBody s_Strip_must_be) (t_Strip_must_be K w fun cls d _ H' => E cls d H') := by
  have hN : (cxOf (L2.CX P w) P w K mg base N_Strip_must_be "Strip.must_be" (defScope s_Strip_must_be) f cdv A outer s H E).N.Nodup := sc_Strip_must_be.nd
  have tk := takesT (P := P) (w := w) (K := K) (mg := mg) (base := base) (N := N_Strip_must_be) (qual := "Strip.must_be") (scope := defScope s_Strip_must_be) (f := f) (cd := cdv) (A := A) (outer := outer) (s := s) (H := H) (E := E)
  have hu := hr.units
  have hu1 : (A.deeper (envOfC "Strip.must_be" (defScope s_Strip_must_be) s.heap.objs.size f cdv)).units + 1 < cLine := by omega
  unfold t_Strip_must_be
  exact (qs_one (qs_if (pt_no (pt_tr (px_var 1))) (qs_one (qs_rsX tk (M.err "NoText").ox (by decide) (M.initC "NoText") (M.initT "NoText") x_NoText (hr.mono hkx_NoText) b_NoText passL (M.glo "NoText") (pq_cons px_int (pq_cons (px_fld (px_var 0)) pq_nil)) (mono_if))) qs_nil))
/-! Strip.may -/
def N_Strip_may : List Str := ["self", "sign", "found"]
theorem sc_Strip_may : FnScope N_Strip_may ["self", "sign"] (defScope s_Strip_may) := ⟨rfl, rfl, rfl, by decide +kernel, rfl, by decide +kernel, by decide +kernel⟩
def t_Strip_may (K : PySem.W.Frag) (w : World) (sp_Strip_sign : Sp) (W : WX) : TS :=
    (xSeq (xSet 2 (xOp (uEq K) (xMeth (He.ga K "Strip") "sign" sp_Strip_sign [] W (xVar 0) xNil) (xVar 1)))
    (xSeq (xStoA K (xVar 0) "at" iAdd (xFn intR (xCons (xVar 2) xNil)))
    (xRet (xVar 2))))
theorem pr_Strip_may {P : Program} {w : World} {K : PySem.W.Frag} {mg : Str → Option Value} {base : Heap} {f : Addr} {cdv : Value} {A : Around} {outer : List Env} {s : Shared} {H : Hp} {E : XK} {j : Nat} {sp_Strip_sign : Sp} (M : MF K mg) (hr : Room j (A.deeper (envOfC "Strip.may" (defScope s_Strip_may) s.heap.objs.size f cdv))) {k_Strip_sign : Nat} (c_Strip_sign : Met P w K mg base k_Strip_sign (He.ga K "Strip") "sign" sp_Strip_sign []) (hk_Strip_sign : k_Strip_sign ≤ j) :
    PSs (cxOf (L2.CX P w) P w K mg base N_Strip_may "Strip.may" (defScope s_Strip_may) f cdv A outer s H E) (defBody s_Strip_may) (t_Strip_may K w sp_Strip_sign fun cls d _ H' => E cls d H') := by
  have hN : (cxOf (L2.CX P w) P w K mg base N_Strip_may "Strip.may" (defScope s_Strip_may) f cdv A outer s H E).N.Nodup := sc_Strip_may.nd
  have tk := takesT (P := P) (w := w) (K := K) (mg := mg) (base := base) (N := N_Strip_may) (qual := "Strip.may") (scope := defScope s_Strip_may) (f := f) (cd := cdv) (A := A) (outer := outer) (s := s) (H := H) (E := E)
  have hu := hr.units
  have hu1 : (A.deeper (envOfC "Strip.may" (defScope s_Strip_may) s.heap.objs.size f cdv)).units + 1 < cLine := by omega
  unfold t_Strip_may
  exact (qs_cons (qs_set hN (px_cmp (u_eq hu) (px_meth0 c_Strip_sign hr hk_Strip_sign tk (px_var 0)) (px_var 1))) (qs_cons (qs_stoA i_add (px_var 0) (px_bt r_int (M.fre "int") (pq_cons (px_var 2) pq_nil))) (qs_one (qs_ret (px_var 2)))))
/-! Strip.run -/
def N_Strip_run : List Str := ["self", "signs", "begin"]
theorem sc_Strip_run : FnScope N_Strip_run ["self", "signs"] (defScope s_Strip_run) := ⟨rfl, rfl, rfl, by decide +kernel, rfl, by decide +kernel, by decide +kernel⟩
def t_Strip_run (K : PySem.W.Frag) (w : World) (sp_Strip_sign : Sp) (W : WX) : TS :=
    (xSeq (xSet 2 (xFld K (xVar 0) "at"))
    (xSeq (xWh (xAnd (xCt (xOp (uNe K) (xMeth (He.ga K "Strip") "sign" sp_Strip_sign [] W (xVar 0) xNil) (xC (.str (S []))))) (xCt (xOp (uIn K w) (xMeth (He.ga K "Strip") "sign" sp_Strip_sign [] W (xVar 0) xNil) (xVar 1))))
    (xStoA K (xVar 0) "at" iAdd (xC (.int 1))))
    (xRet (xSl (uSl K) (xFld K (xVar 0) "text") (xPart (xVar 2)) (xPart (xFld K (xVar 0) "at"))))))
theorem pr_Strip_run {P : Program} {w : World} {K : PySem.W.Frag} {mg : Str → Option Value} {base : Heap} {f : Addr} {cdv : Value} {A : Around} {outer : List Env} {s : Shared} {H : Hp} {E : XK} {j : Nat} {sp_Strip_sign : Sp} (M : MF K mg) (hr : Room j (A.deeper (envOfC "Strip.run" (defScope s_Strip_run) s.heap.objs.size f cdv))) {k_Strip_sign : Nat} (c_Strip_sign : Met P w K mg base k_Strip_sign (He.ga K "Strip") "sign" sp_Strip_sign []) (hk_Strip_sign : k_Strip_sign ≤ j) :
    PSs (cxOf (L2.CX P w) P w K mg base N_Strip_run "Strip.run" (defScope s_Strip_run) f cdv A outer s H E) (defBody s_Strip_run) (t_Strip_run K w sp_Strip_sign fun cls d _ H' => E cls d H') := by
  have hN : (cxOf (L2.CX P w) P w K mg base N_Strip_run "Strip.run" (defScope s_Strip_run) f cdv A outer s H E).N.Nodup := sc_Strip_run.nd
  have tk := takesT (P := P) (w := w) (K := K) (mg := mg) (base := base) (N := N_Strip_run) (qual := "Strip.run") (scope := defScope s_Strip_run) (f := f) (cd := cdv) (A := A) (outer := outer) (s := s) (H := H) (E := E)
  have hu := hr.units
  have hu1 : (A.deeper (envOfC "Strip.run" (defScope s_Strip_run) s.heap.objs.size f cdv)).units + 1 < cLine := by omega
  unfold t_Strip_run
  exact (qs_cons (qs_set hN (px_fld (px_var 0))) (qs_cons (qs_wh passesT (PW.pt (pw_both (pc_cmp (u_ne hu) (px_meth0 c_Strip_sign hr hk_Strip_sign tk (px_var 0)) px_str) (pw_one (pc_cmp (u_in hu1) (px_meth0 c_Strip_sign hr hk_Strip_sign tk (px_var 0)) (px_var 1))))) (qs_one (qs_stoA i_add (px_var 0) px_int))) (qs_one (qs_ret (px_sl u_sl (px_fld (px_var 0)) (po_at (px_var 2)) (po_at (px_fld (px_var 0))))))))
/-! Strip.whole_number -/
def N_Strip_whole_number : List Str := ["self", "below", "found"]
theorem sc_Strip_whole_number : FnScope N_Strip_whole_number ["self"] (defScope s_Strip_whole_number) := ⟨rfl, rfl, rfl, by decide +kernel, rfl, by decide +kernel, by decide +kernel⟩
def t_Strip_whole_number (K : PySem.W.Frag) (w : World) (sp_Strip_may sp_Strip_must_be sp_Strip_sign sp_Strip_run : Sp) (W : WX) : TS :=
    (xSeq (xSet 1 (xMeth (He.ga K "Strip") "may" sp_Strip_may [] W (xVar 0) (xCons (xC (.str (S [45]))) xNil)))
    (xSeq (xIf (xAnd (xNot (xTr K (xVar 1))) (xTr K (xMeth (He.ga K "Strip") "may" sp_Strip_may [] W (xVar 0) (xCons (xC (.str (S [48]))) xNil))))
    (xRet (xC (.int 0)))
    xEnd)
    (xSeq (xDrop (xMeth (He.ga K "Strip") "must_be" sp_Strip_must_be [] W (xVar 0) (xCons (xAndV (xOp (uNe K) (xMeth (He.ga K "Strip") "sign" sp_Strip_sign [] W (xVar 0) xNil) (xC (.str (S [])))) (xOp (uIn K w) (xMeth (He.ga K "Strip") "sign" sp_Strip_sign [] W (xVar 0) xNil) (xSl (uSl K) (xC (.str (S [48, 49, 50, 51, 52, 53, 54, 55, 56, 57]))) (xPart (xC (.int 1))) xNo))) xNil)))
    (xSeq (xSet 2 (xFn intR (xCons (xMeth (He.ga K "Strip") "run" sp_Strip_run [] W (xVar 0) (xCons (xC (.str (S [48, 49, 50, 51, 52, 53, 54, 55, 56, 57]))) xNil)) xNil)))
    (xRet (xIfE (xTr K (xVar 1)) (xOp uSub (xC (.int 0)) (xVar 2)) (xVar 2)))))))
theorem pr_Strip_whole_number {P : Program} {w : World} {K : PySem.W.Frag} {mg : Str → Option Value} {base : Heap} {f : Addr} {cdv : Value} {A : Around} {outer : List Env} {s : Shared} {H : Hp} {E : XK} {j : Nat} {sp_Strip_may sp_Strip_must_be sp_Strip_sign sp_Strip_run : Sp} (M : MF K mg) (hr : Room j (A.deeper (envOfC "Strip.whole_number" (defScope s_Strip_whole_number) s.heap.objs.size f cdv))) {k_Strip_may : Nat} (c_Strip_may : Met P w K mg base k_Strip_may (He.ga K "Strip") "may" sp_Strip_may []) (hk_Strip_may : k_Strip_may ≤ j) {k_Strip_must_be : Nat} (c_Strip_must_be : Met P w K mg base k_Strip_must_be (He.ga K "Strip") "must_be" sp_Strip_must_be []) (hk_Strip_must_be : k_Strip_must_be ≤ j) {k_Strip_sign : Nat} (c_Strip_sign : Met P w K mg base k_Strip_sign (He.ga K "Strip") "sign" sp_Strip_sign []) (hk_Strip_sign : k_Strip_sign ≤ j) {k_Strip_run : Nat} (c_Strip_run : Met P w K mg base k_Strip_run (He.ga K "Strip") "run" sp_Strip_run []) (hk_Strip_run : k_Strip_run ≤ j) :
    PSs (cxOf (L2.CX P w) P w K mg base N_Strip_whole_number "Strip.whole_number" (defScope s_Strip_whole_number) f cdv A outer s H E) (defBody s_Strip_whole_number) (t_Strip_whole_number K w sp_Strip_may sp_Strip_must_be sp_Strip_sign sp_Strip_run fun cls d _ H' => E cls d H') := by
  have hN : (cxOf (L2.CX P w) P w K mg base N_Strip_whole_number "Strip.whole_number" (defScope s_Strip_whole_number) f cdv A outer s H E).N.Nodup := sc_Strip_whole_number.nd
  have tk := takesT (P := P) (w := w) (K := K) (mg := mg) (base := base) (N := N_Strip_whole_number) (qual := "Strip.whole_number") (scope := defScope s_Strip_whole_number) (f := f) (cd := cdv) (A := A) (outer := outer) (s := s) (H := H) (E := E)
  have hu := hr.units
  have hu1 : (A.deeper (envOfC "Strip.whole_number" (defScope s_Strip_whole_number) s.heap.objs.size f cdv)).units + 1 < cLine := by omega
  unfold t_Strip_whole_number
  exact (qs_cons (qs_set hN (px_meth c_Strip_may hr hk_Strip_may tk (px_var 0) (pq_cons px_str pq_nil))) (qs_cons (qs_if (PW.pt (pw_both (pt_no (pt_tr (px_var 1))) (pw_one (pt_tr (px_meth c_Strip_may hr hk_Strip_may tk (px_var 0) (pq_cons px_str pq_nil)))))) (qs_one (qs_ret px_int)) qs_nil) (qs_cons (qs_drop (px_meth c_Strip_must_be hr hk_Strip_must_be tk (px_var 0) (pq_cons (px_andV (px_cmp (u_ne hu) (px_meth0 c_Strip_sign hr hk_Strip_sign tk (px_var 0)) px_str) (px_one (px_cmp (u_in hu1) (px_meth0 c_Strip_sign hr hk_Strip_sign tk (px_var 0)) (px_sl u_sl (px_glob (M.str "FIGURES" "0123456789")) (po_at px_int) po_no)))) pq_nil))) (qs_cons (qs_set hN (px_bt r_int (M.fre "int") (pq_cons (px_meth c_Strip_run hr hk_Strip_run tk (px_var 0) (pq_cons (px_glob (M.str "FIGURES" "0123456789")) pq_nil)) pq_nil))) (qs_one (qs_ret (px_if (pt_tr (px_var 1)) (px_op u_sub px_int (px_var 2)) (px_var 2))))))))
/-! Strip.quoted -/
def N_Strip_quoted : List Str := ["self", "begin", "found", "escaped"]
theorem sc_Strip_quoted : FnScope N_Strip_quoted ["self"] (defScope s_Strip_quoted) := ⟨rfl, rfl, rfl, by decide +kernel, rfl, by decide +kernel, by decide +kernel⟩
def t_Strip_quoted (K : PySem.W.Frag) (w : World) (sp_Strip_may sp_Strip_must_be sp_Strip_sign sp_is_bare : Sp) (W : WX) : TS :=
    (xSeq (xSet 1 (xFld K (xVar 0) "at"))
    (xSeq (xStoA K (xVar 0) "at" iAdd (xC (.int 1)))
    (xSeq (xSet 2 (xC (.str (S []))))
    (xSeq (xWh (xNot (xTr K (xMeth (He.ga K "Strip") "may" sp_Strip_may [] W (xVar 0) (xCons (xC (.str (S [39]))) xNil))))
    (xSeq (xDrop (xMeth (He.ga K "Strip") "must_be" sp_Strip_must_be [] W (xVar 0) (xCons (xAndV (xOp (uNe K) (xMeth (He.ga K "Strip") "sign" sp_Strip_sign [] W (xVar 0) xNil) (xC (.str (S [])))) (xOp (uNe K) (xMeth (He.ga K "Strip") "sign" sp_Strip_sign [] W (xVar 0) xNil) (xC (.str (S [10]))))) xNil)))
    (xSeq (xSet 3 (xMeth (He.ga K "Strip") "may" sp_Strip_may [] W (xVar 0) (xCons (xC (.str (S [94]))) xNil)))
    (xSeq (xDrop (xMeth (He.ga K "Strip") "must_be" sp_Strip_must_be [] W (xVar 0) (xCons (xOrV (xNotV (xVar 3)) (xAndV (xOp (uNe K) (xMeth (He.ga K "Strip") "sign" sp_Strip_sign [] W (xVar 0) xNil) (xC (.str (S [])))) (xOp (uIn K w) (xMeth (He.ga K "Strip") "sign" sp_Strip_sign [] W (xVar 0) xNil) (xC (.str (S [39, 94, 110])))))) xNil)))
    (xSeq (xAug 2 iAdd (xIfE (xAnd (xTr K (xVar 3)) (xCt (xOp (uEq K) (xMeth (He.ga K "Strip") "sign" sp_Strip_sign [] W (xVar 0) xNil) (xC (.str (S [110])))))) (xC (.str (S [10]))) (xMeth (He.ga K "Strip") "sign" sp_Strip_sign [] W (xVar 0) xNil)))
    (xStoA K (xVar 0) "at" iAdd (xC (.int 1))))))))
    (xSeq (xIf (xTr K (xCall sp_is_bare [] W (xCons (xVar 2) xNil)))
    (xSeq (xSto K (xVar 0) "at" (xVar 1))
    (xDrop (xMeth (He.ga K "Strip") "must_be" sp_Strip_must_be [] W (xVar 0) (xCons (xC (.bl false)) xNil))))
    xEnd)
    (xRet (xVar 2)))))))
theorem pr_Strip_quoted {P : Program} {w : World} {K : PySem.W.Frag} {mg : Str → Option Value} {base : Heap} {f : Addr} {cdv : Value} {A : Around} {outer : List Env} {s : Shared} {H : Hp} {E : XK} {j : Nat} {sp_Strip_may sp_Strip_must_be sp_Strip_sign sp_is_bare : Sp} (M : MF K mg) (hr : Room j (A.deeper (envOfC "Strip.quoted" (defScope s_Strip_quoted) s.heap.objs.size f cdv))) {k_Strip_may : Nat} (c_Strip_may : Met P w K mg base k_Strip_may (He.ga K "Strip") "may" sp_Strip_may []) (hk_Strip_may : k_Strip_may ≤ j) {k_Strip_must_be : Nat} (c_Strip_must_be : Met P w K mg base k_Strip_must_be (He.ga K "Strip") "must_be" sp_Strip_must_be []) (hk_Strip_must_be : k_Strip_must_be ≤ j) {k_Strip_sign : Nat} (c_Strip_sign : Met P w K mg base k_Strip_sign (He.ga K "Strip") "sign" sp_Strip_sign []) (hk_Strip_sign : k_Strip_sign ≤ j) {k_is_bare : Nat} (c_is_bare : Cal P w K mg base k_is_bare "is_bare" sp_is_bare []) (hk_is_bare : k_is_bare ≤ j) :
    PSs (cxOf (L2.CX P w) P w K mg base N_Strip_quoted "Strip.quoted" (defScope s_Strip_quoted) f cdv A outer s H E) (defBody s_Strip_quoted) (t_Strip_quoted K w sp_Strip_may sp_Strip_must_be sp_Strip_sign sp_is_bare fun cls d _ H' => E cls d H') := by
  have hN : (cxOf (L2.CX P w) P w K mg base N_Strip_quoted "Strip.quoted" (defScope s_Strip_quoted) f cdv A outer s H E).N.Nodup := sc_Strip_quoted.nd
  have tk := takesT (P := P) (w := w) (K := K) (mg := mg) (base := base) (N := N_Strip_quoted) (qual := "Strip.quoted") (scope := defScope s_Strip_quoted) (f := f) (cd := cdv) (A := A) (outer := outer) (s := s) (H := H) (E := E)
  have hu := hr.units
  have hu1 : (A.deeper (envOfC "Strip.quoted" (defScope s_Strip_quoted) s.heap.objs.size f cdv)).units + 1 < cLine := by omega
  unfold t_Strip_quoted
  exact (qs_cons (qs_set hN (px_fld (px_var 0))) (qs_cons (qs_stoA i_add (px_var 0) px_int) (qs_cons (qs_set hN px_str) (qs_cons (qs_wh passesT (pt_no (pt_tr (px_meth c_Strip_may hr hk_Strip_may tk (px_var 0) (pq_cons px_str pq_nil)))) (qs_cons (qs_drop (px_meth c_Strip_must_be hr hk_Strip_must_be tk (px_var 0) (pq_cons (px_andV (px_cmp (u_ne hu) (px_meth0 c_Strip_sign hr hk_Strip_sign tk (px_var 0)) px_str) (px_one (px_cmp (u_ne hu) (px_meth0 c_Strip_sign hr hk_Strip_sign tk (px_var 0)) px_str))) pq_nil))) (qs_cons (qs_set hN (px_meth c_Strip_may hr hk_Strip_may tk (px_var 0) (pq_cons px_str pq_nil))) (qs_cons (qs_drop (px_meth c_Strip_must_be hr hk_Strip_must_be tk (px_var 0) (pq_cons (px_orV (px_notV (px_var 3)) (px_one (px_andV (px_cmp (u_ne hu) (px_meth0 c_Strip_sign hr hk_Strip_sign tk (px_var 0)) px_str) (px_one (px_cmp (u_in hu1) (px_meth0 c_Strip_sign hr hk_Strip_sign tk (px_var 0)) px_str))))) pq_nil))) (qs_cons (qs_aug hN i_add (px_if (PW.pt (pw_both (pt_tr (px_var 3)) (pw_one (pc_cmp (u_eq hu) (px_meth0 c_Strip_sign hr hk_Strip_sign tk (px_var 0)) px_str)))) px_str (px_meth0 c_Strip_sign hr hk_Strip_sign tk (px_var 0)))) (qs_one (qs_stoA i_add (px_var 0) px_int))))))) (qs_cons (qs_if (pt_tr (px_call c_is_bare hr hk_is_bare tk (pq_cons (px_var 2) pq_nil))) (qs_cons (qs_sto (px_var 0) (px_var 1)) (qs_one (qs_drop (px_meth c_Strip_must_be hr hk_Strip_must_be tk (px_var 0) (pq_cons px_bl pq_nil))))) qs_nil) (qs_one (qs_ret (px_var 2))))))))
/-! Strip.key -/
def N_Strip_key : List Str := ["self", "ahead", "begin", "is_quoted", "found"]
theorem sc_Strip_key : FnScope N_Strip_key ["self", "ahead"] (defScope s_Strip_key) := ⟨rfl, rfl, rfl, by decide +kernel, rfl, by decide +kernel, by decide +kernel⟩
def t_Strip_key (K : PySem.W.Frag) (w : World) (sp_Strip_sign sp_Strip_quoted sp_Strip_run sp_Strip_must_be sp_is_bare : Sp) (W : WX) : TS :=
    (xSeq (xSet 2 (xFld K (xVar 0) "at"))
    (xSeq (xSet 3 (xOp (uEq K) (xMeth (He.ga K "Strip") "sign" sp_Strip_sign [] W (xVar 0) xNil) (xC (.str (S [39])))))
    (xSeq (xSet 4 (xIfE (xTr K (xVar 3)) (xMeth (He.ga K "Strip") "quoted" sp_Strip_quoted [] W (xVar 0) xNil) (xMeth (He.ga K "Strip") "run" sp_Strip_run [] W (xVar 0) (xCons (xC (.str (S [97, 98, 99, 100, 101, 102, 103, 104, 105, 106, 107, 108, 109, 110, 111, 112, 113, 114, 115, 116, 117, 118, 119, 120, 121, 122]))) xNil))))
    (xSeq (xIf (xAnd (xCt (xOp uIsNot (xVar 1) (xC .non))) (xCt (xOp uLe (xVar 4) (xVar 1))))
    (xSeq (xSto K (xVar 0) "at" (xVar 2))
    (xDrop (xMeth (He.ga K "Strip") "must_be" sp_Strip_must_be [] W (xVar 0) (xCons (xC (.bl false)) xNil))))
    xEnd)
    (xSeq (xDrop (xMeth (He.ga K "Strip") "must_be" sp_Strip_must_be [] W (xVar 0) (xCons (xOrV (xVar 3) (xCall sp_is_bare [] W (xCons (xVar 4) xNil))) xNil)))
    (xRet (xVar 4)))))))
theorem pr_Strip_key {P : Program} {w : World} {K : PySem.W.Frag} {mg : Str → Option Value} {base : Heap} {f : Addr} {cdv : Value} {A : Around} {outer : List Env} {s : Shared} {H : Hp} {E : XK} {j : Nat} {sp_Strip_sign sp_Strip_quoted sp_Strip_run sp_Strip_must_be sp_is_bare : Sp} (M : MF K mg) (hr : Room j (A.deeper (envOfC "Strip.key" (defScope s_Strip_key) s.heap.objs.size f cdv))) {k_Strip_sign : Nat} (c_Strip_sign : Met P w K mg base k_Strip_sign (He.ga K "Strip") "sign" sp_Strip_sign []) (hk_Strip_sign : k_Strip_sign ≤ j) {k_Strip_quoted : Nat} (c_Strip_quoted : Met P w K mg base k_Strip_quoted (He.ga K "Strip") "quoted" sp_Strip_quoted []) (hk_Strip_quoted : k_Strip_quoted ≤ j) {k_Strip_run : Nat} (c_Strip_run : Met P w K mg base k_Strip_run (He.ga K "Strip") "run" sp_Strip_run []) (hk_Strip_run : k_Strip_run ≤ j) {k_Strip_must_be : Nat} (c_Strip_must_be : Met P w K mg base k_Strip_must_be (He.ga K "Strip") "must_be" sp_Strip_must_be []) (hk_Strip_must_be : k_Strip_must_be ≤ j) {k_is_bare : Nat} (c_is_bare : Cal P w K mg base k_is_bare "is_bare" sp_is_bare []) (hk_is_bare : k_is_bare ≤ j) :
    PSs (cxOf (L2.CX P w) P w K mg base N_Strip_key "Strip.key" (defScope s_Strip_key) f cdv A outer s H E) (defBody s_Strip_key) (t_Strip_key K w sp_Strip_sign sp_Strip_quoted sp_Strip_run sp_Strip_must_be sp_is_bare fun cls d _ H' => E cls d H') := by
  have hN : (cxOf (L2.CX P w) P w K mg base N_Strip_key "Strip.key" (defScope s_Strip_key) f cdv A outer s H E).N.Nodup := sc_Strip_key.nd
  have tk := takesT (P := P) (w := w) (K := K) (mg := mg) (base := base) (N := N_Strip_key) (qual := "Strip.key") (scope := defScope s_Strip_key) (f := f) (cd := cdv) (A := A) (outer := outer) (s := s) (H := H) (E := E)
  have hu := hr.units
  have hu1 : (A.deeper (envOfC "Strip.key" (defScope s_Strip_key) s.heap.objs.size f cdv)).units + 1 < cLine := by omega
  unfold t_Strip_key
  exact (qs_cons (qs_set hN (px_fld (px_var 0))) (qs_cons (qs_set hN (px_cmp (u_eq hu) (px_meth0 c_Strip_sign hr hk_Strip_sign tk (px_var 0)) px_str)) (qs_cons (qs_set hN (px_if (pt_tr (px_var 3)) (px_meth0 c_Strip_quoted hr hk_Strip_quoted tk (px_var 0)) (px_meth c_Strip_run hr hk_Strip_run tk (px_var 0) (pq_cons (px_glob (M.str "SMALL" "abcdefghijklmnopqrstuvwxyz")) pq_nil)))) (qs_cons (qs_if (PW.pt (pw_both (pc_cmp u_isnot (px_var 1) px_non) (pw_one (pc_cmp u_le (px_var 4) (px_var 1))))) (qs_cons (qs_sto (px_var 0) (px_var 2)) (qs_one (qs_drop (px_meth c_Strip_must_be hr hk_Strip_must_be tk (px_var 0) (pq_cons px_bl pq_nil))))) qs_nil) (qs_cons (qs_drop (px_meth c_Strip_must_be hr hk_Strip_must_be tk (px_var 0) (pq_cons (px_orV (px_var 3) (px_one (px_call c_is_bare hr hk_is_bare tk (pq_cons (px_var 4) pq_nil)))) pq_nil))) (qs_one (qs_ret (px_var 4))))))))
/-! Strip.thing -/
def N_Strip_thing : List Str := ["self", "deep", "sign", "word", "found"]
theorem sc_Strip_thing : FnScope N_Strip_thing ["self", "deep"] (defScope s_Strip_thing) := ⟨rfl, rfl, rfl, by decide +kernel, rfl, by decide +kernel, by decide +kernel⟩
def t_Strip_thing (K : PySem.W.Frag) (w : World) (sp_Strip_sign sp_Strip_must_be sp_Strip_quoted sp_Strip_run sp_Strip_whole_number sp_Strip_pairs sp_Strip_things : Sp) (W : WX) : TS :=
    (xSeq (xSet 2 (xMeth (He.ga K "Strip") "sign" sp_Strip_sign [] W (xVar 0) xNil))
    (xSeq (xDrop (xMeth (He.ga K "Strip") "must_be" sp_Strip_must_be [] W (xVar 0) (xCons (xOp (uNe K) (xVar 2) (xC (.str (S [])))) xNil)))
    (xSeq (xIf (xCt (xOp (uEq K) (xVar 2) (xC (.str (S [39])))))
    (xRet (xMeth (He.ga K "Strip") "quoted" sp_Strip_quoted [] W (xVar 0) xNil))
    xEnd)
    (xSeq (xIf (xCt (xOp (uIn K w) (xVar 2) (xC (.str (S [97, 98, 99, 100, 101, 102, 103, 104, 105, 106, 107, 108, 109, 110, 111, 112, 113, 114, 115, 116, 117, 118, 119, 120, 121, 122])))))
    (xSeq (xSet 3 (xMeth (He.ga K "Strip") "run" sp_Strip_run [] W (xVar 0) (xCons (xC (.str (S [97, 98, 99, 100, 101, 102, 103, 104, 105, 106, 107, 108, 109, 110, 111, 112, 113, 114, 115, 116, 117, 118, 119, 120, 121, 122]))) xNil)))
    (xRet (xGet K w (xC (.ref (He.ga K "KEPT"))) (xVar 3) (xVar 3))))
    xEnd)
    (xSeq (xIf (xCt (xOp (uNotIn K w) (xVar 2) (xC (.ref (He.ga K "ENDS")))))
    (xRet (xMeth (He.ga K "Strip") "whole_number" sp_Strip_whole_number [] W (xVar 0) xNil))
    xEnd)
    (xSeq (xDrop (xMeth (He.ga K "Strip") "must_be" sp_Strip_must_be [] W (xVar 0) (xCons (xOp uGt (xVar 1) (xC (.int 0))) xNil)))
    (xSeq (xStoA K (xVar 0) "at" iAdd (xC (.int 1)))
    (xSeq (xIf (xCt (xOp (uEq K) (xVar 2) (xC (.str (S [123])))))
    (xRet (xMeth (He.ga K "Strip") "pairs" sp_Strip_pairs [] W (xVar 0) (xCons (xOp uSub (xVar 1) (xC (.int 1))) xNil)))
    xEnd)
    (xSeq (xSet 4 (xMeth (He.ga K "Strip") "things" sp_Strip_things [] W (xVar 0) (xCons (xOp (uIx K w) (xC (.ref (He.ga K "ENDS"))) (xVar 2)) (xCons (xOp uSub (xVar 1) (xC (.int 1))) xNil))))
    (xRet (xIfE (xCt (xOp (uEq K) (xVar 2) (xC (.str (S [40]))))) (xFn (tupR K) (xCons (xVar 4) xNil)) (xVar 4))))))))))))
theorem pr_Strip_thing {P : Program} {w : World} {K : PySem.W.Frag} {mg : Str → Option Value} {base : Heap} {f : Addr} {cdv : Value} {A : Around} {outer : List Env} {s : Shared} {H : Hp} {E : XK} {j : Nat} {sp_Strip_sign sp_Strip_must_be sp_Strip_quoted sp_Strip_run sp_Strip_whole_number sp_Strip_pairs sp_Strip_things : Sp} (M : MF K mg) (hr : Room j (A.deeper (envOfC "Strip.thing" (defScope s_Strip_thing) s.heap.objs.size f cdv))) {k_Strip_sign : Nat} (c_Strip_sign : Met P w K mg base k_Strip_sign (He.ga K "Strip") "sign" sp_Strip_sign []) (hk_Strip_sign : k_Strip_sign ≤ j) {k_Strip_must_be : Nat} (c_Strip_must_be : Met P w K mg base k_Strip_must_be (He.ga K "Strip") "must_be" sp_Strip_must_be []) (hk_Strip_must_be : k_Strip_must_be ≤ j) {k_Strip_quoted : Nat} (c_Strip_quoted : Met P w K mg base k_Strip_quoted (He.ga K "Strip") "quoted" sp_Strip_quoted []) (hk_Strip_quoted : k_Strip_quoted ≤ j) {k_Strip_run : Nat} (c_Strip_run : Met P w K mg base k_Strip_run (He.ga K "Strip") "run" sp_Strip_run []) (hk_Strip_run : k_Strip_run ≤ j) {k_Strip_whole_number : Nat} (c_Strip_whole_number : Met P w K mg base k_Strip_whole_number (He.ga K "Strip") "whole_number" sp_Strip_whole_number []) (hk_Strip_whole_number : k_Strip_whole_number ≤ j) {k_Strip_pairs : Nat} (c_Strip_pairs : Met P w K mg base k_Strip_pairs (He.ga K "Strip") "pairs" sp_Strip_pairs []) (hk_Strip_pairs : k_Strip_pairs ≤ j) {k_Strip_things : Nat} (c_Strip_things : Met P w K mg base k_Strip_things (He.ga K "Strip") "things" sp_Strip_things []) (hk_Strip_things : k_Strip_things ≤ j) :
    PSs (cxOf (L2.CX P w) P w K mg base N_Strip_thing "Strip.thing" (defScope s_Strip_thing) f cdv A outer s H E) (defBody s_Strip_thing) (t_Strip_thing K w sp_Strip_sign sp_Strip_must_be sp_Strip_quoted sp_Strip_run sp_Strip_whole_number sp_Strip_pairs sp_Strip_things fun cls d _ H' => E cls d H') := by
  have hN : (cxOf (L2.CX P w) P w K mg base N_Strip_thing "Strip.thing" (defScope s_Strip_thing) f cdv A outer s H E).N.Nodup := sc_Strip_thing.nd
  have tk := takesT (P := P) (w := w) (K := K) (mg := mg) (base := base) (N := N_Strip_thing) (qual := "Strip.thing") (scope := defScope s_Strip_thing) (f := f) (cd := cdv) (A := A) (outer := outer) (s := s) (H := H) (E := E)
  have hu := hr.units
  have hu1 : (A.deeper (envOfC "Strip.thing" (defScope s_Strip_thing) s.heap.objs.size f cdv)).units + 1 < cLine := by omega
  unfold t_Strip_thing
  exact (qs_cons (qs_set hN (px_meth0 c_Strip_sign hr hk_Strip_sign tk (px_var 0))) (qs_cons (qs_drop (px_meth c_Strip_must_be hr hk_Strip_must_be tk (px_var 0) (pq_cons (px_cmp (u_ne hu) (px_var 2) px_str) pq_nil))) (qs_cons (qs_if (pc_cmp (u_eq hu) (px_var 2) px_str) (qs_one (qs_ret (px_meth0 c_Strip_quoted hr hk_Strip_quoted tk (px_var 0)))) qs_nil) (qs_cons (qs_if (pc_cmp (u_in hu1) (px_var 2) (px_glob (M.str "SMALL" "abcdefghijklmnopqrstuvwxyz"))) (qs_cons (qs_set hN (px_meth c_Strip_run hr hk_Strip_run tk (px_var 0) (pq_cons (px_glob (M.str "SMALL" "abcdefghijklmnopqrstuvwxyz")) pq_nil))) (qs_one (qs_ret (px_get hu1 (px_glob (M.ref "KEPT")) (px_var 3) (px_var 3))))) qs_nil) (qs_cons (qs_if (pc_cmp (u_notin hu1) (px_var 2) (px_glob (M.ref "ENDS"))) (qs_one (qs_ret (px_meth0 c_Strip_whole_number hr hk_Strip_whole_number tk (px_var 0)))) qs_nil) (qs_cons (qs_drop (px_meth c_Strip_must_be hr hk_Strip_must_be tk (px_var 0) (pq_cons (px_cmp u_gt (px_var 1) px_int) pq_nil))) (qs_cons (qs_stoA i_add (px_var 0) px_int) (qs_cons (qs_if (pc_cmp (u_eq hu) (px_var 2) px_str) (qs_one (qs_ret (px_meth c_Strip_pairs hr hk_Strip_pairs tk (px_var 0) (pq_cons (px_op u_sub (px_var 1) px_int) pq_nil)))) qs_nil) (qs_cons (qs_set hN (px_meth c_Strip_things hr hk_Strip_things tk (px_var 0) (pq_cons (px_ix (u_ix hu1) (px_glob (M.ref "ENDS")) (px_var 2)) (pq_cons (px_op u_sub (px_var 1) px_int) pq_nil)))) (qs_one (qs_ret (px_if (pc_cmp (u_eq hu) (px_var 2) px_str) (px_bt r_tup (M.fre "tuple") (pq_cons (px_var 4) pq_nil)) (px_var 4)))))))))))))
/-! Strip.things -/
def N_Strip_things : List Str := ["self", "end", "deep", "found"]
theorem sc_Strip_things : FnScope N_Strip_things ["self", "end", "deep"] (defScope s_Strip_things) := ⟨rfl, rfl, rfl, by decide +kernel, rfl, by decide +kernel, by decide +kernel⟩
def t_Strip_things (K : PySem.W.Frag) (w : World) (sp_Strip_may sp_Strip_must_be sp_Strip_thing : Sp) (W : WX) : TS :=
    (xSeq (xSet 3 (xLst xNil))
    (xSeq (xWh (xNot (xTr K (xMeth (He.ga K "Strip") "may" sp_Strip_may [] W (xVar 0) (xCons (xVar 1) xNil))))
    (xSeq (xIf (xCt (xOp (uNe K) (xVar 3) (xLst xNil)))
    (xDrop (xMeth (He.ga K "Strip") "must_be" sp_Strip_must_be [] W (xVar 0) (xCons (xMeth (He.ga K "Strip") "may" sp_Strip_may [] W (xVar 0) (xCons (xC (.str (S [32]))) xNil)) xNil)))
    xEnd)
    (xDrop (xApp K (xVar 3) (xMeth (He.ga K "Strip") "thing" sp_Strip_thing [] W (xVar 0) (xCons (xVar 2) xNil))))))
    (xRet (xVar 3))))
theorem pr_Strip_things {P : Program} {w : World} {K : PySem.W.Frag} {mg : Str → Option Value} {base : Heap} {f : Addr} {cdv : Value} {A : Around} {outer : List Env} {s : Shared} {H : Hp} {E : XK} {j : Nat} {sp_Strip_may sp_Strip_must_be sp_Strip_thing : Sp} (M : MF K mg) (hr : Room j (A.deeper (envOfC "Strip.things" (defScope s_Strip_things) s.heap.objs.size f cdv))) {k_Strip_may : Nat} (c_Strip_may : Met P w K mg base k_Strip_may (He.ga K "Strip") "may" sp_Strip_may []) (hk_Strip_may : k_Strip_may ≤ j) {k_Strip_must_be : Nat} (c_Strip_must_be : Met P w K mg base k_Strip_must_be (He.ga K "Strip") "must_be" sp_Strip_must_be []) (hk_Strip_must_be : k_Strip_must_be ≤ j) {k_Strip_thing : Nat} (c_Strip_thing : Met P w K mg base k_Strip_thing (He.ga K "Strip") "thing" sp_Strip_thing []) (hk_Strip_thing : k_Strip_thing ≤ j) :
    PSs (cxOf (L2.CX P w) P w K mg base N_Strip_things "Strip.things" (defScope s_Strip_things) f cdv A outer s H E) (defBody s_Strip_things) (t_Strip_things K w sp_Strip_may sp_Strip_must_be sp_Strip_thing fun cls d _ H' => E cls d H') := by
  have hN : (cxOf (L2.CX P w) P w K mg base N_Strip_things "Strip.things" (defScope s_Strip_things) f cdv A outer s H E).N.Nodup := sc_Strip_things.nd
  have tk := takesT (P := P) (w := w) (K := K) (mg := mg) (base := base) (N := N_Strip_things) (qual := "Strip.things") (scope := defScope s_Strip_things) (f := f) (cd := cdv) (A := A) (outer := outer) (s := s) (H := H) (E := E)
  have hu := hr.units
  have hu1 : (A.deeper (envOfC "Strip.things" (defScope s_Strip_things) s.heap.objs.size f cdv)).units + 1 < cLine := by omega
  unfold t_Strip_things
  exact (qs_cons (qs_set hN (px_lst pq_nil)) (qs_cons (qs_wh passesT (pt_no (pt_tr (px_meth c_Strip_may hr hk_Strip_may tk (px_var 0) (pq_cons (px_var 1) pq_nil)))) (qs_cons (qs_if (pc_cmp (u_ne hu) (px_var 3) (px_lst pq_nil)) (qs_one (qs_drop (px_meth c_Strip_must_be hr hk_Strip_must_be tk (px_var 0) (pq_cons (px_meth c_Strip_may hr hk_Strip_may tk (px_var 0) (pq_cons px_str pq_nil)) pq_nil)))) qs_nil) (qs_one (qs_drop (px_app (px_var 3) (px_meth c_Strip_thing hr hk_Strip_thing tk (px_var 0) (pq_cons (px_var 2) pq_nil))))))) (qs_one (qs_ret (px_var 3)))))
/-! Strip.pairs -/
def N_Strip_pairs : List Str := ["self", "deep", "found", "ahead"]
theorem sc_Strip_pairs : FnScope N_Strip_pairs ["self", "deep"] (defScope s_Strip_pairs) := ⟨rfl, rfl, rfl, by decide +kernel, rfl, by decide +kernel, by decide +kernel⟩
def t_Strip_pairs (K : PySem.W.Frag) (w : World) (sp_Strip_may sp_Strip_must_be sp_Strip_key sp_Strip_thing : Sp) (W : WX) : TS :=
    (xSeq (xSet 2 xNew)
    (xSeq (xSet 3 (xC .non))
    (xSeq (xWh (xNot (xTr K (xMeth (He.ga K "Strip") "may" sp_Strip_may [] W (xVar 0) (xCons (xC (.str (S [125]))) xNil))))
    (xSeq (xIf (xCt (xOp uIsNot (xVar 3) (xC .non)))
    (xDrop (xMeth (He.ga K "Strip") "must_be" sp_Strip_must_be [] W (xVar 0) (xCons (xMeth (He.ga K "Strip") "may" sp_Strip_may [] W (xVar 0) (xCons (xC (.str (S [32]))) xNil)) xNil)))
    xEnd)
    (xSeq (xSet 3 (xMeth (He.ga K "Strip") "key" sp_Strip_key [] W (xVar 0) (xCons (xVar 3) xNil)))
    (xSeq (xDrop (xMeth (He.ga K "Strip") "must_be" sp_Strip_must_be [] W (xVar 0) (xCons (xMeth (He.ga K "Strip") "may" sp_Strip_may [] W (xVar 0) (xCons (xC (.str (S [32]))) xNil)) xNil)))
    (xPut (xVar 2) (xVar 3) (xMeth (He.ga K "Strip") "thing" sp_Strip_thing [] W (xVar 0) (xCons (xVar 1) xNil)))))))
    (xRet (xVar 2)))))
theorem pr_Strip_pairs {P : Program} {w : World} {K : PySem.W.Frag} {mg : Str → Option Value} {base : Heap} {f : Addr} {cdv : Value} {A : Around} {outer : List Env} {s : Shared} {H : Hp} {E : XK} {j : Nat} {sp_Strip_may sp_Strip_must_be sp_Strip_key sp_Strip_thing : Sp} (M : MF K mg) (hr : Room j (A.deeper (envOfC "Strip.pairs" (defScope s_Strip_pairs) s.heap.objs.size f cdv))) {k_Strip_may : Nat} (c_Strip_may : Met P w K mg base k_Strip_may (He.ga K "Strip") "may" sp_Strip_may []) (hk_Strip_may : k_Strip_may ≤ j) {k_Strip_must_be : Nat} (c_Strip_must_be : Met P w K mg base k_Strip_must_be (He.ga K "Strip") "must_be" sp_Strip_must_be []) (hk_Strip_must_be : k_Strip_must_be ≤ j) {k_Strip_key : Nat} (c_Strip_key : Met P w K mg base k_Strip_key (He.ga K "Strip") "key" sp_Strip_key []) (hk_Strip_key : k_Strip_key ≤ j) {k_Strip_thing : Nat} (c_Strip_thing : Met P w K mg base k_Strip_thing (He.ga K "Strip") "thing" sp_Strip_thing []) (hk_Strip_thing : k_Strip_thing ≤ j) :
    PSs (cxOf (L2.CX P w) P w K mg base N_Strip_pairs "Strip.pairs" (defScope s_Strip_pairs) f cdv A outer s H E) (defBody s_Strip_pairs) (t_Strip_pairs K w sp_Strip_may sp_Strip_must_be sp_Strip_key sp_Strip_thing fun cls d _ H' => E cls d H') := by
  have hN : (cxOf (L2.CX P w) P w K mg base N_Strip_pairs "Strip.pairs" (defScope s_Strip_pairs) f cdv A outer s H E).N.Nodup := sc_Strip_pairs.nd
  have tk := takesT (P := P) (w := w) (K := K) (mg := mg) (base := base) (N := N_Strip_pairs) (qual := "Strip.pairs") (scope := defScope s_Strip_pairs) (f := f) (cd := cdv) (A := A) (outer := outer) (s := s) (H := H) (E := E)
  have hu := hr.units
  have hu1 : (A.deeper (envOfC "Strip.pairs" (defScope s_Strip_pairs) s.heap.objs.size f cdv)).units + 1 < cLine := by omega
  unfold t_Strip_pairs
  exact (qs_cons (qs_set hN px_new) (qs_cons (qs_set hN px_non) (qs_cons (qs_wh passesT (pt_no (pt_tr (px_meth c_Strip_may hr hk_Strip_may tk (px_var 0) (pq_cons px_str pq_nil)))) (qs_cons (qs_if (pc_cmp u_isnot (px_var 3) px_non) (qs_one (qs_drop (px_meth c_Strip_must_be hr hk_Strip_must_be tk (px_var 0) (pq_cons (px_meth c_Strip_may hr hk_Strip_may tk (px_var 0) (pq_cons px_str pq_nil)) pq_nil)))) qs_nil) (qs_cons (qs_set hN (px_meth c_Strip_key hr hk_Strip_key tk (px_var 0) (pq_cons (px_var 3) pq_nil))) (qs_cons (qs_drop (px_meth c_Strip_must_be hr hk_Strip_must_be tk (px_var 0) (pq_cons (px_meth c_Strip_may hr hk_Strip_may tk (px_var 0) (pq_cons px_str pq_nil)) pq_nil))) (qs_one (qs_put hu1 (px_var 2) (px_var 3) (px_meth c_Strip_thing hr hk_Strip_thing tk (px_var 0) (pq_cons (px_var 1) pq_nil)))))))) (qs_one (qs_ret (px_var 2))))))
/-! read_paper -/
def N_read_paper : List Str := ["text", "deep", "strip", "found"]
theorem sc_read_paper : FnScope N_read_paper ["text", "deep"] (defScope s_read_paper) := ⟨rfl, rfl, rfl, by decide +kernel, rfl, by decide +kernel, by decide +kernel⟩
def t_read_paper (K : PySem.W.Frag) (w : World) (sp_Strip_init sp_Strip_thing sp_Strip_must_be sp_Strip_sign : Sp) (W : WX) : TS :=
    (xSeq (xSet 2 (xMake (He.ga K "Strip") sp_Strip_init [] (xCons (xVar 0) xNil)))
    (xSeq (xSet 3 (xMeth (He.ga K "Strip") "thing" sp_Strip_thing [] W (xVar 2) (xCons (xFn minR (xCons (xVar 1) (xCons (xC (.int 100)) xNil))) xNil)))
    (xSeq (xDrop (xMeth (He.ga K "Strip") "must_be" sp_Strip_must_be [] W (xVar 2) (xCons (xOp (uEq K) (xMeth (He.ga K "Strip") "sign" sp_Strip_sign [] W (xVar 2) xNil) (xC (.str (S [])))) xNil)))
    (xRet (xVar 3)))))
theorem pr_read_paper {P : Program} {w : World} {K : PySem.W.Frag} {mg : Str → Option Value} {base : Heap} {f : Addr} {cdv : Value} {A : Around} {outer : List Env} {s : Shared} {H : Hp} {E : XK} {j : Nat} {sp_Strip_init sp_Strip_thing sp_Strip_must_be sp_Strip_sign : Sp} (M : MF K mg) (hr : Room j (A.deeper (envOfC "read_paper" (defScope s_read_paper) s.heap.objs.size f cdv))) {k_Strip_init : Nat} (m_Strip : Mak P w K mg base k_Strip_init "Strip" (He.ga K "Strip") sp_Strip_init []) (hk_Strip_init : k_Strip_init + 1 ≤ j) {k_Strip_thing : Nat} (c_Strip_thing : Met P w K mg base k_Strip_thing (He.ga K "Strip") "thing" sp_Strip_thing []) (hk_Strip_thing : k_Strip_thing ≤ j) {k_Strip_must_be : Nat} (c_Strip_must_be : Met P w K mg base k_Strip_must_be (He.ga K "Strip") "must_be" sp_Strip_must_be []) (hk_Strip_must_be : k_Strip_must_be ≤ j) {k_Strip_sign : Nat} (c_Strip_sign : Met P w K mg base k_Strip_sign (He.ga K "Strip") "sign" sp_Strip_sign []) (hk_Strip_sign : k_Strip_sign ≤ j) :
    PSs (cxOf (L2.CX P w) P w K mg base N_read_paper "read_paper" (defScope s_read_paper) f cdv A outer s H E) (defBody s_read_paper) (t_read_paper K w sp_Strip_init sp_Strip_thing sp_Strip_must_be sp_Strip_sign fun cls d _ H' => E cls d H') := by
  have hN : (cxOf (L2.CX P w) P w K mg base N_read_paper "read_paper" (defScope s_read_paper) f cdv A outer s H E).N.Nodup := sc_read_paper.nd
  have tk := takesT (P := P) (w := w) (K := K) (mg := mg) (base := base) (N := N_read_paper) (qual := "read_paper") (scope := defScope s_read_paper) (f := f) (cd := cdv) (A := A) (outer := outer) (s := s) (H := H) (E := E)
  have hu := hr.units
  have hu1 : (A.deeper (envOfC "read_paper" (defScope s_read_paper) s.heap.objs.size f cdv)).units + 1 < cLine := by omega
  unfold t_read_paper
  exact (qs_cons (qs_set hN (px_make m_Strip hr hk_Strip_init (pq_cons (px_var 0) pq_nil))) (qs_cons (qs_set hN (px_meth c_Strip_thing hr hk_Strip_thing tk (px_var 2) (pq_cons (px_bi r_min (M.fre "min") (pq_cons (px_var 1) (pq_cons (px_glob (M.int "DEEPEST" 100)) pq_nil))) pq_nil))) (qs_cons (qs_drop (px_meth c_Strip_must_be hr hk_Strip_must_be tk (px_var 2) (pq_cons (px_cmp (u_eq hu) (px_meth0 c_Strip_sign hr hk_Strip_sign tk (px_var 2)) px_str) pq_nil))) (qs_one (qs_ret (px_var 3))))))
/-! _law_purse -/
def N__law_purse : List Str := ["_law_script", "_law_cells", "_law_cell"]
theorem sc__law_purse : FnScope N__law_purse ["_law_script"] (defScope s__law_purse) := ⟨rfl, rfl, rfl, by decide +kernel, rfl, by decide +kernel, by decide +kernel⟩
def t__law_purse (K : PySem.W.Frag) (w : World) (W : WX) : TS :=
    (xSeq (xSet 1 (xLc W (xIt K (xSl (uSl K) (xVar 0) xNo (xPart (xC (.int 63))))) (xG 2) (fun W => tYes) (fun W => (xOp uMod (xVar 2) (xOp uPow (xOp uPow (xC (.int 10)) (xC (.int 60))) (xC (.int 60))))) [2]))
    (xSeq (xIf (xCt (xOp (uEq K) (xVar 1) (xLst xNil)))
    (xSet 1 (xLst (xCons (xC (.int 0)) xNil)))
    xEnd)
    (xRet (xLst (xCons (xVar 1) (xCons (xC (.int 0)) xNil))))))
theorem pr__law_purse {P : Program} {w : World} {K : PySem.W.Frag} {mg : Str → Option Value} {base : Heap} {f : Addr} {cdv : Value} {A : Around} {outer : List Env} {s : Shared} {H : Hp} {E : XK} {j : Nat} (M : MF K mg) (hr : Room j (A.deeper (envOfC "_law_purse" (defScope s__law_purse) s.heap.objs.size f cdv)))  :
    PSs (cxOf (L2.CX P w) P w K mg base N__law_purse "_law_purse" (defScope s__law_purse) f cdv A outer s H E) (defBody s__law_purse) (t__law_purse K w fun cls d _ H' => E cls d H') := by
  have hN : (cxOf (L2.CX P w) P w K mg base N__law_purse "_law_purse" (defScope s__law_purse) f cdv A outer s H E).N.Nodup := sc__law_purse.nd
  have tk := takesT (P := P) (w := w) (K := K) (mg := mg) (base := base) (N := N__law_purse) (qual := "_law_purse") (scope := defScope s__law_purse) (f := f) (cd := cdv) (A := A) (outer := outer) (s := s) (H := H) (E := E)
  have hu := hr.units
  have hu1 : (A.deeper (envOfC "_law_purse" (defScope s__law_purse) s.heap.objs.size f cdv)).units + 1 < cLine := by omega
  unfold t__law_purse
  exact (qs_cons (qs_setLc hN tk (qi_it (px_sl u_sl (px_var 0) po_no (po_at px_int))) (blkOk_by (N := N__law_purse) (sc := defScope s__law_purse) (own := [("_law_cell", 2)]) (by decide +kernel)) (fun _ _ _ _ _ _ => (pg_g hN)) (fun _ _ _ _ _ _ W tkb => pts_nil) (fun _ _ _ _ _ _ W tkb => (px_op u_mod (px_var 2) (px_op u_pow (px_op u_pow px_int px_int) px_int)))) (qs_cons (qs_if (pc_cmp (u_eq hu) (px_var 1) (px_lst pq_nil)) (qs_one (qs_set hN (px_lst (pq_cons px_int pq_nil)))) qs_nil) (qs_one (qs_ret (px_lst (pq_cons (px_var 1) (pq_cons px_int pq_nil)))))))
/-! _law_draw -/
def N__law_draw : List Str := ["_law_purse_here", "_law_out_of", "_law_cells", "_law_went", "_law_at", "_law_cell", "_law_number", "_law_other"]
theorem sc__law_draw : FnScope N__law_draw ["_law_purse_here", "_law_out_of"] (defScope s__law_draw) := ⟨rfl, rfl, rfl, by decide +kernel, rfl, by decide +kernel, by decide +kernel⟩
def t__law_draw (K : PySem.W.Frag) (w : World) (W : WX) : TS :=
    (xSeq (xUnp2 K 2 3 (xVar 0))
    (xSeq (xSet 4 (xOp uMod (xVar 3) (xFn (lenR K) (xCons (xVar 2) xNil))))
    (xSeq (xSet 5 (xOp (uIx K w) (xVar 2) (xVar 4)))
    (xSeq (xPut (xVar 0) (xC (.int 1)) (xOp (uAdd K) (xVar 3) (xC (.int 1))))
    (xSeq (xIf (xCt (xOp uGe (xVar 5) (xOp uPow (xC (.int 10)) (xC (.int 18)))))
    (xSeq (xPut (xVar 2) (xVar 4) (xOp uDiv (xVar 5) (xVar 1)))
    (xRet (xOp uMod (xVar 5) (xVar 1))))
    xEnd)
    (xSeq (xSet 6 (xOp uMod (xOp (uAdd K) (xOp (uAdd K) (xOp uMul (xOp uMod (xVar 5) (xC (.int 2147483629))) (xC (.int 48271))) (xOp uMul (xOp uMul (xVar 3) (xVar 3)) (xC (.int 69621)))) (xC (.int 11))) (xC (.int 2147483647))))
    (xSeq (xSet 6 (xOp uMod (xOp uMul (xVar 6) (xVar 6)) (xC (.int 2147483629))))
    (xSeq (xSet 6 (xOp uMod (xOp uMul (xVar 6) (xVar 6)) (xC (.int 2147483587))))
    (xSeq (xIf (xCt (xOp uGt (xVar 1) (xOp uPow (xC (.int 10)) (xC (.int 9)))))
    (xSeq (xSet 7 (xOp uMod (xOp (uAdd K) (xOp (uAdd K) (xOp uMul (xVar 6) (xC (.int 39373))) (xOp uMul (xVar 3) (xC (.int 7919)))) (xC (.int 500))) (xC (.int 2147483629))))
    (xSet 6 (xOp uMul (xVar 6) (xOp (uAdd K) (xOp uMul (xOp uMul (xVar 7) (xVar 7)) (xVar 7)) (xC (.int 1))))))
    xEnd)
    (xRet (xOp uMod (xVar 6) (xVar 1))))))))))))
theorem pr__law_draw {P : Program} {w : World} {K : PySem.W.Frag} {mg : Str → Option Value} {base : Heap} {f : Addr} {cdv : Value} {A : Around} {outer : List Env} {s : Shared} {H : Hp} {E : XK} {j : Nat} (M : MF K mg) (hr : Room j (A.deeper (envOfC "_law_draw" (defScope s__law_draw) s.heap.objs.size f cdv)))  :
    PSs (cxOf (L2.CX P w) P w K mg base N__law_draw "_law_draw" (defScope s__law_draw) f cdv A outer s H E) (defBody s__law_draw) (t__law_draw K w fun cls d _ H' => E cls d H') := by
  have hN : (cxOf (L2.CX P w) P w K mg base N__law_draw "_law_draw" (defScope s__law_draw) f cdv A outer s H E).N.Nodup := sc__law_draw.nd
  have tk := takesT (P := P) (w := w) (K := K) (mg := mg) (base := base) (N := N__law_draw) (qual := "_law_draw") (scope := defScope s__law_draw) (f := f) (cd := cdv) (A := A) (outer := outer) (s := s) (H := H) (E := E)
  have hu := hr.units
  have hu1 : (A.deeper (envOfC "_law_draw" (defScope s__law_draw) s.heap.objs.size f cdv)).units + 1 < cLine := by omega
  unfold t__law_draw
  exact (qs_cons (qs_unp2 hN (px_var 0) (pg_g2 hN)) (qs_cons (qs_set hN (px_op u_mod (px_var 3) (px_bi r_len (M.fre "len") (pq_cons (px_var 2) pq_nil)))) (qs_cons (qs_set hN (px_ix (u_ix hu1) (px_var 2) (px_var 4))) (qs_cons (qs_put hu1 (px_var 0) px_int (px_op u_add (px_var 3) px_int)) (qs_cons (qs_if (pc_cmp u_ge (px_var 5) (px_op u_pow px_int px_int)) (qs_cons (qs_put hu1 (px_var 2) (px_var 4) (px_op u_div (px_var 5) (px_var 1))) (qs_one (qs_ret (px_op u_mod (px_var 5) (px_var 1))))) qs_nil) (qs_cons (qs_set hN (px_op u_mod (px_op u_add (px_op u_add (px_op u_mul (px_op u_mod (px_var 5) px_int) px_int) (px_op u_mul (px_op u_mul (px_var 3) (px_var 3)) px_int)) px_int) px_int)) (qs_cons (qs_set hN (px_op u_mod (px_op u_mul (px_var 6) (px_var 6)) px_int)) (qs_cons (qs_set hN (px_op u_mod (px_op u_mul (px_var 6) (px_var 6)) px_int)) (qs_cons (qs_if (pc_cmp u_gt (px_var 1) (px_op u_pow px_int px_int)) (qs_cons (qs_set hN (px_op u_mod (px_op u_add (px_op u_add (px_op u_mul (px_var 6) px_int) (px_op u_mul (px_var 3) px_int)) px_int) px_int)) (qs_one (qs_set hN (px_op u_mul (px_var 6) (px_op u_add (px_op u_mul (px_op u_mul (px_var 7) (px_var 7)) (px_var 7)) px_int))))) qs_nil) (qs_one (qs_ret (px_op u_mod (px_var 6) (px_var 1)))))))))))))
/-! _law_text -/
def N__law_text : List Str := ["_law_purse_here", "_law_way", "_law_sign"]
theorem sc__law_text : FnScope N__law_text ["_law_purse_here"] (defScope s__law_text) := ⟨rfl, rfl, rfl, by decide +kernel, rfl, by decide +kernel, by decide +kernel⟩
def t__law_text (K : PySem.W.Frag) (w : World) (sp__law_draw : Sp) (W : WX) : TS :=
    (xSeq (xSet 1 (xCall sp__law_draw [] W (xCons (xVar 0) (xCons (xC (.int 5)) xNil))))
    (xSeq (xIf (xCt (xOp (uEq K) (xVar 1) (xC (.int 0))))
    (xRet (xOp (uIx K w) (xLst (xCons (xC (.str (S [110, 111, 110, 101]))) (xCons (xC (.str (S [121, 101, 115]))) (xCons (xC (.str (S [110, 111]))) (xCons (xC (.str (S []))) (xCons (xC (.str (S [97]))) (xCons (xC (.str (S [110]))) (xCons (xC (.str (S [110, 111, 110, 101, 115]))) (xCons (xC (.str (S [122, 122]))) xNil))))))))) (xCall sp__law_draw [] W (xCons (xVar 0) (xCons (xC (.int 8)) xNil)))))
    xEnd)
    (xSeq (xIf (xCt (xOp (uEq K) (xVar 1) (xC (.int 1))))
    (xRet (xJoin K (xC (.str (S []))) (xLc W (xRng (xCall sp__law_draw [] W (xCons (xVar 0) (xCons (xC (.int 6)) xNil)))) (xG 2) (fun W => tYes) (fun W => (xOp (uIx K w) (xC (.str (S [39, 94, 110, 10, 65, 122, 32, 48]))) (xCall sp__law_draw [] W (xCons (xVar 0) (xCons (xC (.int 8)) xNil))))) [2])))
    xEnd)
    (xSeq (xIf (xCt (xOp (uEq K) (xVar 1) (xC (.int 2))))
    (xRet (xJoin K (xC (.str (S []))) (xLc W (xRng (xCall sp__law_draw [] W (xCons (xVar 0) (xCons (xC (.int 5)) xNil)))) (xG 2) (fun W => tYes) (fun W => (xOp (uIx K w) (xC (.str (S [126, 33, 123, 125, 40, 41, 91, 93, 45, 44, 46, 39]))) (xCall sp__law_draw [] W (xCons (xVar 0) (xCons (xC (.int 12)) xNil))))) [2])))
    xEnd)
    (xRet (xJoin K (xC (.str (S []))) (xLc W (xRng (xOp (uAdd K) (xC (.int 1)) (xCall sp__law_draw [] W (xCons (xVar 0) (xCons (xC (.int 9)) xNil))))) (xG 2) (fun W => tYes) (fun W => (xOp (uIx K w) (xC (.str (S [97, 98, 110, 111, 115, 121, 122]))) (xCall sp__law_draw [] W (xCons (xVar 0) (xCons (xC (.int 7)) xNil))))) [2])))))))
theorem pr__law_text {P : Program} {w : World} {K : PySem.W.Frag} {mg : Str → Option Value} {base : Heap} {f : Addr} {cdv : Value} {A : Around} {outer : List Env} {s : Shared} {H : Hp} {E : XK} {j : Nat} {sp__law_draw : Sp} (M : MF K mg) (hr : Room j (A.deeper (envOfC "_law_text" (defScope s__law_text) s.heap.objs.size f cdv))) {k__law_draw : Nat} (c__law_draw : Cal P w K mg base k__law_draw "_law_draw" sp__law_draw []) (hk__law_draw : k__law_draw ≤ j) :
    PSs (cxOf (L2.CX P w) P w K mg base N__law_text "_law_text" (defScope s__law_text) f cdv A outer s H E) (defBody s__law_text) (t__law_text K w sp__law_draw fun cls d _ H' => E cls d H') := by
  have hN : (cxOf (L2.CX P w) P w K mg base N__law_text "_law_text" (defScope s__law_text) f cdv A outer s H E).N.Nodup := sc__law_text.nd
  have tk := takesT (P := P) (w := w) (K := K) (mg := mg) (base := base) (N := N__law_text) (qual := "_law_text") (scope := defScope s__law_text) (f := f) (cd := cdv) (A := A) (outer := outer) (s := s) (H := H) (E := E)
  have hu := hr.units
  have hu1 : (A.deeper (envOfC "_law_text" (defScope s__law_text) s.heap.objs.size f cdv)).units + 1 < cLine := by omega
  unfold t__law_text
  exact (qs_cons (qs_set hN (px_call c__law_draw hr hk__law_draw tk (pq_cons (px_var 0) (pq_cons px_int pq_nil)))) (qs_cons (qs_if (pc_cmp (u_eq hu) (px_var 1) px_int) (qs_one (qs_ret (px_ix (u_ix hu1) (px_lst (pq_cons px_str (pq_cons px_str (pq_cons px_str (pq_cons px_str (pq_cons px_str (pq_cons px_str (pq_cons px_str (pq_cons px_str pq_nil))))))))) (px_call c__law_draw hr hk__law_draw tk (pq_cons (px_var 0) (pq_cons px_int pq_nil)))))) qs_nil) (qs_cons (qs_if (pc_cmp (u_eq hu) (px_var 1) px_int) (qs_one (qs_ret (px_join px_str (px_lc hN tk (qi_rng (M.fre "range") (px_call c__law_draw hr hk__law_draw tk (pq_cons (px_var 0) (pq_cons px_int pq_nil)))) (blkOk_by (N := N__law_text) (sc := defScope s__law_text) (own := [("_law_sign", 2)]) (by decide +kernel)) (fun _ _ _ _ _ _ => (pg_g hN)) (fun _ _ _ _ _ _ W tkb => pts_nil) (fun _ _ _ _ _ _ W tkb => (px_ix (u_ix hu1) px_str (px_call c__law_draw hr hk__law_draw tkb (pq_cons (px_var 0) (pq_cons px_int pq_nil))))))))) qs_nil) (qs_cons (qs_if (pc_cmp (u_eq hu) (px_var 1) px_int) (qs_one (qs_ret (px_join px_str (px_lc hN tk (qi_rng (M.fre "range") (px_call c__law_draw hr hk__law_draw tk (pq_cons (px_var 0) (pq_cons px_int pq_nil)))) (blkOk_by (N := N__law_text) (sc := defScope s__law_text) (own := [("_law_sign", 2)]) (by decide +kernel)) (fun _ _ _ _ _ _ => (pg_g hN)) (fun _ _ _ _ _ _ W tkb => pts_nil) (fun _ _ _ _ _ _ W tkb => (px_ix (u_ix hu1) px_str (px_call c__law_draw hr hk__law_draw tkb (pq_cons (px_var 0) (pq_cons px_int pq_nil))))))))) qs_nil) (qs_one (qs_ret (px_join px_str (px_lc hN tk (qi_rng (M.fre "range") (px_op u_add px_int (px_call c__law_draw hr hk__law_draw tk (pq_cons (px_var 0) (pq_cons px_int pq_nil))))) (blkOk_by (N := N__law_text) (sc := defScope s__law_text) (own := [("_law_sign", 2)]) (by decide +kernel)) (fun _ _ _ _ _ _ => (pg_g hN)) (fun _ _ _ _ _ _ W tkb => pts_nil) (fun _ _ _ _ _ _ W tkb => (px_ix (u_ix hu1) px_str (px_call c__law_draw hr hk__law_draw tkb (pq_cons (px_var 0) (pq_cons px_int pq_nil)))))))))))))
/-! _law_plain -/
def N__law_plain : List Str := ["_law_purse_here", "_law_way", "_law_number"]
theorem sc__law_plain : FnScope N__law_plain ["_law_purse_here"] (defScope s__law_plain) := ⟨rfl, rfl, rfl, by decide +kernel, rfl, by decide +kernel, by decide +kernel⟩
def t__law_plain (K : PySem.W.Frag) (w : World) (sp__law_draw sp__law_text : Sp) (W : WX) : TS :=
    (xSeq (xSet 1 (xCall sp__law_draw [] W (xCons (xVar 0) (xCons (xC (.int 6)) xNil))))
    (xSeq (xIf (xCt (xOp uLt (xVar 1) (xC (.int 2))))
    (xRet (xCall sp__law_text [] W (xCons (xVar 0) xNil)))
    xEnd)
    (xSeq (xIf (xCt (xOp (uEq K) (xVar 1) (xC (.int 2))))
    (xRet (xOp (uIx K w) (xLst (xCons (xC .non) (xCons (xC (.bl true)) (xCons (xC (.bl false)) xNil)))) (xCall sp__law_draw [] W (xCons (xVar 0) (xCons (xC (.int 3)) xNil)))))
    xEnd)
    (xSeq (xSet 2 (xOp (uIx K w) (xLst (xCons (xCall sp__law_draw [] W (xCons (xVar 0) (xCons (xC (.int 12)) xNil))) (xCons (xCall sp__law_draw [] W (xCons (xVar 0) (xCons (xC (.int 1000)) xNil))) (xCons (xCall sp__law_draw [] W (xCons (xVar 0) (xCons (xOp uPow (xC (.int 10)) (xC (.int 29))) xNil))) xNil)))) (xCall sp__law_draw [] W (xCons (xVar 0) (xCons (xC (.int 3)) xNil)))))
    (xRet (xOp (uIx K w) (xLst (xCons (xVar 2) (xCons (xOp uSub (xC (.int 0)) (xVar 2)) xNil))) (xCall sp__law_draw [] W (xCons (xVar 0) (xCons (xC (.int 2)) xNil)))))))))
theorem pr__law_plain {P : Program} {w : World} {K : PySem.W.Frag} {mg : Str → Option Value} {base : Heap} {f : Addr} {cdv : Value} {A : Around} {outer : List Env} {s : Shared} {H : Hp} {E : XK} {j : Nat} {sp__law_draw sp__law_text : Sp} (M : MF K mg) (hr : Room j (A.deeper (envOfC "_law_plain" (defScope s__law_plain) s.heap.objs.size f cdv))) {k__law_draw : Nat} (c__law_draw : Cal P w K mg base k__law_draw "_law_draw" sp__law_draw []) (hk__law_draw : k__law_draw ≤ j) {k__law_text : Nat} (c__law_text : Cal P w K mg base k__law_text "_law_text" sp__law_text []) (hk__law_text : k__law_text ≤ j) :
    PSs (cxOf (L2.CX P w) P w K mg base N__law_plain "_law_plain" (defScope s__law_plain) f cdv A outer s H E) (defBody s__law_plain) (t__law_plain K w sp__law_draw sp__law_text fun cls d _ H' => E cls d H') := by
  have hN : (cxOf (L2.CX P w) P w K mg base N__law_plain "_law_plain" (defScope s__law_plain) f cdv A outer s H E).N.Nodup := sc__law_plain.nd
  have tk := takesT (P := P) (w := w) (K := K) (mg := mg) (base := base) (N := N__law_plain) (qual := "_law_plain") (scope := defScope s__law_plain) (f := f) (cd := cdv) (A := A) (outer := outer) (s := s) (H := H) (E := E)
  have hu := hr.units
  have hu1 : (A.deeper (envOfC "_law_plain" (defScope s__law_plain) s.heap.objs.size f cdv)).units + 1 < cLine := by omega
  unfold t__law_plain
  exact (qs_cons (qs_set hN (px_call c__law_draw hr hk__law_draw tk (pq_cons (px_var 0) (pq_cons px_int pq_nil)))) (qs_cons (qs_if (pc_cmp u_lt (px_var 1) px_int) (qs_one (qs_ret (px_call c__law_text hr hk__law_text tk (pq_cons (px_var 0) pq_nil)))) qs_nil) (qs_cons (qs_if (pc_cmp (u_eq hu) (px_var 1) px_int) (qs_one (qs_ret (px_ix (u_ix hu1) (px_lst (pq_cons px_non (pq_cons px_bl (pq_cons px_bl pq_nil)))) (px_call c__law_draw hr hk__law_draw tk (pq_cons (px_var 0) (pq_cons px_int pq_nil)))))) qs_nil) (qs_cons (qs_set hN (px_ix (u_ix hu1) (px_lst (pq_cons (px_call c__law_draw hr hk__law_draw tk (pq_cons (px_var 0) (pq_cons px_int pq_nil))) (pq_cons (px_call c__law_draw hr hk__law_draw tk (pq_cons (px_var 0) (pq_cons px_int pq_nil))) (pq_cons (px_call c__law_draw hr hk__law_draw tk (pq_cons (px_var 0) (pq_cons (px_op u_pow px_int px_int) pq_nil))) pq_nil)))) (px_call c__law_draw hr hk__law_draw tk (pq_cons (px_var 0) (pq_cons px_int pq_nil))))) (qs_one (qs_ret (px_ix (u_ix hu1) (px_lst (pq_cons (px_var 2) (pq_cons (px_op u_sub px_int (px_var 2)) pq_nil))) (px_call c__law_draw hr hk__law_draw tk (pq_cons (px_var 0) (pq_cons px_int pq_nil))))))))))
/-! _law_thing -/
def N__law_thing : List Str := ["_law_purse_here", "_law_low", "_law_way", "_law_some", "_law_found", "_law_one", "_law_k"]
theorem sc__law_thing : FnScope N__law_thing ["_law_purse_here", "_law_low"] (defScope s__law_thing) := ⟨rfl, rfl, rfl, by decide +kernel, rfl, by decide +kernel, by decide +kernel⟩
def t__law_thing (K : PySem.W.Frag) (w : World) (sp__law_draw sp__law_plain sp__law_thing sp__law_text : Sp) (W : WX) : TS :=
    (xSeq (xSet 2 (xCall sp__law_draw [] W (xCons (xVar 0) (xCons (xC (.int 7)) xNil))))
    (xSeq (xIf (xOr (xCt (xOp uLt (xVar 1) (xC (.int 1)))) (xCt (xOp uLt (xVar 2) (xC (.int 2)))))
    (xRet (xCall sp__law_plain [] W (xCons (xVar 0) xNil)))
    xEnd)
    (xSeq (xSet 3 (xLc W (xRng (xCall sp__law_draw [] W (xCons (xVar 0) (xCons (xC (.int 4)) xNil)))) (xG 6) (fun W => tYes) (fun W => (xCall sp__law_thing [] W (xCons (xVar 0) (xCons (xOp uSub (xVar 1) (xC (.int 1))) xNil)))) [6]))
    (xSeq (xIf (xCt (xOp uLt (xVar 2) (xC (.int 4))))
    (xRet (xFn (tupR K) (xCons (xVar 3) xNil)))
    xEnd)
    (xSeq (xIf (xCt (xOp uLt (xVar 2) (xC (.int 6))))
    (xRet (xVar 3))
    xEnd)
    (xSeq (xSet 4 xNew)
    (xSeq (xFor (xIt K (xVar 3)) (xG 5)
    (xPut (xVar 4) (xCall sp__law_text [] W (xCons (xVar 0) xNil)) (xVar 5)))
    (xRet (xVar 4)))))))))
theorem pr__law_thing {P : Program} {w : World} {K : PySem.W.Frag} {mg : Str → Option Value} {base : Heap} {f : Addr} {cdv : Value} {A : Around} {outer : List Env} {s : Shared} {H : Hp} {E : XK} {j : Nat} {sp__law_draw sp__law_plain sp__law_thing sp__law_text : Sp} (M : MF K mg) (hr : Room j (A.deeper (envOfC "_law_thing" (defScope s__law_thing) s.heap.objs.size f cdv))) {k__law_draw : Nat} (c__law_draw : Cal P w K mg base k__law_draw "_law_draw" sp__law_draw []) (hk__law_draw : k__law_draw ≤ j) {k__law_plain : Nat} (c__law_plain : Cal P w K mg base k__law_plain "_law_plain" sp__law_plain []) (hk__law_plain : k__law_plain ≤ j) {k__law_thing : Nat} (c__law_thing : Cal P w K mg base k__law_thing "_law_thing" sp__law_thing []) (hk__law_thing : k__law_thing ≤ j) {k__law_text : Nat} (c__law_text : Cal P w K mg base k__law_text "_law_text" sp__law_text []) (hk__law_text : k__law_text ≤ j) :
    PSs (cxOf (L2.CX P w) P w K mg base N__law_thing "_law_thing" (defScope s__law_thing) f cdv A outer s H E) (defBody s__law_thing) (t__law_thing K w sp__law_draw sp__law_plain sp__law_thing sp__law_text fun cls d _ H' => E cls d H') := by
  have hN : (cxOf (L2.CX P w) P w K mg base N__law_thing "_law_thing" (defScope s__law_thing) f cdv A outer s H E).N.Nodup := sc__law_thing.nd
  have tk := takesT (P := P) (w := w) (K := K) (mg := mg) (base := base) (N := N__law_thing) (qual := "_law_thing") (scope := defScope s__law_thing) (f := f) (cd := cdv) (A := A) (outer := outer) (s := s) (H := H) (E := E)
  have hu := hr.units
  have hu1 : (A.deeper (envOfC "_law_thing" (defScope s__law_thing) s.heap.objs.size f cdv)).units + 1 < cLine := by omega
  unfold t__law_thing
  exact (qs_cons (qs_set hN (px_call c__law_draw hr hk__law_draw tk (pq_cons (px_var 0) (pq_cons px_int pq_nil)))) (qs_cons (qs_if (PW.pt (pw_any (pc_cmp u_lt (px_var 1) px_int) (pw_one (pc_cmp u_lt (px_var 2) px_int)))) (qs_one (qs_ret (px_call c__law_plain hr hk__law_plain tk (pq_cons (px_var 0) pq_nil)))) qs_nil) (qs_cons (qs_setLc hN tk (qi_rng (M.fre "range") (px_call c__law_draw hr hk__law_draw tk (pq_cons (px_var 0) (pq_cons px_int pq_nil)))) (blkOk_by (N := N__law_thing) (sc := defScope s__law_thing) (own := [("_law_k", 6)]) (by decide +kernel)) (fun _ _ _ _ _ _ => (pg_g hN)) (fun _ _ _ _ _ _ W tkb => pts_nil) (fun _ _ _ _ _ _ W tkb => (px_call c__law_thing hr hk__law_thing tkb (pq_cons (px_var 0) (pq_cons (px_op u_sub (px_var 1) px_int) pq_nil))))) (qs_cons (qs_if (pc_cmp u_lt (px_var 2) px_int) (qs_one (qs_ret (px_bt r_tup (M.fre "tuple") (pq_cons (px_var 3) pq_nil)))) qs_nil) (qs_cons (qs_if (pc_cmp u_lt (px_var 2) px_int) (qs_one (qs_ret (px_var 3))) qs_nil) (qs_cons (qs_set hN px_new) (qs_cons (qs_for passesT (qi_it (px_var 3)) (pg_g hN) (qs_one (qs_put hu1 (px_var 4) (px_call c__law_text hr hk__law_text tk (pq_cons (px_var 0) pq_nil)) (px_var 5)))) (qs_one (qs_ret (px_var 4))))))))))
/-! _law_nested -/
def N__law_nested : List Str := ["_law_purse_here", "_law_many", "_law_piece", "_law_k", "_law_way"]
theorem sc__law_nested : FnScope N__law_nested ["_law_purse_here", "_law_many"] (defScope s__law_nested) := ⟨rfl, rfl, rfl, by decide +kernel, rfl, by decide +kernel, by decide +kernel⟩
def t__law_nested (K : PySem.W.Frag) (w : World) (sp__law_plain sp__law_draw : Sp) (W : WX) : TS :=
    (xSeq (xSet 2 (xCall sp__law_plain [] W (xCons (xVar 0) xNil)))
    (xSeq (xFor (xRng (xVar 1)) (xG 3)
    (xSeq (xSet 4 (xCall sp__law_draw [] W (xCons (xVar 0) (xCons (xC (.int 4)) xNil))))
    (xIf (xCt (xOp (uEq K) (xVar 4) (xC (.int 0))))
    (xSet 2 (xDisp (xC (.str (S [107]))) (xVar 2)))
    (xIf (xCt (xOp (uEq K) (xVar 4) (xC (.int 1))))
    (xSet 2 (xTup (xCons (xVar 2) (xCons (xVar 3) xNil))))
    (xSet 2 (xOp (uIx K w) (xLst (xCons (xLst (xCons (xVar 2) xNil)) (xCons (xLst (xCons (xVar 3) (xCons (xVar 2) xNil))) xNil))) (xOp uSub (xVar 4) (xC (.int 2)))))))))
    (xRet (xVar 2))))
theorem pr__law_nested {P : Program} {w : World} {K : PySem.W.Frag} {mg : Str → Option Value} {base : Heap} {f : Addr} {cdv : Value} {A : Around} {outer : List Env} {s : Shared} {H : Hp} {E : XK} {j : Nat} {sp__law_plain sp__law_draw : Sp} (M : MF K mg) (hr : Room j (A.deeper (envOfC "_law_nested" (defScope s__law_nested) s.heap.objs.size f cdv))) {k__law_plain : Nat} (c__law_plain : Cal P w K mg base k__law_plain "_law_plain" sp__law_plain []) (hk__law_plain : k__law_plain ≤ j) {k__law_draw : Nat} (c__law_draw : Cal P w K mg base k__law_draw "_law_draw" sp__law_draw []) (hk__law_draw : k__law_draw ≤ j) :
    PSs (cxOf (L2.CX P w) P w K mg base N__law_nested "_law_nested" (defScope s__law_nested) f cdv A outer s H E) (defBody s__law_nested) (t__law_nested K w sp__law_plain sp__law_draw fun cls d _ H' => E cls d H') := by
  have hN : (cxOf (L2.CX P w) P w K mg base N__law_nested "_law_nested" (defScope s__law_nested) f cdv A outer s H E).N.Nodup := sc__law_nested.nd
  have tk := takesT (P := P) (w := w) (K := K) (mg := mg) (base := base) (N := N__law_nested) (qual := "_law_nested") (scope := defScope s__law_nested) (f := f) (cd := cdv) (A := A) (outer := outer) (s := s) (H := H) (E := E)
  have hu := hr.units
  have hu1 : (A.deeper (envOfC "_law_nested" (defScope s__law_nested) s.heap.objs.size f cdv)).units + 1 < cLine := by omega
  unfold t__law_nested
  exact (qs_cons (qs_set hN (px_call c__law_plain hr hk__law_plain tk (pq_cons (px_var 0) pq_nil))) (qs_cons (qs_for passesT (qi_rng (M.fre "range") (px_var 1)) (pg_g hN) (qs_cons (qs_set hN (px_call c__law_draw hr hk__law_draw tk (pq_cons (px_var 0) (pq_cons px_int pq_nil)))) (qs_one (qs_if (pc_cmp (u_eq hu) (px_var 4) px_int) (qs_one (qs_set hN (px_disp px_str (px_var 2)))) (qs_one (qs_if (pc_cmp (u_eq hu) (px_var 4) px_int) (qs_one (qs_set hN (px_tup (pq_cons (px_var 2) (pq_cons (px_var 3) pq_nil))))) (qs_one (qs_set hN (px_ix (u_ix hu1) (px_lst (pq_cons (px_lst (pq_cons (px_var 2) pq_nil)) (pq_cons (px_lst (pq_cons (px_var 3) (pq_cons (px_var 2) pq_nil))) pq_nil))) (px_op u_sub (px_var 4) px_int)))))))))) (qs_one (qs_ret (px_var 2)))))
/-! _law_is_bare -/
def N__law_is_bare : List Str := ["_law_shown", "_law_sign"]
theorem sc__law_is_bare : FnScope N__law_is_bare ["_law_shown"] (defScope s__law_is_bare) := ⟨rfl, rfl, rfl, by decide +kernel, rfl, by decide +kernel, by decide +kernel⟩
def t__law_is_bare (K : PySem.W.Frag) (w : World) (W : WX) : TS :=
    (xSeq (xIf (xCt (xOp (uIn K w) (xVar 0) (xLst (xCons (xC (.str (S []))) (xCons (xC (.str (S [110, 111, 110, 101]))) (xCons (xC (.str (S [121, 101, 115]))) (xCons (xC (.str (S [110, 111]))) xNil)))))))
    (xRet (xC (.bl false)))
    xEnd)
    (xRet (xOp (uEq K) (xLc W (xIt K (xVar 0)) (xG 1) (fun W => (xCt (xOp (uNotIn K w) (xVar 1) (xC (.str (S [97, 98, 99, 100, 101, 102, 103, 104, 105, 106, 107, 108, 109, 110, 111, 112, 113, 114, 115, 116, 117, 118, 119, 120, 121, 122])))))) (fun W => (xVar 1)) [1]) (xLst xNil))))
theorem pr__law_is_bare {P : Program} {w : World} {K : PySem.W.Frag} {mg : Str → Option Value} {base : Heap} {f : Addr} {cdv : Value} {A : Around} {outer : List Env} {s : Shared} {H : Hp} {E : XK} {j : Nat} (M : MF K mg) (hr : Room j (A.deeper (envOfC "_law_is_bare" (defScope s__law_is_bare) s.heap.objs.size f cdv)))  :
    PSs (cxOf (L2.CX P w) P w K mg base N__law_is_bare "_law_is_bare" (defScope s__law_is_bare) f cdv A outer s H E) (defBody s__law_is_bare) (t__law_is_bare K w fun cls d _ H' => E cls d H') := by
  have hN : (cxOf (L2.CX P w) P w K mg base N__law_is_bare "_law_is_bare" (defScope s__law_is_bare) f cdv A outer s H E).N.Nodup := sc__law_is_bare.nd
  have tk := takesT (P := P) (w := w) (K := K) (mg := mg) (base := base) (N := N__law_is_bare) (qual := "_law_is_bare") (scope := defScope s__law_is_bare) (f := f) (cd := cdv) (A := A) (outer := outer) (s := s) (H := H) (E := E)
  have hu := hr.units
  have hu1 : (A.deeper (envOfC "_law_is_bare" (defScope s__law_is_bare) s.heap.objs.size f cdv)).units + 1 < cLine := by omega
  unfold t__law_is_bare
  exact (qs_cons (qs_if (pc_cmp (u_in hu1) (px_var 0) (px_lst (pq_cons px_str (pq_cons px_str (pq_cons px_str (pq_cons px_str pq_nil)))))) (qs_one (qs_ret px_bl)) qs_nil) (qs_one (qs_ret (px_cmp (u_eq hu) (px_lc hN tk (qi_it (px_var 0)) (blkOk_by (N := N__law_is_bare) (sc := defScope s__law_is_bare) (own := [("_law_sign", 1)]) (by decide +kernel)) (fun _ _ _ _ _ _ => (pg_g hN)) (fun _ _ _ _ _ _ W tkb => (pts_one (pc_cmp (u_notin hu1) (px_var 1) px_str))) (fun _ _ _ _ _ _ W tkb => (px_var 1))) (px_lst pq_nil)))))
/-! _law_word -/
def N__law_word : List Str := ["_law_shown"]
theorem sc__law_word : FnScope N__law_word ["_law_shown"] (defScope s__law_word) := ⟨rfl, rfl, rfl, by decide +kernel, rfl, by decide +kernel, by decide +kernel⟩
def t__law_word (K : PySem.W.Frag) (w : World) (sp__law_is_bare : Sp) (W : WX) : TS :=
    (xSeq (xIf (xTr K (xCall sp__law_is_bare [] W (xCons (xVar 0) xNil)))
    (xRet (xVar 0))
    xEnd)
    (xRet (xOp (uAdd K) (xOp (uAdd K) (xC (.str (S [39]))) (xRep (S [10]) (S [94, 110]) (xRep (S [39]) (S [94, 39]) (xRep (S [94]) (S [94, 94]) (xVar 0))))) (xC (.str (S [39]))))))
theorem pr__law_word {P : Program} {w : World} {K : PySem.W.Frag} {mg : Str → Option Value} {base : Heap} {f : Addr} {cdv : Value} {A : Around} {outer : List Env} {s : Shared} {H : Hp} {E : XK} {j : Nat} {sp__law_is_bare : Sp} (M : MF K mg) (hr : Room j (A.deeper (envOfC "_law_word" (defScope s__law_word) s.heap.objs.size f cdv))) {k__law_is_bare : Nat} (c__law_is_bare : Cal P w K mg base k__law_is_bare "_law_is_bare" sp__law_is_bare []) (hk__law_is_bare : k__law_is_bare ≤ j) :
    PSs (cxOf (L2.CX P w) P w K mg base N__law_word "_law_word" (defScope s__law_word) f cdv A outer s H E) (defBody s__law_word) (t__law_word K w sp__law_is_bare fun cls d _ H' => E cls d H') := by
  have hN : (cxOf (L2.CX P w) P w K mg base N__law_word "_law_word" (defScope s__law_word) f cdv A outer s H E).N.Nodup := sc__law_word.nd
  have tk := takesT (P := P) (w := w) (K := K) (mg := mg) (base := base) (N := N__law_word) (qual := "_law_word") (scope := defScope s__law_word) (f := f) (cd := cdv) (A := A) (outer := outer) (s := s) (H := H) (E := E)
  have hu := hr.units
  have hu1 : (A.deeper (envOfC "_law_word" (defScope s__law_word) s.heap.objs.size f cdv)).units + 1 < cLine := by omega
  unfold t__law_word
  exact (qs_cons (qs_if (pt_tr (px_call c__law_is_bare hr hk__law_is_bare tk (pq_cons (px_var 0) pq_nil))) (qs_one (qs_ret (px_var 0))) qs_nil) (qs_one (qs_ret (px_op u_add (px_opK u_add (px_rep (px_rep (px_rep (pt_of (px_var 0)))))) px_str))))
/-! _law_spelt -/
def N__law_spelt : List Str := ["_law_piece", "_law_inner", "_law_key", "_law_part"]
theorem sc__law_spelt : FnScope N__law_spelt ["_law_piece"] (defScope s__law_spelt) := ⟨rfl, rfl, rfl, by decide +kernel, rfl, by decide +kernel, by decide +kernel⟩
def t__law_spelt (K : PySem.W.Frag) (w : World) (sp__law_word sp__law_spelt : Sp) (W : WX) : TS :=
    (xSeq (xIf (xCt (xOp uIs (xVar 0) (xC .non)))
    (xRet (xC (.str (S [110, 111, 110, 101]))))
    xEnd)
    (xSeq (xIf (xTr K (xFn (isiR K) (xCons (xVar 0) (xCons (xC (.ty "bool")) xNil))))
    (xRet (xOp (uIx K w) (xLst (xCons (xC (.str (S [110, 111]))) (xCons (xC (.str (S [121, 101, 115]))) xNil))) (xFn intR (xCons (xVar 0) xNil))))
    xEnd)
    (xSeq (xIf (xTr K (xFn (isiR K) (xCons (xVar 0) (xCons (xC (.ty "int")) xNil))))
    (xRet (xFn strR (xCons (xVar 0) xNil)))
    xEnd)
    (xSeq (xIf (xTr K (xFn (isiR K) (xCons (xVar 0) (xCons (xC (.ty "str")) xNil))))
    (xRet (xCall sp__law_word [] W (xCons (xVar 0) xNil)))
    xEnd)
    (xSeq (xIf (xTr K (xFn (isiR K) (xCons (xVar 0) (xCons (xC (.ty "dict")) xNil))))
    (xRet (xOp (uAdd K) (xOp (uAdd K) (xC (.str (S [123]))) (xJoin K (xC (.str (S [32]))) (xLc W (xIt K (xFn (srtR K) (xCons (xVar 0) xNil))) (xG 2) (fun W => tYes) (fun W => (xOp (uAdd K) (xOp (uAdd K) (xCall sp__law_word [] W (xCons (xVar 2) xNil)) (xC (.str (S [32])))) (xCall sp__law_spelt [] W (xCons (xOp (uIx K w) (xVar 0) (xVar 2)) xNil)))) [2]))) (xC (.str (S [125])))))
    xEnd)
    (xSeq (xSet 1 (xJoin K (xC (.str (S [32]))) (xLc W (xIt K (xVar 0)) (xG 3) (fun W => tYes) (fun W => (xCall sp__law_spelt [] W (xCons (xVar 3) xNil))) [3])))
    (xRet (xOp (uIx K w) (xLst (xCons (xOp (uAdd K) (xOp (uAdd K) (xC (.str (S [91]))) (xVar 1)) (xC (.str (S [93])))) (xCons (xOp (uAdd K) (xOp (uAdd K) (xC (.str (S [40]))) (xVar 1)) (xC (.str (S [41])))) xNil))) (xFn intR (xCons (xFn (isiR K) (xCons (xVar 0) (xCons (xC (.ty "tuple")) xNil))) xNil))))))))))
theorem pr__law_spelt {P : Program} {w : World} {K : PySem.W.Frag} {mg : Str → Option Value} {base : Heap} {f : Addr} {cdv : Value} {A : Around} {outer : List Env} {s : Shared} {H : Hp} {E : XK} {j : Nat} {sp__law_word sp__law_spelt : Sp} (M : MF K mg) (hr : Room j (A.deeper (envOfC "_law_spelt" (defScope s__law_spelt) s.heap.objs.size f cdv))) {k__law_word : Nat} (c__law_word : Cal P w K mg base k__law_word "_law_word" sp__law_word []) (hk__law_word : k__law_word ≤ j) {k__law_spelt : Nat} (c__law_spelt : Cal P w K mg base k__law_spelt "_law_spelt" sp__law_spelt []) (hk__law_spelt : k__law_spelt ≤ j) :
    PSs (cxOf (L2.CX P w) P w K mg base N__law_spelt "_law_spelt" (defScope s__law_spelt) f cdv A outer s H E) (defBody s__law_spelt) (t__law_spelt K w sp__law_word sp__law_spelt fun cls d _ H' => E cls d H') := by
  have hN : (cxOf (L2.CX P w) P w K mg base N__law_spelt "_law_spelt" (defScope s__law_spelt) f cdv A outer s H E).N.Nodup := sc__law_spelt.nd
  have tk := takesT (P := P) (w := w) (K := K) (mg := mg) (base := base) (N := N__law_spelt) (qual := "_law_spelt") (scope := defScope s__law_spelt) (f := f) (cd := cdv) (A := A) (outer := outer) (s := s) (H := H) (E := E)
  have hu := hr.units
  have hu1 : (A.deeper (envOfC "_law_spelt" (defScope s__law_spelt) s.heap.objs.size f cdv)).units + 1 < cLine := by omega
  unfold t__law_spelt
  exact (qs_cons (qs_if (pc_cmp u_is (px_var 0) px_non) (qs_one (qs_ret px_str)) qs_nil) (qs_cons (qs_if (pt_tr (px_bi cr_isi (M.fre "isinstance") (pq_cons (px_var 0) (pq_cons (px_ty (M.fre "bool")) pq_nil)))) (qs_one (qs_ret (px_ix (u_ix hu1) (px_lst (pq_cons px_str (pq_cons px_str pq_nil))) (px_bt r_int (M.fre "int") (pq_cons (px_var 0) pq_nil))))) qs_nil) (qs_cons (qs_if (pt_tr (px_bi cr_isi (M.fre "isinstance") (pq_cons (px_var 0) (pq_cons (px_ty (M.fre "int")) pq_nil)))) (qs_one (qs_ret (px_bt r_str (M.fre "str") (pq_cons (px_var 0) pq_nil)))) qs_nil) (qs_cons (qs_if (pt_tr (px_bi cr_isi (M.fre "isinstance") (pq_cons (px_var 0) (pq_cons (px_ty (M.fre "str")) pq_nil)))) (qs_one (qs_ret (px_call c__law_word hr hk__law_word tk (pq_cons (px_var 0) pq_nil)))) qs_nil) (qs_cons (qs_if (pt_tr (px_bi cr_isi (M.fre "isinstance") (pq_cons (px_var 0) (pq_cons (px_ty (M.fre "dict")) pq_nil)))) (qs_one (qs_ret (px_op u_add (px_op u_add px_str (px_join px_str (px_lc hN tk (qi_it (px_bi r_srt (M.fre "sorted") (pq_cons (px_var 0) pq_nil))) (blkOk_by (N := N__law_spelt) (sc := defScope s__law_spelt) (own := [("_law_key", 2)]) (by decide +kernel)) (fun _ _ _ _ _ _ => (pg_g hN)) (fun _ _ _ _ _ _ W tkb => pts_nil) (fun _ _ _ _ _ _ W tkb => (px_op u_add (px_op u_add (px_call c__law_word hr hk__law_word tkb (pq_cons (px_var 2) pq_nil)) px_str) (px_call c__law_spelt hr hk__law_spelt tkb (pq_cons (px_ix (u_ix hu1) (px_var 0) (px_var 2)) pq_nil))))))) px_str))) qs_nil) (qs_cons (qs_set hN (px_join px_str (px_lc hN tk (qi_it (px_var 0)) (blkOk_by (N := N__law_spelt) (sc := defScope s__law_spelt) (own := [("_law_part", 3)]) (by decide +kernel)) (fun _ _ _ _ _ _ => (pg_g hN)) (fun _ _ _ _ _ _ W tkb => pts_nil) (fun _ _ _ _ _ _ W tkb => (px_call c__law_spelt hr hk__law_spelt tkb (pq_cons (px_var 3) pq_nil)))))) (qs_one (qs_ret (px_ix (u_ix hu1) (px_lst (pq_cons (px_op u_add (px_op u_add px_str (px_var 1)) px_str) (pq_cons (px_op u_add (px_op u_add px_str (px_var 1)) px_str) pq_nil))) (px_bt r_int (M.fre "int") (pq_cons (px_bi cr_isi (M.fre "isinstance") (pq_cons (px_var 0) (pq_cons (px_ty (M.fre "tuple")) pq_nil))) pq_nil)))))))))))
/-! _law_depth -/
def N__law_depth : List Str := ["_law_piece", "_law_part"]
theorem sc__law_depth : FnScope N__law_depth ["_law_piece"] (defScope s__law_depth) := ⟨rfl, rfl, rfl, by decide +kernel, rfl, by decide +kernel, by decide +kernel⟩
def t__law_depth (K : PySem.W.Frag) (w : World) (sp__law_depth : Sp) (W : WX) : TS :=
    (xSeq (xIf (xTr K (xFn (isiR K) (xCons (xVar 0) (xCons (xC (.ty "dict")) xNil))))
    (xRet (xOp (uAdd K) (xC (.int 1)) (xFn (maxR K) (xCons (xOp (uAdd K) (xLk (xLc W (xVals (xVar 0)) (xG 1) (fun W => tYes) (fun W => (xCall sp__law_depth [] W (xCons (xVar 1) xNil))) [1])) (xLst (xCons (xC (.int 0)) xNil))) xNil))))
    xEnd)
    (xSeq (xIf (xTr K (xFn (isiR K) (xCons (xVar 0) (xCons (xTup (xCons (xC (.ty "list")) (xCons (xC (.ty "tuple")) xNil))) xNil))))
    (xRet (xOp (uAdd K) (xC (.int 1)) (xFn (maxR K) (xCons (xOp (uAdd K) (xLc W (xIt K (xVar 0)) (xG 1) (fun W => tYes) (fun W => (xCall sp__law_depth [] W (xCons (xVar 1) xNil))) [1]) (xLst (xCons (xC (.int 0)) xNil))) xNil))))
    xEnd)
    (xRet (xC (.int 0)))))
theorem pr__law_depth {P : Program} {w : World} {K : PySem.W.Frag} {mg : Str → Option Value} {base : Heap} {f : Addr} {cdv : Value} {A : Around} {outer : List Env} {s : Shared} {H : Hp} {E : XK} {j : Nat} {sp__law_depth : Sp} (M : MF K mg) (hr : Room j (A.deeper (envOfC "_law_depth" (defScope s__law_depth) s.heap.objs.size f cdv))) {k__law_depth : Nat} (c__law_depth : Cal P w K mg base k__law_depth "_law_depth" sp__law_depth []) (hk__law_depth : k__law_depth ≤ j) :
    PSs (cxOf (L2.CX P w) P w K mg base N__law_depth "_law_depth" (defScope s__law_depth) f cdv A outer s H E) (defBody s__law_depth) (t__law_depth K w sp__law_depth fun cls d _ H' => E cls d H') := by
  have hN : (cxOf (L2.CX P w) P w K mg base N__law_depth "_law_depth" (defScope s__law_depth) f cdv A outer s H E).N.Nodup := sc__law_depth.nd
  have tk := takesT (P := P) (w := w) (K := K) (mg := mg) (base := base) (N := N__law_depth) (qual := "_law_depth") (scope := defScope s__law_depth) (f := f) (cd := cdv) (A := A) (outer := outer) (s := s) (H := H) (E := E)
  have hu := hr.units
  have hu1 : (A.deeper (envOfC "_law_depth" (defScope s__law_depth) s.heap.objs.size f cdv)).units + 1 < cLine := by omega
  unfold t__law_depth
  exact (qs_cons (qs_if (pt_tr (px_bi cr_isi (M.fre "isinstance") (pq_cons (px_var 0) (pq_cons (px_ty (M.fre "dict")) pq_nil)))) (qs_one (qs_ret (px_op u_add px_int (px_bi r_max (M.fre "max") (pq_cons (px_op u_add (px_lk (px_lc hN tk (qi_vals (px_var 0)) (blkOk_by (N := N__law_depth) (sc := defScope s__law_depth) (own := [("_law_part", 1)]) (by decide +kernel)) (fun _ _ _ _ _ _ => (pg_g hN)) (fun _ _ _ _ _ _ W tkb => pts_nil) (fun _ _ _ _ _ _ W tkb => (px_call c__law_depth hr hk__law_depth tkb (pq_cons (px_var 1) pq_nil))))) (px_lst (pq_cons px_int pq_nil))) pq_nil))))) qs_nil) (qs_cons (qs_if (pt_tr (px_bi cr_isi (M.fre "isinstance") (pq_cons (px_var 0) (pq_cons (px_tup (pq_cons (px_ty (M.fre "list")) (pq_cons (px_ty (M.fre "tuple")) pq_nil))) pq_nil)))) (qs_one (qs_ret (px_op u_add px_int (px_bi r_max (M.fre "max") (pq_cons (px_op u_add (px_lc hN tk (qi_it (px_var 0)) (blkOk_by (N := N__law_depth) (sc := defScope s__law_depth) (own := [("_law_part", 1)]) (by decide +kernel)) (fun _ _ _ _ _ _ => (pg_g hN)) (fun _ _ _ _ _ _ W tkb => pts_nil) (fun _ _ _ _ _ _ W tkb => (px_call c__law_depth hr hk__law_depth tkb (pq_cons (px_var 1) pq_nil)))) (px_lst (pq_cons px_int pq_nil))) pq_nil))))) qs_nil) (qs_one (qs_ret px_int))))
/-! _law_kind -/
def N__law_kind : List Str := ["_law_one"]
theorem sc__law_kind : FnScope N__law_kind ["_law_one"] (defScope s__law_kind) := ⟨rfl, rfl, rfl, by decide +kernel, rfl, by decide +kernel, by decide +kernel⟩
def t__law_kind (K : PySem.W.Frag) (w : World) (W : WX) : TS :=
    (xSeq (xIf (xCt (xOp uIs (xVar 0) (xC .non)))
    (xRet (xC (.str (S [110, 111, 110, 101]))))
    xEnd)
    (xSeq (xIf (xTr K (xFn (isiR K) (xCons (xVar 0) (xCons (xC (.ty "bool")) xNil))))
    (xRet (xC (.str (S [116, 114, 117, 116, 104]))))
    xEnd)
    (xSeq (xIf (xTr K (xFn (isiR K) (xCons (xVar 0) (xCons (xC (.ty "int")) xNil))))
    (xRet (xC (.str (S [110, 117, 109, 98, 101, 114]))))
    xEnd)
    (xSeq (xIf (xTr K (xFn (isiR K) (xCons (xVar 0) (xCons (xC (.ty "str")) xNil))))
    (xRet (xC (.str (S [116, 101, 120, 116]))))
    xEnd)
    (xSeq (xIf (xTr K (xFn (isiR K) (xCons (xVar 0) (xCons (xC (.ty "dict")) xNil))))
    (xRet (xC (.str (S [100, 105, 99, 116]))))
    xEnd)
    (xRet (xOp (uIx K w) (xLst (xCons (xC (.str (S [108, 105, 115, 116]))) (xCons (xC (.str (S [116, 117, 112, 108, 101]))) xNil))) (xFn intR (xCons (xFn (isiR K) (xCons (xVar 0) (xCons (xC (.ty "tuple")) xNil))) xNil)))))))))
theorem pr__law_kind {P : Program} {w : World} {K : PySem.W.Frag} {mg : Str → Option Value} {base : Heap} {f : Addr} {cdv : Value} {A : Around} {outer : List Env} {s : Shared} {H : Hp} {E : XK} {j : Nat} (M : MF K mg) (hr : Room j (A.deeper (envOfC "_law_kind" (defScope s__law_kind) s.heap.objs.size f cdv)))  :
    PSs (cxOf (L2.CX P w) P w K mg base N__law_kind "_law_kind" (defScope s__law_kind) f cdv A outer s H E) (defBody s__law_kind) (t__law_kind K w fun cls d _ H' => E cls d H') := by
  have hN : (cxOf (L2.CX P w) P w K mg base N__law_kind "_law_kind" (defScope s__law_kind) f cdv A outer s H E).N.Nodup := sc__law_kind.nd
  have tk := takesT (P := P) (w := w) (K := K) (mg := mg) (base := base) (N := N__law_kind) (qual := "_law_kind") (scope := defScope s__law_kind) (f := f) (cd := cdv) (A := A) (outer := outer) (s := s) (H := H) (E := E)
  have hu := hr.units
  have hu1 : (A.deeper (envOfC "_law_kind" (defScope s__law_kind) s.heap.objs.size f cdv)).units + 1 < cLine := by omega
  unfold t__law_kind
  exact (qs_cons (qs_if (pc_cmp u_is (px_var 0) px_non) (qs_one (qs_ret px_str)) qs_nil) (qs_cons (qs_if (pt_tr (px_bi cr_isi (M.fre "isinstance") (pq_cons (px_var 0) (pq_cons (px_ty (M.fre "bool")) pq_nil)))) (qs_one (qs_ret px_str)) qs_nil) (qs_cons (qs_if (pt_tr (px_bi cr_isi (M.fre "isinstance") (pq_cons (px_var 0) (pq_cons (px_ty (M.fre "int")) pq_nil)))) (qs_one (qs_ret px_str)) qs_nil) (qs_cons (qs_if (pt_tr (px_bi cr_isi (M.fre "isinstance") (pq_cons (px_var 0) (pq_cons (px_ty (M.fre "str")) pq_nil)))) (qs_one (qs_ret px_str)) qs_nil) (qs_cons (qs_if (pt_tr (px_bi cr_isi (M.fre "isinstance") (pq_cons (px_var 0) (pq_cons (px_ty (M.fre "dict")) pq_nil)))) (qs_one (qs_ret px_str)) qs_nil) (qs_one (qs_ret (px_ix (u_ix hu1) (px_lst (pq_cons px_str (pq_cons px_str pq_nil))) (px_bt r_int (M.fre "int") (pq_cons (px_bi cr_isi (M.fre "isinstance") (pq_cons (px_var 0) (pq_cons (px_ty (M.fre "tuple")) pq_nil))) pq_nil))))))))))
/-! _law_like -/
def N__law_like : List Str := ["_law_one", "_law_other", "_law_word_here", "_law_key", "_law_part", "_law_more"]
theorem sc__law_like : FnScope N__law_like ["_law_one", "_law_other"] (defScope s__law_like) := ⟨rfl, rfl, rfl, by decide +kernel, rfl, by decide +kernel, by decide +kernel⟩
def t__law_like (K : PySem.W.Frag) (w : World) (sp__law_kind sp__law_like : Sp) (W : WX) : TS :=
    (xSeq (xSet 2 (xCall sp__law_kind [] W (xCons (xVar 0) xNil)))
    (xSeq (xIf (xCt (xOp (uNe K) (xVar 2) (xCall sp__law_kind [] W (xCons (xVar 1) xNil))))
    (xRet (xC (.bl false)))
    xEnd)
    (xSeq (xIf (xCt (xOp (uEq K) (xVar 2) (xC (.str (S [100, 105, 99, 116])))))
    (xRet (xAndV (xOp (uEq K) (xFn (srtR K) (xCons (xVar 0) xNil)) (xFn (srtR K) (xCons (xVar 1) xNil))) (xFn (allR K) (xCons (xLk (xLc W (xIt K (xVar 0)) (xG 3) (fun W => tYes) (fun W => (xCall sp__law_like [] W (xCons (xOp (uIx K w) (xVar 0) (xVar 3)) (xCons (xOp (uIx K w) (xVar 1) (xVar 3)) xNil)))) [3])) xNil))))
    xEnd)
    (xSeq (xIf (xCt (xOp (uIn K w) (xVar 2) (xLst (xCons (xC (.str (S [108, 105, 115, 116]))) (xCons (xC (.str (S [116, 117, 112, 108, 101]))) xNil)))))
    (xRet (xAndV (xOp (uEq K) (xFn (lenR K) (xCons (xVar 0) xNil)) (xFn (lenR K) (xCons (xVar 1) xNil))) (xFn (allR K) (xCons (xLc W (xZip K (xVar 0) (xVar 1)) (xG2 K 4 5) (fun W => tYes) (fun W => (xCall sp__law_like [] W (xCons (xVar 4) (xCons (xVar 5) xNil)))) [4, 5]) xNil))))
    xEnd)
    (xRet (xOp (uEq K) (xVar 0) (xVar 1)))))))
theorem pr__law_like {P : Program} {w : World} {K : PySem.W.Frag} {mg : Str → Option Value} {base : Heap} {f : Addr} {cdv : Value} {A : Around} {outer : List Env} {s : Shared} {H : Hp} {E : XK} {j : Nat} {sp__law_kind sp__law_like : Sp} (M : MF K mg) (hr : Room j (A.deeper (envOfC "_law_like" (defScope s__law_like) s.heap.objs.size f cdv))) {k__law_kind : Nat} (c__law_kind : Cal P w K mg base k__law_kind "_law_kind" sp__law_kind []) (hk__law_kind : k__law_kind ≤ j) {k__law_like : Nat} (c__law_like : Cal P w K mg base k__law_like "_law_like" sp__law_like []) (hk__law_like : k__law_like ≤ j) :
    PSs (cxOf (L2.CX P w) P w K mg base N__law_like "_law_like" (defScope s__law_like) f cdv A outer s H E) (defBody s__law_like) (t__law_like K w sp__law_kind sp__law_like fun cls d _ H' => E cls d H') := by
  have hN : (cxOf (L2.CX P w) P w K mg base N__law_like "_law_like" (defScope s__law_like) f cdv A outer s H E).N.Nodup := sc__law_like.nd
  have tk := takesT (P := P) (w := w) (K := K) (mg := mg) (base := base) (N := N__law_like) (qual := "_law_like") (scope := defScope s__law_like) (f := f) (cd := cdv) (A := A) (outer := outer) (s := s) (H := H) (E := E)
  have hu := hr.units
  have hu1 : (A.deeper (envOfC "_law_like" (defScope s__law_like) s.heap.objs.size f cdv)).units + 1 < cLine := by omega
  unfold t__law_like
  exact (qs_cons (qs_set hN (px_call c__law_kind hr hk__law_kind tk (pq_cons (px_var 0) pq_nil))) (qs_cons (qs_if (pc_cmp (u_ne hu) (px_var 2) (px_call c__law_kind hr hk__law_kind tk (pq_cons (px_var 1) pq_nil))) (qs_one (qs_ret px_bl)) qs_nil) (qs_cons (qs_if (pc_cmp (u_eq hu) (px_var 2) px_str) (qs_one (qs_ret (px_andV (px_cmp (u_eq hu) (px_bi r_srt (M.fre "sorted") (pq_cons (px_var 0) pq_nil)) (px_bi r_srt (M.fre "sorted") (pq_cons (px_var 1) pq_nil))) (px_one (px_bi r_all (M.fre "all") (pq_cons (px_lk (px_lc hN tk (qi_it (px_var 0)) (blkOk_by (N := N__law_like) (sc := defScope s__law_like) (own := [("_law_key", 3)]) (by decide +kernel)) (fun _ _ _ _ _ _ => (pg_g hN)) (fun _ _ _ _ _ _ W tkb => pts_nil) (fun _ _ _ _ _ _ W tkb => (px_call c__law_like hr hk__law_like tkb (pq_cons (px_ix (u_ix hu1) (px_var 0) (px_var 3)) (pq_cons (px_ix (u_ix hu1) (px_var 1) (px_var 3)) pq_nil)))))) pq_nil)))))) qs_nil) (qs_cons (qs_if (pc_cmp (u_in hu1) (px_var 2) (px_lst (pq_cons px_str (pq_cons px_str pq_nil)))) (qs_one (qs_ret (px_andV (px_cmp (u_eq hu) (px_bi r_len (M.fre "len") (pq_cons (px_var 0) pq_nil)) (px_bi r_len (M.fre "len") (pq_cons (px_var 1) pq_nil))) (px_one (px_bi r_all (M.fre "all") (pq_cons (px_lc hN tk (qi_zip (M.fre "zip") (px_var 0) (px_var 1)) (blkOk_by (N := N__law_like) (sc := defScope s__law_like) (own := [("_law_part", 4), ("_law_more", 5)]) (by decide +kernel)) (fun _ _ _ _ _ _ => (pg_g2 hN)) (fun _ _ _ _ _ _ W tkb => pts_nil) (fun _ _ _ _ _ _ W tkb => (px_call c__law_like hr hk__law_like tkb (pq_cons (px_var 4) (pq_cons (px_var 5) pq_nil))))) pq_nil)))))) qs_nil) (qs_one (qs_ret (px_cmp (u_eq hu) (px_var 0) (px_var 1))))))))
/-! _law_plain_end -/
def N__law_plain_end : List Str := ["_law_line", "_law_at", "_law_carets"]
theorem sc__law_plain_end : FnScope N__law_plain_end ["_law_line", "_law_at"] (defScope s__law_plain_end) := ⟨rfl, rfl, rfl, by decide +kernel, rfl, by decide +kernel, by decide +kernel⟩
def t__law_plain_end (K : PySem.W.Frag) (w : World) (W : WX) : TS :=
    (xSeq (xSet 2 (xC (.int 0)))
    (xSeq (xWh (xAnd (xCt (xOp uGt (xVar 1) (xVar 2))) (xCt (xOp (uEq K) (xOp (uIx K w) (xVar 0) (xOp uSub (xOp uSub (xVar 1) (xC (.int 1))) (xVar 2))) (xC (.str (S [94]))))))
    (xSet 2 (xOp (uAdd K) (xVar 2) (xC (.int 1)))))
    (xRet (xOp (uEq K) (xOp uMod (xVar 2) (xC (.int 2))) (xC (.int 0))))))
theorem pr__law_plain_end {P : Program} {w : World} {K : PySem.W.Frag} {mg : Str → Option Value} {base : Heap} {f : Addr} {cdv : Value} {A : Around} {outer : List Env} {s : Shared} {H : Hp} {E : XK} {j : Nat} (M : MF K mg) (hr : Room j (A.deeper (envOfC "_law_plain_end" (defScope s__law_plain_end) s.heap.objs.size f cdv)))  :
    PSs (cxOf (L2.CX P w) P w K mg base N__law_plain_end "_law_plain_end" (defScope s__law_plain_end) f cdv A outer s H E) (defBody s__law_plain_end) (t__law_plain_end K w fun cls d _ H' => E cls d H') := by
  have hN : (cxOf (L2.CX P w) P w K mg base N__law_plain_end "_law_plain_end" (defScope s__law_plain_end) f cdv A outer s H E).N.Nodup := sc__law_plain_end.nd
  have tk := takesT (P := P) (w := w) (K := K) (mg := mg) (base := base) (N := N__law_plain_end) (qual := "_law_plain_end") (scope := defScope s__law_plain_end) (f := f) (cd := cdv) (A := A) (outer := outer) (s := s) (H := H) (E := E)
  have hu := hr.units
  have hu1 : (A.deeper (envOfC "_law_plain_end" (defScope s__law_plain_end) s.heap.objs.size f cdv)).units + 1 < cLine := by omega
  unfold t__law_plain_end
  exact (qs_cons (qs_set hN px_int) (qs_cons (qs_wh passesT (PW.pt (pw_both (pc_cmp u_gt (px_var 1) (px_var 2)) (pw_one (pc_cmp (u_eq hu) (px_ix (u_ix hu1) (px_var 0) (px_op u_sub (px_op u_sub (px_var 1) px_int) (px_var 2))) px_str)))) (qs_one (qs_set hN (px_op u_add (px_var 2) px_int)))) (qs_one (qs_ret (px_cmp (u_eq hu) (px_op u_mod (px_var 2) px_int) px_int)))))
/-! law -/
def N_law : List Str := ["_law_script", "_law_purse_here", "_law_k", "_law_piece", "_law_kept", "_law_many", "_law_again", "_law_told", "_law_made"]
theorem sc_law : FnScope N_law ["_law_script"] (defScope s_law) := ⟨rfl, rfl, rfl, by decide +kernel, rfl, by decide +kernel, by decide +kernel⟩
def t_law (K : PySem.W.Frag) (w : World) (sp__law_purse sp__law_thing sp__law_nested sp__law_draw sp__law_spelt sp__law_depth sp_paper_text sp_read_paper sp__law_like sp__law_too_deep : Sp) (W : WX) : TS :=
    (xSeq (xSet 1 (xCall sp__law_purse [] W (xCons (xVar 0) xNil)))
    (xSeq (xIf (xCt (xOp (uNe K) (xC (.int 40)) (xC (.int 40))))
    (xRet (xC (.bl false)))
    xEnd)
    (xSeq (xFor (xRng (xC (.int 8))) (xG 2)
    (xSeq (xSet 3 (xCall sp__law_thing [] W (xCons (xVar 1) (xCons (xC (.int 4)) xNil))))
    (xSeq (xIf (xCt (xOp (uEq K) (xOp uMod (xVar 2) (xC (.int 4))) (xC (.int 3))))
    (xSet 3 (xCall sp__law_nested [] W (xCons (xVar 1) (xCons (xOp (uIx K w) (xLst (xCons (xC (.int 1)) (xCons (xC (.int 2)) (xCons (xC (.int 7)) (xCons (xC (.int 39)) (xCons (xC (.int 40)) xNil)))))) (xCall sp__law_draw [] W (xCons (xVar 1) (xCons (xC (.int 5)) xNil)))) xNil))))
    xEnd)
    (xSeq (xSet 4 (xCall sp__law_spelt [] W (xCons (xVar 3) xNil)))
    (xSeq (xSet 5 (xCall sp__law_depth [] W (xCons (xVar 3) xNil)))
    (xSeq (xFor (xRng (xC (.int 2))) (xG 6)
    (xSeq (xSet 7 (xOp (uIx K w) (xLst (xCons (xCall sp_paper_text [.int 40] W (xCons (xVar 3) xNil)) (xCons (xCallN 0 2 sp_paper_text (fun _ zs => [zs.getD 1 .non, zs.getD 0 .non]) W xNil (xCons (xOp (uAdd K) (xVar 5) (xVar 2)) (xCons (xVar 3) xNil))) xNil))) (xVar 6)))
    (xSeq (xSet 8 (xOp (uIx K w) (xLst (xCons (xCall sp_read_paper [.int 40] W (xCons (xVar 4) xNil)) (xCons (xCallN 0 2 sp_read_paper (fun _ zs => [zs.getD 1 .non, zs.getD 0 .non]) W xNil (xCons (xVar 5) (xCons (xVar 4) xNil))) xNil))) (xVar 6)))
    (xSeq (xIf (xOr (xNot (xTr K (xFn (isiR K) (xCons (xVar 7) (xCons (xC (.ty "str")) xNil))))) (xOr (xCt (xOp (uNe K) (xVar 7) (xVar 4))) (xOr (xNot (xTr K (xCall sp__law_like [] W (xCons (xVar 8) (xCons (xVar 3) xNil))))) (xCt (xOp (uNe K) (xCall sp__law_spelt [] W (xCons (xVar 3) xNil)) (xVar 4))))))
    (xRet (xC (.bl false)))
    xEnd)
    (xIf (xTr K (xFn (isiR K) (xCons (xVar 8) (xCons (xC (.ty "list")) xNil))))
    (xDrop (xApp K (xVar 8) (xC (.int 7))))
    xEnd)))))
    (xIf (xAnd (xCt (xOp uGt (xVar 5) (xC (.int 0)))) (xNot (xTr K (xCall sp__law_too_deep [] W (xCons (xVar 3) (xCons (xVar 4) (xCons (xCall sp__law_draw [] W (xCons (xVar 1) (xCons (xVar 5) xNil))) xNil)))))))
    (xRet (xC (.bl false)))
    xEnd)))))))
    (xRet (xC (.bl true))))))
theorem pr_law {P : Program} {w : World} {K : PySem.W.Frag} {mg : Str → Option Value} {base : Heap} {f : Addr} {cdv : Value} {A : Around} {outer : List Env} {s : Shared} {H : Hp} {E : XK} {j : Nat} {sp__law_purse sp__law_thing sp__law_nested sp__law_draw sp__law_spelt sp__law_depth sp_paper_text sp_read_paper sp__law_like sp__law_too_deep : Sp} (M : MF K mg) (hr : Room j (A.deeper (envOfC "law" (defScope s_law) s.heap.objs.size f cdv))) {k__law_purse : Nat} (c__law_purse : Cal P w K mg base k__law_purse "_law_purse" sp__law_purse []) (hk__law_purse : k__law_purse ≤ j) {k__law_thing : Nat} (c__law_thing : Cal P w K mg base k__law_thing "_law_thing" sp__law_thing []) (hk__law_thing : k__law_thing ≤ j) {k__law_nested : Nat} (c__law_nested : Cal P w K mg base k__law_nested "_law_nested" sp__law_nested []) (hk__law_nested : k__law_nested ≤ j) {k__law_draw : Nat} (c__law_draw : Cal P w K mg base k__law_draw "_law_draw" sp__law_draw []) (hk__law_draw : k__law_draw ≤ j) {k__law_spelt : Nat} (c__law_spelt : Cal P w K mg base k__law_spelt "_law_spelt" sp__law_spelt []) (hk__law_spelt : k__law_spelt ≤ j) {k__law_depth : Nat} (c__law_depth : Cal P w K mg base k__law_depth "_law_depth" sp__law_depth []) (hk__law_depth : k__law_depth ≤ j) {k_paper_text : Nat} (c_paper_text : Cal P w K mg base k_paper_text "paper_text" sp_paper_text [.int 40]) (hk_paper_text : k_paper_text ≤ j) {kk0_paper_text : Nat} (ck0_paper_text : CalN P w K mg base kk0_paper_text "paper_text" sp_paper_text 0 ["deep", "thing"] (fun _ zs => [zs.getD 1 .non, zs.getD 0 .non])) (hk0_paper_text : kk0_paper_text ≤ j) {k_read_paper : Nat} (c_read_paper : Cal P w K mg base k_read_paper "read_paper" sp_read_paper [.int 40]) (hk_read_paper : k_read_paper ≤ j) {kk0_read_paper : Nat} (ck0_read_paper : CalN P w K mg base kk0_read_paper "read_paper" sp_read_paper 0 ["deep", "text"] (fun _ zs => [zs.getD 1 .non, zs.getD 0 .non])) (hk0_read_paper : kk0_read_paper ≤ j) {k__law_like : Nat} (c__law_like : Cal P w K mg base k__law_like "_law_like" sp__law_like []) (hk__law_like : k__law_like ≤ j) {k__law_too_deep : Nat} (c__law_too_deep : Cal P w K mg base k__law_too_deep "_law_too_deep" sp__law_too_deep []) (hk__law_too_deep : k__law_too_deep ≤ j) :
    PSs (cxOf (L2.CX P w) P w K mg base N_law "law" (defScope s_law) f cdv A outer s H E) (defBody s_law) (t_law K w sp__law_purse sp__law_thing sp__law_nested sp__law_draw sp__law_spelt sp__law_depth sp_paper_text sp_read_paper sp__law_like sp__law_too_deep fun cls d _ H' => E cls d H') := by
  have hN : (cxOf (L2.CX P w) P w K mg base N_law "law" (defScope s_law) f cdv A outer s H E).N.Nodup := sc_law.nd
  have tk := takesT (P := P) (w := w) (K := K) (mg := mg) (base := base) (N := N_law) (qual := "law") (scope := defScope s_law) (f := f) (cd := cdv) (A := A) (outer := outer) (s := s) (H := H) (E := E)
  have hu := hr.units
  have hu1 : (A.deeper (envOfC "law" (defScope s_law) s.heap.objs.size f cdv)).units + 1 < cLine := by omega
  unfold t_law
  exact (qs_cons (qs_set hN (px_call c__law_purse hr hk__law_purse tk (pq_cons (px_var 0) pq_nil))) (qs_cons (qs_if (pc_cmp (u_ne hu) (px_glob (M.int "MOST_DEEP" 40)) px_int) (qs_one (qs_ret px_bl)) qs_nil) (qs_cons (qs_for passesT (qi_rng (M.fre "range") px_int) (pg_g hN) (qs_cons (qs_set hN (px_call c__law_thing hr hk__law_thing tk (pq_cons (px_var 1) (pq_cons px_int pq_nil)))) (qs_cons (qs_if (pc_cmp (u_eq hu) (px_op u_mod (px_var 2) px_int) px_int) (qs_one (qs_set hN (px_call c__law_nested hr hk__law_nested tk (pq_cons (px_var 1) (pq_cons (px_ix (u_ix hu1) (px_lst (pq_cons px_int (pq_cons px_int (pq_cons px_int (pq_cons px_int (pq_cons px_int pq_nil)))))) (px_call c__law_draw hr hk__law_draw tk (pq_cons (px_var 1) (pq_cons px_int pq_nil)))) pq_nil))))) qs_nil) (qs_cons (qs_set hN (px_call c__law_spelt hr hk__law_spelt tk (pq_cons (px_var 3) pq_nil))) (qs_cons (qs_set hN (px_call c__law_depth hr hk__law_depth tk (pq_cons (px_var 3) pq_nil))) (qs_cons (qs_for passesT (qi_rng (M.fre "range") px_int) (pg_g hN) (qs_cons (qs_set hN (px_ix (u_ix hu1) (px_lst (pq_cons (px_call c_paper_text hr hk_paper_text tk (pq_cons (px_var 3) pq_nil)) (pq_cons (px_callN0 ck0_paper_text hr hk0_paper_text tk (qk_cons (px_op u_add (px_var 5) (px_var 2)) (qk_cons (px_var 3) qk_nil))) pq_nil))) (px_var 6))) (qs_cons (qs_set hN (px_ix (u_ix hu1) (px_lst (pq_cons (px_call c_read_paper hr hk_read_paper tk (pq_cons (px_var 4) pq_nil)) (pq_cons (px_callN0 ck0_read_paper hr hk0_read_paper tk (qk_cons (px_var 5) (qk_cons (px_var 4) qk_nil))) pq_nil))) (px_var 6))) (qs_cons (qs_if (PW.pt (pw_any (pt_no (pt_tr (px_bi cr_isi (M.fre "isinstance") (pq_cons (px_var 7) (pq_cons (px_ty (M.fre "str")) pq_nil))))) (pw_any (pc_cmp (u_ne hu) (px_var 7) (px_var 4)) (pw_any (pt_no (pt_tr (px_call c__law_like hr hk__law_like tk (pq_cons (px_var 8) (pq_cons (px_var 3) pq_nil))))) (pw_one (pc_cmp (u_ne hu) (px_call c__law_spelt hr hk__law_spelt tk (pq_cons (px_var 3) pq_nil)) (px_var 4))))))) (qs_one (qs_ret px_bl)) qs_nil) (qs_one (qs_if (pt_tr (px_bi cr_isi (M.fre "isinstance") (pq_cons (px_var 8) (pq_cons (px_ty (M.fre "list")) pq_nil)))) (qs_one (qs_drop (px_app (px_var 8) px_int))) qs_nil)))))) (qs_one (qs_if (PW.pt (pw_both (pc_cmp u_gt (px_var 5) px_int) (pw_one (pt_no (pt_tr (px_call c__law_too_deep hr hk__law_too_deep tk (pq_cons (px_var 3) (pq_cons (px_var 4) (pq_cons (px_call c__law_draw hr hk__law_draw tk (pq_cons (px_var 1) (pq_cons (px_var 5) pq_nil))) pq_nil))))))))) (qs_one (qs_ret px_bl)) qs_nil)))))))) (qs_one (qs_ret px_bl)))))
end K96
end

section
set_option Elab.async false
set_option linter.all false
set_option maxRecDepth 100000
set_option maxHeartbeats 4000000
/-! CLd: nested data: as a plain type, and how it lies in the heap. -/
namespace CL
open PySem PySem.Spec PyProof.Rows L2

inductive Kd where | tup | lst | dct
  deriving DecidableEq
/-- con k ks ds: a tuple or list of ds (ks empty); a dict of ds by the keys ks, which rise -/
inductive D where
  | non | bl (b : Bool) | int (i : Int) | str (x : List Nat) | con (k : Kd) (ks : List (List Nat)) (ds : List D)
mutual
def dep : D → Nat
  | .con _ _ ds => 1 + deps ds
  | _ => 0
def deps : List D → Nat
  | [] => 0
  | d :: ds => max (dep d) (deps ds)
end
def keyS (l : List Nat) : Key := Sum.inr (S l)
mutual
inductive Rep (H : Hp) : V → D → Prop
  | non : Rep H .non .non
  | bl (b : Bool) : Rep H (.bl b) (.bl b)
  | int (i : Int) : Rep H (.int i) (.int i)
  | str (x : List Nat) : Rep H (.str (S x)) (.str x)
  | tup {a vs ds} : H a = some (.tup vs) → Reps H vs ds → Rep H (.ref a) (.con .tup [] ds)
  | lst {a vs ds} : H a = some (.lst vs) → Reps H vs ds → Rep H (.ref a) (.con .lst [] ds)
  | dct {a kvs ks ds} : Rd H a (.dK kvs) → (kvs.map (·.1)).Perm (ks.map keyS) → RepK H kvs ks ds → Rep H (.ref a) (.con .dct ks ds)
inductive Reps (H : Hp) : List V → List D → Prop
  | nil : Reps H [] []
  | cons {v d vs ds} : Rep H v d → Reps H vs ds → Reps H (v :: vs) (d :: ds)
inductive RepK (H : Hp) : List (Key × V) → List (List Nat) → List D → Prop
  | nil {kvs} : RepK H kvs [] []
  | cons {kvs k v d ks ds} : valV kvs (keyS k) = some v → Rep H v d → RepK H kvs ks ds → RepK H kvs (k :: ks) (d :: ds)
end
/-- what data asks to stay -/
structure Keep (H H' : Hp) : Prop where
  l : ∀ a vs, H a = some (.lst vs) → H' a = some (.lst vs)
  t : ∀ a vs, H a = some (.tup vs) → H' a = some (.tup vs)
  d : ∀ a kvs, Rd H a (.dK kvs) → Rd H' a (.dK kvs)
/-- all that is tracked stays as it is -/
def Ext (H H' : Hp) : Prop := ∀ a o, H a = some o → H' a = some o
theorem Ext.refl {H : Hp} : Ext H H := fun _ _ e => e
theorem Ext.trans {H H1 H2 : Hp} (a : Ext H H1) (b : Ext H1 H2) : Ext H H2 := fun c o e => b c o (a c o e)
theorem Ext.new {H : Hp} {p : Addr} {o : HO} (h : H p = none) : Ext H (upd H p o) := fun a u e => by rw [upd_ne (ne_of_none e h)]; exact e
theorem Ext.on {H H' : Hp} {p : Addr} {o : HO} (x : Ext H H') (h : H' p = none) : Ext H (upd H' p o) := x.trans (.new h)
theorem Ext.keep {H H' : Hp} (x : Ext H H') : Keep H H' := ⟨fun a vs e => x a _ e, fun a vs e => x a _ e, fun a kvs e => by
  rcases e with e | ⟨o, e⟩
  · exact .inl (x a _ e)
  · exact .inr ⟨o, x a _ e⟩⟩
theorem Ext.none {H H' : Hp} {a : Addr} (x : Ext H H') (h : H' a = none) : H a = none := by
  cases e : H a with
  | none => rfl
  | some o => rw [x a o e] at h; cases h
theorem Keep.refl {H : Hp} : Keep H H := Ext.refl.keep
theorem Keep.trans {H H1 H2 : Hp} (a : Keep H H1) (b : Keep H1 H2) : Keep H H2 := ⟨fun c o e => b.l c o (a.l c o e), fun c o e => b.t c o (a.t c o e), fun c o e => b.d c o (a.d c o e)⟩
/-- a dict held while it is walked -/
theorem Keep.lock {H : Hp} {p : Addr} {od : Obj} {kvs : List (Key × V)} (h : H p = some (.dK kvs)) : Keep H (upd H p (.frz od (.dK kvs))) := ⟨fun a vs e => by
  rw [upd_ne (fun z => by rw [z, h] at e; cases e)]; exact e, fun a vs e => by
  rw [upd_ne (fun z => by rw [z, h] at e; cases e)]; exact e, fun a ks e => by
  by_cases z : a = p
  · subst z
    rcases e with e | ⟨o, e⟩
    · rw [h] at e; cases e; exact .inr ⟨od, upd_same⟩
    · rw [h] at e; cases e
  · rcases e with e | ⟨o, e⟩
    · exact .inl (by rw [upd_ne z]; exact e)
    · exact .inr ⟨o, by rw [upd_ne z]; exact e⟩⟩
theorem Ext.unlock {H H' : Hp} {p : Addr} {od : Obj} {u : HO} (h : H p = some u) (x : Ext (upd H p (.frz od u)) H') : Ext H (upd H' p u) := fun a o e => by
  by_cases z : a = p
  · subst z; rw [h] at e; cases e; exact upd_same
  · rw [upd_ne z]; exact x a o (by rw [upd_ne z]; exact e)
mutual
theorem Rep.mono {H H' : Hp} (h : Keep H H') : ∀ {v : V} {d : D}, Rep H v d → Rep H' v d
  | _, _, .non => .non
  | _, _, .bl b => .bl b
  | _, _, .int i => .int i
  | _, _, .str x => .str x
  | _, _, .tup r q => .tup (h.t _ _ r) (Reps.mono h q)
  | _, _, .lst r q => .lst (h.l _ _ r) (Reps.mono h q)
  | _, _, .dct r p q => .dct (h.d _ _ r) p (RepK.mono h q)
theorem Reps.mono {H H' : Hp} (h : Keep H H') : ∀ {v : List V} {d : List D}, Reps H v d → Reps H' v d
  | _, _, .nil => .nil
  | _, _, .cons r q => .cons (Rep.mono h r) (Reps.mono h q)
theorem RepK.mono {H H' : Hp} (h : Keep H H') : ∀ {kvs : List (Key × V)} {ks : List (List Nat)} {d : List D}, RepK H kvs ks d → RepK H' kvs ks d
  | _, _, _, .nil => .nil
  | _, _, _, .cons e r q => .cons e (Rep.mono h r) (RepK.mono h q)
end
theorem Rep.ext {H H' : Hp} {v : V} {d : D} (r : Rep H v d) (x : Ext H H') : Rep H' v d := r.mono x.keep
theorem Reps.ext {H H' : Hp} {v : List V} {d : List D} (r : Reps H v d) (x : Ext H H') : Reps H' v d := r.mono x.keep
theorem RepK.ext {H H' : Hp} {kvs : List (Key × V)} {ks : List (List Nat)} {d : List D} (r : RepK H kvs ks d) (x : Ext H H') : RepK H' kvs ks d := r.mono x.keep
theorem Reps.len {H : Hp} : ∀ {vs : List V} {ds : List D}, Reps H vs ds → vs.length = ds.length
  | _, _, .nil => rfl
  | _, _, .cons _ q => congrArg Nat.succ (Reps.len q)
theorem Reps.at {H : Hp} : ∀ {vs : List V} {ds : List D} {i : Nat} {v : V}, Reps H vs ds → vs[i]? = some v → ∃ d, ds[i]? = some d ∧ Rep H v d
  | _, _, _, _, .nil, e => by simp at e
  | _, _, 0, _, .cons r _, e => by simp at e; subst e; exact ⟨_, rfl, r⟩
  | _, _, i + 1, v, .cons _ q, e => by
    obtain ⟨d, h1, h2⟩ := Reps.at (i := i) (v := v) q (by simpa using e)
    exact ⟨d, by simpa using h1, h2⟩
theorem Reps.snoc {H : Hp} : ∀ {vs : List V} {ds : List D} {v : V} {d : D}, Reps H vs ds → Rep H v d → Reps H (vs ++ [v]) (ds ++ [d])
  | _, _, _, _, .nil, r => .cons r .nil
  | _, _, _, _, .cons r q, s => .cons r (Reps.snoc q s)
theorem RepK.at {H : Hp} {kvs : List (Key × V)} : ∀ {ks : List (List Nat)} {ds : List D} {i : Nat} {k : List Nat}, RepK H kvs ks ds → ks[i]? = some k → ∃ v d, ds[i]? = some d ∧ valV kvs (keyS k) = some v ∧ Rep H v d
  | _, _, _, _, .nil, e => by simp at e
  | _, _, 0, _, .cons (v := v) h r _, e => by simp at e; subst e; exact ⟨_, _, rfl, h, r⟩
  | _, _, i + 1, v, .cons _ _ q, e => by
    obtain ⟨v, d, h1, h2⟩ := RepK.at (i := i) q (by simpa using e)
    exact ⟨v, d, by simpa using h1, h2⟩
theorem RepK.len {H : Hp} {kvs : List (Key × V)} : ∀ {ks : List (List Nat)} {ds : List D}, RepK H kvs ks ds → ks.length = ds.length
  | _, _, .nil => rfl
  | _, _, .cons _ _ q => congrArg Nat.succ (RepK.len q)

/-! ### its kinds -/
def tyN : D → String
  | .non => "NoneType" | .bl _ => "bool" | .int _ => "int" | .str _ => "str" | .con .tup _ _ => "tuple" | .con .lst _ _ => "list" | .con .dct _ _ => "dict"
theorem Rep.ty {K : PySem.W.Frag} {H : Hp} {v : V} {d : D} (r : Rep H v d) : TyX K H v (.type (tyN d)) := by
  cases r with
  | non => exact .base .non
  | bl b => exact .base (.bl b)
  | int i => exact .base (.int i)
  | str x => exact .base (.str _)
  | tup h _ => exact .base (.tup h)
  | lst h _ => exact .base (.lst h)
  | dct h _ _ =>
    rcases h with h | ⟨o, h⟩
    · exact .base (.dK h)
    · exact .fDict h

/-! ### rising keys -/
def Rises (ks : List (List Nat)) : Prop := ks.Pairwise (· < ·)
theorem rising_cons : ∀ (p : Str) (l : List Str), risingS p l = true → (p :: l).Pairwise fun a b => ¬ b.cps.toList < a.cps.toList
  | p, [], _ => by simp
  | p, x :: r, h => by
    have h' : (!ltCps x.cps.toList p.cps.toList && risingS x r) = true := h
    obtain ⟨h1, h2⟩ := and2 h'
    have ih := rising_cons x r h2
    rw [PyProof.Rows.ltCps_eq] at h1
    have n1 : ¬ x.cps.toList < p.cps.toList := by simpa using h1
    refine List.pairwise_cons.mpr ⟨fun b hb => ?_, ih⟩
    rcases List.mem_cons.mp hb with rfl | hb
    · exact n1
    · have n2 := (List.pairwise_cons.mp ih).1 b hb
      exact fun z => by
        have a1 := List.not_lt.mp n1
        have a2 := List.not_lt.mp n2
        exact (List.not_lt.mpr (List.le_trans a1 a2)) z
theorem sorted_pw : ∀ (l : List Str), sortedS l = true → l.Pairwise fun a b => ¬ b.cps.toList < a.cps.toList
  | [], _ => .nil
  | x :: r, h => rising_cons x r h
/-- what sorted gives of keys that rise is these -/
theorem sorted_is {ks : List (List Nat)} {ys : List Str} (hr : Rises ks) (p : ys.Perm (ks.map S)) (h : sortedS ys = true) : ys = ks.map S := by
  have p1 := sorted_pw ys h
  have p2 : (ks.map S).Pairwise fun a b => ¬ b.cps.toList < a.cps.toList := by
    refine List.pairwise_map.mpr (hr.imp fun {a b} q => ?_)
    show ¬ b.toArray.toList < a.toArray.toList
    simp only [List.toList_toArray]
    exact fun z => List.lt_irrefl a (List.lt_trans q z)
  refine p.eq_of_pairwise (fun a b _ _ n1 n2 => ?_) p1 p2
  have e : a.cps.toList = b.cps.toList := List.le_antisymm (List.not_lt.mp n1) (List.not_lt.mp n2)
  exact TL.ext_tl e
end CL
end

section
set_option Elab.async false
set_option linter.all false
set_option maxRecDepth 100000
set_option maxHeartbeats 4000000
/-! CLp: how nested data is spelt. -/
namespace CL
open PySem PySem.Spec PyProof.Rows L2

def isSm (c : Nat) : Bool := decide (97 ≤ c) && decide (c ≤ 122)
def smalls : List Nat := [97, 98, 99, 100, 101, 102, 103, 104, 105, 106, 107, 108, 109, 110, 111, 112, 113, 114, 115, 116, 117, 118, 119, 120, 121, 122]
theorem smalls_iff (c : Nat) : c ∈ smalls ↔ isSm c = true := by
  simp only [smalls, isSm, List.mem_cons, List.not_mem_nil, or_false, Bool.and_eq_true, decide_eq_true_eq]
  omega
theorem smalls_dec (c : Nat) : decide (c ∈ smalls) = isSm c := by
  cases h : isSm c with
  | true => exact decide_eq_true ((smalls_iff c).mpr h)
  | false => exact decide_eq_false fun z => by rw [(smalls_iff c).mp z] at h; cases h
def wNone : List Nat := [110, 111, 110, 101]
def wYes : List Nat := [121, 101, 115]
def wNo : List Nat := [110, 111]
/-- what the kept words stand for -/
def kept (w : List Nat) : Option D := if w = wNone then some .non else if w = wYes then some (.bl true) else if w = wNo then some (.bl false) else none
def bare (w : List Nat) : Bool := !decide (w = []) && ((kept w).isNone && w.all isSm)
def sg (c : Nat) : List Nat := if c = 10 then [94, 110] else if c = 39 ∨ c = 94 then [94, c] else [c]
def word (w : List Nat) : List Nat := if bare w then w else 39 :: (w.flatMap sg ++ [39])
def num (i : Int) : List Nat := (Str.ofString (toString i)).cps.toList
/-- joined by blanks -/
def jn : List (List Nat) → List Nat := TL.joinL [32]
mutual
def spell : D → List Nat
  | .non => wNone
  | .bl true => wYes
  | .bl false => wNo
  | .int i => num i
  | .str x => word x
  | .con .tup _ ds => 40 :: (jn (spells ds) ++ [41])
  | .con .lst _ ds => 91 :: (jn (spells ds) ++ [93])
  | .con .dct ks ds => 123 :: (jn (List.zipWith (fun k t => word k ++ 32 :: t) ks (spells ds)) ++ [125])
def spells : List D → List (List Nat)
  | [] => []
  | d :: ds => spell d :: spells ds
end
theorem spells_map : ∀ ds : List D, spells ds = ds.map spell
  | [] => rfl
  | d :: ds => by rw [spells, spells_map ds, List.map_cons]
/-! what is asked of data: its ints are not too long, its dicts' keys rise, the dicts are small -/
mutual
def okD : D → Prop
  | .int i => i.natAbs < 10 ^ 500
  | .con .dct ks ds => Rises ks ∧ ks.length = ds.length ∧ ds.length < 64 ∧ okDs ds
  | .con _ ks ds => ks = [] ∧ okDs ds
  | _ => True
def okDs : List D → Prop
  | [] => True
  | d :: ds => okD d ∧ okDs ds
end
theorem okDs_mem : ∀ {ds : List D}, okDs ds ↔ ∀ d ∈ ds, okD d
  | [] => by simp [okDs]
  | d :: ds => by simp [okDs, okDs_mem (ds := ds)]
theorem deps_mem : ∀ {ds : List D} {d : D}, d ∈ ds → dep d ≤ deps ds
  | e :: ds, d, h => by
    rw [deps]
    rcases List.mem_cons.mp h with rfl | h
    · exact Nat.le_max_left ..
    · exact Nat.le_trans (deps_mem h) (Nat.le_max_right ..)
theorem deps_le : ∀ {ds : List D} {n : Nat}, (∀ d ∈ ds, dep d ≤ n) → deps ds ≤ n
  | [], n, _ => Nat.zero_le n
  | e :: ds, n, h => by
    rw [deps]
    exact Nat.max_le.mpr ⟨h e (by simp), deps_le fun d hd => h d (by simp [hd])⟩
mutual
/-- the dicts' keys are of signs that there are -/
def cpD : D → Prop
  | .con _ ks ds => (∀ k, k ∈ ks → ∀ c, c ∈ k → c < 0x110000) ∧ cpDs ds
  | _ => True
def cpDs : List D → Prop
  | [] => True
  | d :: ds => cpD d ∧ cpDs ds
end
theorem cpDs_mem : ∀ {ds : List D}, cpDs ds → ∀ {d}, d ∈ ds → cpD d
  | _ :: ds, h, d, hd => by
    rw [cpDs] at h
    rcases List.mem_cons.mp hd with rfl | hd
    · exact h.1
    · exact cpDs_mem h.2 hd
theorem cpDs_of : ∀ {ds : List D}, (∀ d, d ∈ ds → cpD d) → cpDs ds
  | [], _ => trivial
  | d :: ds, h => ⟨h d (List.mem_cons_self ..), cpDs_of fun e he => h e (List.mem_cons_of_mem _ he)⟩
/-- a short text of signs that there are -/
def tx9 (x : List Nat) : Prop := x.length ≤ 9 ∧ ∀ c, c ∈ x → c < 0x110000
/-- joined lengths -/
theorem jn_len : ∀ (l : List (List Nat)), (l.map List.length).sum + l.length ≤ (jn l).length + 1
  | [] => by simp [jn, TL.joinL]
  | [p] => by simp [jn, TL.joinL]
  | p :: q :: r => by
    have ih := jn_len (q :: r)
    unfold jn at ih ⊢
    rw [TL.joinL]
    simp only [List.map_cons, List.sum_cons, List.length_cons, List.length_append] at ih ⊢
    omega
theorem mem_sum : ∀ {l : List (List Nat)} {p : List Nat}, p ∈ l → p.length ≤ (l.map List.length).sum
  | e :: l, p, h => by
    rw [List.map_cons, List.sum_cons]
    rcases List.mem_cons.mp h with rfl | h
    · omega
    · have := mem_sum h
      omega
theorem jn_mem {l : List (List Nat)} {p : List Nat} (h : p ∈ l) : p.length ≤ (jn l).length := by
  have h1 := jn_len l
  have h2 := mem_sum h
  have h3 : 0 < l.length := List.length_pos_of_mem h
  omega
theorem join_jn (ys : List (List Nat)) : Txt.join (S [32]) (ys.map S) = S (jn ys) := SX.join_S [32] ys
theorem join_flat (ys : List (List Nat)) : Txt.join (S []) (ys.map S) = S ys.flatten := by
  have e : ∀ l : List (List Nat), TL.joinL [] l = l.flatten := by
    intro l
    induction l with
    | nil => rfl
    | cons p r ih =>
      cases r with
      | nil => simp [TL.joinL]
      | cons q r => rw [TL.joinL, ih]; simp
  rw [← e]
  exact SX.join_S [] ys
end CL
end

section
set_option Elab.async false
set_option linter.all false
set_option maxRecDepth 100000
set_option maxHeartbeats 4000000
open PySem PySem.Spec PyProof.Rows L2 CL
local macro_rules | `(tactic| walk_at "rd1") => `(tactic| first
  | (with_reducible refine g_seq ?_) | ((with_reducible apply g_var); rfl) | (with_reducible refine g_c ?_) | (with_reducible refine g_op ?_) | (with_reducible refine g_cons ?_) | (with_reducible refine g_nil ?_)
  | (with_reducible refine g_if ?_) | (with_reducible refine g_ct ?_) | (with_reducible refine g_tr ?_) | (with_reducible refine g_and ?_) | (with_reducible refine g_or ?_) | (with_reducible refine g_not ?_)
  | (with_reducible refine asB_bl ?_) | (with_reducible refine tru_bl ?_) | (with_reducible refine g_ret ?_) | (with_reducible refine g_set ?_) | (with_reducible refine g_fn ?_) | (with_reducible refine g_call ?_)
  | (with_reducible refine g_meth ?_) | (with_reducible refine g_fld ?_) | (with_reducible refine nx_seq ?_) | (with_reducible refine nx_loop ?_) | (with_reducible refine nx_top ?_) | (with_reducible refine rt_seq ?_)
  | (with_reducible refine rt_loop ?_) | (with_reducible refine rt_top ?_) | (with_reducible refine bk_seq ?_) | (with_reducible refine bk_loop ?_) | (with_reducible refine ct_seq ?_) | (with_reducible refine ct_loop ?_)
  | (with_reducible refine g_end ?_) | (with_reducible refine uAdd_i ?_) | (with_reducible refine uSub_i ?_) | (with_reducible refine uEq_i ?_) | (with_reducible refine uEq_s ?_) | (with_reducible refine uNe_i ?_) | (with_reducible refine uNe_s ?_)
  | (with_reducible refine uLt_i ?_) | (with_reducible refine uLe_i ?_) | (with_reducible refine uGt_i ?_) | (with_reducible refine uGe_i ?_) | (with_reducible refine uIs_n ?_) | (with_reducible refine uIsNot_n ?_)
  | (with_reducible refine g_tup ?_) | (with_reducible refine g_lst ?_) | (with_reducible refine g_sl ?_) | (with_reducible refine g_no ?_) | (with_reducible refine g_part ?_) | (with_reducible refine g_ifE ?_) | (with_reducible refine g_ofT ?_)
  | (with_reducible refine g_unp2 ?_) | (with_reducible refine g_put ?_) | (with_reducible refine g_retN ?_) | (with_reducible refine g_drop ?_) | (with_reducible refine g_brk ?_) | (with_reducible refine g_cnt ?_) | (with_reducible refine iAdd_i ?_)
  | ((with_reducible apply g_aug); rfl) | (with_reducible refine g_sto ?_) | (with_reducible refine g_stoA ?_) | (with_reducible refine g_for ?_) | (with_reducible refine g_wh ?_) | (with_reducible refine g_rs ?_) | (with_reducible refine g_rsX ?_)
  | (with_reducible refine g_g ?_) | (with_reducible refine g_g2 ?_) | (with_reducible refine g_callN ?_) | (with_reducible refine g_app ?_) | (with_reducible refine g_join ?_) | (with_reducible refine strA_i ?_) | (with_reducible refine g_it ?_)
  | (with_reducible refine itR_s ?_) | (with_reducible refine g_rng ?_) | (with_reducible refine g_vals ?_) | (with_reducible refine g_zip ?_) | (with_reducible refine g_rep ?_) | (with_reducible refine g_new ?_) | (with_reducible refine g_disp ?_)
  | (with_reducible refine g_andV ?_) | (with_reducible refine g_orV ?_) | (with_reducible refine g_notV ?_) | (with_reducible refine g_un ?_) | (with_reducible refine uNeg_i ?_) | (with_reducible refine g_yes ?_) | (with_reducible refine g_make ?_)
  | (with_reducible refine g_try ?_) | (with_reducible refine g_lc ?_) | (with_reducible refine intR_b ?_) | (with_reducible refine minR_i ?_) | (with_reducible refine tru_int ?_))
local macro_rules | `(tactic| walk_at "rd") => `(tactic| repeat (walk_at "rd1"))
namespace K96
open PySem PySem.Spec PyProof.Rows L2 CL
def keptV (w : List Nat) : Option V := if w = wNone then some .non else if w = wYes then some (.bl true) else if w = wNo then some (.bl false) else none
theorem kept_some (w : List Nat) : (keptV w).isSome = (kept w).isSome := by
  unfold keptV kept
  split
  · rfl
  · split
    · rfl
    · split <;> rfl
/-- the two tables -/
structure TF (K : PySem.W.Frag) (w : World) : Prop where
  k : ∀ z : List Nat, KDAt K w (He.ga K "KEPT") (S z) (keptV z)
  e : ∀ c : Nat, KDAt K w (He.ga K "ENDS") (S [c]) (if c = 40 then some (.str (S [41])) else if c = 91 then some (.str (S [93])) else if c = 123 then some (.str (S [125])) else none)
theorem sline {n : Nat} (h : n ≤ 1000000) : n ≤ sizeLine := by rw [sizeLine_eq]; omega
def sp_is_bare : Sp := sp1 fun v H Q _ => ∃ x, v = .str (S x) ∧ x.length ≤ 1000000 ∧ ∀ H', Ext H H' → Q (.bl (bare x)) H'
theorem S_eq (a b : List Nat) : (S a = S b) ↔ a = b := ⟨SX.S_inj, fun e => by rw [e]⟩
section
variable {K : PySem.W.Frag} {w : World} (T : TF K w)
include T
theorem w_is_bare {H : Hp} {vs : List V} {Q : VK} {E : XK} (h : sp_is_bare vs H Q E) : t_is_bare K w (fun cls d _ H' => E cls d H') (topE Q) (start N_is_bare vs) H := by
  obtain ⟨v, rfl, x, rfl, hl, q⟩ := h
  unfold t_is_bare
  walk_at "rd"
  refine br_c (fun h => ?_) (fun h => ?_)
  rotate_left
  · walk_at "rd"
    have e : bare x = false := by
      have h : x = [] := by simpa [S_eq] using h
      simp [bare, h]
    rw [← e]
    exact q H .refl
  have hx : x ≠ [] := by simpa [S_eq] using h
  walk_at "rd"
  refine uNotIn_k (T.k x) ?_
  walk_at "rd"
  rw [kept_some]
  refine br_c (fun h => ?_) (fun h => ?_)
  rotate_left
  · walk_at "rd"
    have e : bare x = false := by
      cases hk : kept x with
      | none => rw [hk] at h; simp at h
      | some d => simp [bare, hk]
    rw [← e]
    exact q H .refl
  have hk : (kept x).isNone = true := by
    cases hk : kept x with
    | none => rfl
    | some d => rw [hk] at h; simp at h
  walk_at "rd"
  refine lc_w walk_str (fun i H' acc => H' = H ∧ acc = ((x.take i).map isSm).map V.bl) ⟨rfl, rfl⟩ (fun i H' acc hi p => ⟨trivial, by rw [p.2, List.length_map, List.length_map, List.length_take]; exact Nat.min_le_left ..⟩) (by simpa using sline hl) ?_ ?_
  · rintro i y H1 H2 acc hi ⟨rfl, rfl⟩ ⟨rfl, c, hc, rfl⟩
    walk_at "rd"
    refine ⟨rfl, ?_⟩
    walk_at "rd"
    refine br_t ?_
    walk_at "rd"
    refine uIn_c ?_
    refine ⟨rfl, ?_⟩
    have hc' : x[i]? = some c := by simpa using hc
    have e : x.take (i + 1) = x.take i ++ [c] := by
      rw [List.take_add_one, hc']; rfl
    rw [e]
    simp only [List.map_append, List.map_cons, List.map_nil]
    congr 2
    exact congrArg V.bl (smalls_dec c)
  · rintro H1 acc ⟨rfl, rfl⟩ D hD
    walk_at "rd"
    refine allR_i (bs := x.map isSm) (SqL.of (by rw [upd_same]; simp)) ?_
    walk_at "rd"
    have e : bare x = (x.map isSm).all id := by
      simp [bare, hx, hk, List.all_map]
    rw [← e]
    exact q _ (.new hD)
end
end K96
end

section
set_option Elab.async false
set_option linter.all false
set_option maxRecDepth 100000
set_option maxHeartbeats 4000000
open PySem PySem.Spec PyProof.Rows L2 CL
local macro_rules | `(tactic| walk_at "rd1") => `(tactic| first
  | (with_reducible refine g_seq ?_) | ((with_reducible apply g_var); rfl) | (with_reducible refine g_c ?_) | (with_reducible refine g_op ?_) | (with_reducible refine g_cons ?_) | (with_reducible refine g_nil ?_)
  | (with_reducible refine g_if ?_) | (with_reducible refine g_ct ?_) | (with_reducible refine g_tr ?_) | (with_reducible refine g_and ?_) | (with_reducible refine g_or ?_) | (with_reducible refine g_not ?_)
  | (with_reducible refine asB_bl ?_) | (with_reducible refine tru_bl ?_) | (with_reducible refine g_ret ?_) | (with_reducible refine g_set ?_) | (with_reducible refine g_fn ?_) | (with_reducible refine g_call ?_)
  | (with_reducible refine g_meth ?_) | (with_reducible refine g_fld ?_) | (with_reducible refine nx_seq ?_) | (with_reducible refine nx_loop ?_) | (with_reducible refine nx_top ?_) | (with_reducible refine rt_seq ?_)
  | (with_reducible refine rt_loop ?_) | (with_reducible refine rt_top ?_) | (with_reducible refine bk_seq ?_) | (with_reducible refine bk_loop ?_) | (with_reducible refine ct_seq ?_) | (with_reducible refine ct_loop ?_)
  | (with_reducible refine g_end ?_) | (with_reducible refine uAdd_i ?_) | (with_reducible refine uSub_i ?_) | (with_reducible refine uEq_i ?_) | (with_reducible refine uEq_s ?_) | (with_reducible refine uNe_i ?_) | (with_reducible refine uNe_s ?_)
  | (with_reducible refine uLt_i ?_) | (with_reducible refine uLe_i ?_) | (with_reducible refine uGt_i ?_) | (with_reducible refine uGe_i ?_) | (with_reducible refine uIs_n ?_) | (with_reducible refine uIsNot_n ?_)
  | (with_reducible refine g_tup ?_) | (with_reducible refine g_lst ?_) | (with_reducible refine g_sl ?_) | (with_reducible refine g_no ?_) | (with_reducible refine g_part ?_) | (with_reducible refine g_ifE ?_) | (with_reducible refine g_ofT ?_)
  | (with_reducible refine g_unp2 ?_) | (with_reducible refine g_put ?_) | (with_reducible refine g_retN ?_) | (with_reducible refine g_drop ?_) | (with_reducible refine g_brk ?_) | (with_reducible refine g_cnt ?_) | (with_reducible refine iAdd_i ?_)
  | ((with_reducible apply g_aug); rfl) | (with_reducible refine g_sto ?_) | (with_reducible refine g_stoA ?_) | (with_reducible refine g_for ?_) | (with_reducible refine g_wh ?_) | (with_reducible refine g_rs ?_) | (with_reducible refine g_rsX ?_)
  | (with_reducible refine g_g ?_) | (with_reducible refine g_g2 ?_) | (with_reducible refine g_callN ?_) | (with_reducible refine g_app ?_) | (with_reducible refine g_join ?_) | (with_reducible refine strA_i ?_) | (with_reducible refine g_it ?_)
  | (with_reducible refine itR_s ?_) | (with_reducible refine g_rng ?_) | (with_reducible refine g_vals ?_) | (with_reducible refine g_zip ?_) | (with_reducible refine g_rep ?_) | (with_reducible refine g_new ?_) | (with_reducible refine g_disp ?_)
  | (with_reducible refine g_andV ?_) | (with_reducible refine g_orV ?_) | (with_reducible refine g_notV ?_) | (with_reducible refine g_un ?_) | (with_reducible refine uNeg_i ?_) | (with_reducible refine g_yes ?_) | (with_reducible refine g_make ?_)
  | (with_reducible refine g_try ?_) | (with_reducible refine g_lc ?_) | (with_reducible refine intR_b ?_) | (with_reducible refine minR_i ?_) | (with_reducible refine tru_int ?_))
local macro_rules | `(tactic| walk_at "rd") => `(tactic| repeat (walk_at "rd1"))
namespace K96
open PySem PySem.Spec PyProof.Rows L2 CL
theorem sl {n : Nat} (h : n ≤ 4000000) : n ≤ sizeLine := by rw [sizeLine_eq]; omega
theorem sb {n : Nat} (h : n ≤ 100) : n ≤ sizeLine := sl (by omega)
theorem uAdd_S {K : PySem.W.Frag} {a b : List Nat} {H : Hp} {Q : VK} (l : a.length + b.length ≤ 4000000) (q : Q (.str (S (a ++ b))) H) : uAdd K (.str (S a)) (.str (S b)) H Q :=
  uAdd_s (by rw [SX.S_len, SX.S_len]; exact sl l) (by rw [SX.S_cat]; exact q)
theorem tkw {α : Type} {l : List α} {i : Nat} {a : α} (h : l[i]? = some a) : l.take (i + 1) = l.take i ++ [a] := by rw [List.take_add_one, h]; rfl
def sp_sign_text : Sp := sp1 fun v H Q _ => ∃ c, v = .str (S [c]) ∧ ∀ H', Ext H H' → Q (.str (S (sg c))) H'
def sp_word_text : Sp := sp1 fun v H Q _ => ∃ x, v = .str (S x) ∧ x.length ≤ 100000 ∧ ∀ H', Ext H H' → Q (.str (S (word x))) H'
theorem sg_len (c : Nat) : (sg c).length ≤ 2 := by 
  unfold sg
  split
  · simp
  · split <;> simp
theorem flat_len : ∀ l : List Nat, (l.map fun c => (sg c).length).sum ≤ 2 * l.length
  | [] => by simp
  | c :: l => by
    have h1 := sg_len c
    have h2 := flat_len l
    simp only [List.map_cons, List.sum_cons, List.length_cons]
    omega
theorem fm_len (l : List Nat) : (l.flatMap sg).length ≤ 2 * l.length := by
  rw [List.length_flatMap]
  exact flat_len l
theorem word_len (x : List Nat) : (word x).length ≤ 2 * x.length + 2 := by
  unfold word
  split
  · omega
  · have := fm_len x
    simp only [List.length_cons, List.length_append, List.length_nil]
    omega
section
variable {K : PySem.W.Frag} {w : World}
theorem w_sign_text {H : Hp} {vs : List V} {Q : VK} {E : XK} (h : sp_sign_text vs H Q E) : t_sign_text K w (fun cls d _ H' => E cls d H') (topE Q) (start N_sign_text vs) H := by
  obtain ⟨v, rfl, c, rfl, q⟩ := h
  unfold t_sign_text
  walk_at "rd"
  refine br_c (fun h => ?_) (fun h => ?_)
  · walk_at "rd"
    have e : c = 10 := by simpa [S_eq] using h
    have e2 : sg c = [94, 110] := by rw [e]; rfl
    rw [← e2]
    exact q H .refl
  have h10 : c ≠ 10 := by simpa [S_eq] using h
  walk_at "rd"
  refine ⟨sb (by decide), fun p hp => ?_⟩
  have ei : inV (.str (S [c])) [.str (S [39]), .str (S [94])] = decide (c = 39 ∨ c = 94) := by
    by_cases h1 : c = 39
    · subst h1; rfl
    · by_cases h2 : c = 94
      · subst h2; rfl
      · have : ¬ (39 = c) := fun z => h1 z.symm
        have : ¬ (94 = c) := fun z => h2 z.symm
        simp [inV, eqV, h1, h2, S_eq, *]
  refine uIn_q (.inr (SqT.of upd_same)) rfl rfl ?_
  rw [ei]
  walk_at "rd"
  refine br_c (fun h => ?_) (fun h => ?_)
  · walk_at "rd"
    refine uAdd_S (by simp) ?_
    walk_at "rd"
    have h : c = 39 ∨ c = 94 := by simpa using h
    have e2 : sg c = [94] ++ [c] := by simp [sg, h10, h]
    rw [← e2]
    exact q _ (.new hp)
  · walk_at "rd"
    have h : ¬ (c = 39 ∨ c = 94) := by simpa using h
    have e2 : sg c = [c] := by simp [sg, h10, h]
    have q := q _ (.new (o := .tup [.str (S [39]), .str (S [94])]) hp)
    rw [e2] at q
    exact q
theorem w_word_text {H : Hp} {vs : List V} {Q : VK} {E : XK} (h : sp_word_text vs H Q E) : t_word_text K w sp_is_bare sp_sign_text (fun cls d _ H' => E cls d H') (topE Q) (start N_word_text vs) H := by
  obtain ⟨v, rfl, x, rfl, hl, q⟩ := h
  unfold t_word_text
  walk_at "rd"
  refine sp1_go ⟨x, rfl, by omega, fun H1 e1 => ?_⟩
  walk_at "rd"
  refine br_c (fun h => ?_) (fun h => ?_)
  · walk_at "rd"
    have e2 : word x = x := by simp [word, h]
    have q := q H1 e1
    rw [e2] at q
    exact q
  walk_at "rd"
  refine lc_w walk_str (fun i H' acc => Ext H1 H' ∧ acc = ((x.take i).map fun c => V.str (S (sg c)))) ⟨.refl, rfl⟩ (fun i H' acc hi p => ⟨trivial, by rw [p.2, List.length_map, List.length_take]; exact Nat.min_le_left ..⟩) (sl (by simpa using (show x.length ≤ 4000000 by omega))) ?_ ?_
  · rintro i y H2 H3 acc hi ⟨e2, rfl⟩ ⟨rfl, c, hc, rfl⟩
    walk_at "rd"
    refine ⟨rfl, ?_⟩
    walk_at "rd"
    refine br_t ?_
    walk_at "rd"
    refine sp1_go ⟨c, rfl, fun H4 e4 => ⟨e2.trans e4, ?_⟩⟩
    rw [tkw (by simpa using hc), List.map_append]
    rfl
  · rintro H2 acc ⟨e2, rfl⟩ D hD
    have hx : (x.take (S x).cps.size) = x := List.take_of_length_le (by simp)
    rw [hx]
    have ec : (x.map fun c => V.str (S (sg c))) = ((x.map sg).map S).map V.str := by simp [List.map_map]
    refine joinR_l (zs := (x.map sg).map S) (SqL.of (by rw [upd_same, ec])) ?_ ?_
    · have := flat_len x
      have e : (((x.map sg).map S).map fun z => z.length) = x.map fun c => (sg c).length := by
        rw [List.map_map, List.map_map]
        exact List.map_congr_left fun c _ => SX.S_len _
      rw [e]
      simp only [List.length_map, S, Str.length]
      show _ + _ * ([] : List Nat).toArray.size ≤ _
      simp only [List.size_toArray, List.length_nil, Nat.mul_zero]
      omega
    rw [join_flat]
    have hf := fm_len x
    have ef : (x.map sg).flatten = x.flatMap sg := rfl
    rw [ef]
    refine uAdd_S (by simp only [List.length_cons, List.length_nil]; omega) ?_
    walk_at "rd"
    refine uAdd_S (by simp only [List.length_append, List.length_cons, List.length_nil]; omega) ?_
    walk_at "rd"
    have e2 : word x = [39] ++ x.flatMap sg ++ [39] := by simp [word, h]
    rw [← e2]
    exact q _ ((e1.trans ‹Ext H1 H2›).on hD)
end
end K96
end

section
set_option Elab.async false
set_option linter.all false
set_option maxRecDepth 100000
set_option maxHeartbeats 4000000
open PySem PySem.Spec PyProof.Rows L2 CL
local macro_rules | `(tactic| walk_at "rd1") => `(tactic| first
  | (with_reducible refine g_seq ?_) | ((with_reducible apply g_var); rfl) | (with_reducible refine g_c ?_) | (with_reducible refine g_op ?_) | (with_reducible refine g_cons ?_) | (with_reducible refine g_nil ?_)
  | (with_reducible refine g_if ?_) | (with_reducible refine g_ct ?_) | (with_reducible refine g_tr ?_) | (with_reducible refine g_and ?_) | (with_reducible refine g_or ?_) | (with_reducible refine g_not ?_)
  | (with_reducible refine asB_bl ?_) | (with_reducible refine tru_bl ?_) | (with_reducible refine g_ret ?_) | (with_reducible refine g_set ?_) | (with_reducible refine g_fn ?_) | (with_reducible refine g_call ?_)
  | (with_reducible refine g_meth ?_) | (with_reducible refine g_fld ?_) | (with_reducible refine nx_seq ?_) | (with_reducible refine nx_loop ?_) | (with_reducible refine nx_top ?_) | (with_reducible refine rt_seq ?_)
  | (with_reducible refine rt_loop ?_) | (with_reducible refine rt_top ?_) | (with_reducible refine bk_seq ?_) | (with_reducible refine bk_loop ?_) | (with_reducible refine ct_seq ?_) | (with_reducible refine ct_loop ?_)
  | (with_reducible refine g_end ?_) | (with_reducible refine uAdd_i ?_) | (with_reducible refine uSub_i ?_) | (with_reducible refine uEq_i ?_) | (with_reducible refine uEq_s ?_) | (with_reducible refine uNe_i ?_) | (with_reducible refine uNe_s ?_)
  | (with_reducible refine uLt_i ?_) | (with_reducible refine uLe_i ?_) | (with_reducible refine uGt_i ?_) | (with_reducible refine uGe_i ?_) | (with_reducible refine uIs_n ?_) | (with_reducible refine uIsNot_n ?_)
  | (with_reducible refine g_tup ?_) | (with_reducible refine g_lst ?_) | (with_reducible refine g_sl ?_) | (with_reducible refine g_no ?_) | (with_reducible refine g_part ?_) | (with_reducible refine g_ifE ?_) | (with_reducible refine g_ofT ?_)
  | (with_reducible refine g_unp2 ?_) | (with_reducible refine g_put ?_) | (with_reducible refine g_retN ?_) | (with_reducible refine g_drop ?_) | (with_reducible refine g_brk ?_) | (with_reducible refine g_cnt ?_) | (with_reducible refine iAdd_i ?_)
  | ((with_reducible apply g_aug); rfl) | (with_reducible refine g_sto ?_) | (with_reducible refine g_stoA ?_) | (with_reducible refine g_for ?_) | (with_reducible refine g_wh ?_) | (with_reducible refine g_rs ?_) | (with_reducible refine g_rsX ?_)
  | (with_reducible refine g_g ?_) | (with_reducible refine g_g2 ?_) | (with_reducible refine g_callN ?_) | (with_reducible refine g_app ?_) | (with_reducible refine g_join ?_) | (with_reducible refine strA_i ?_) | (with_reducible refine g_it ?_)
  | (with_reducible refine itR_s ?_) | (with_reducible refine g_rng ?_) | (with_reducible refine g_vals ?_) | (with_reducible refine g_zip ?_) | (with_reducible refine g_rep ?_) | (with_reducible refine g_new ?_) | (with_reducible refine g_disp ?_)
  | (with_reducible refine g_andV ?_) | (with_reducible refine g_orV ?_) | (with_reducible refine g_notV ?_) | (with_reducible refine g_un ?_) | (with_reducible refine uNeg_i ?_) | (with_reducible refine g_yes ?_) | (with_reducible refine g_make ?_)
  | (with_reducible refine g_try ?_) | (with_reducible refine g_lc ?_) | (with_reducible refine intR_b ?_) | (with_reducible refine minR_i ?_) | (with_reducible refine tru_int ?_))
local macro_rules | `(tactic| walk_at "rd") => `(tactic| repeat (walk_at "rd1"))
namespace K96
open PySem PySem.Spec PyProof.Rows L2 CL
def flatD : D → Prop
  | .con _ _ _ => False
  | _ => True
theorem word_ge (x : List Nat) : x.length ≤ (word x).length := by
  unfold word
  split
  · exact Nat.le_refl _
  · have h : ∀ l : List Nat, l.length ≤ (l.flatMap sg).length := by
      intro l
      induction l with
      | nil => simp
      | cons c l ih =>
        rw [List.flatMap_cons, List.length_append, List.length_cons]
        have : 1 ≤ (sg c).length := by
          unfold sg
          split
          · simp
          · split <;> simp
        omega
    have := h x
    simp only [List.length_cons, List.length_append, List.length_nil]
    omega
theorem log_ok {n : Nat} (h : n < 10 ^ 500) : n.log2 < 1920 := by
  by_cases h0 : n = 0
  · rw [h0]; decide
  · rw [Nat.log2_lt h0]
    exact Nat.lt_of_lt_of_le h (by decide +kernel)
theorem isiA {K : PySem.W.Frag} {H : Hp} {Q : VK} {v : V} {d : D} {n : String} (m : String) (b : Bool) (r : Rep H v d) (hm : tyN d = m) (e : kitB m n = some b) (q : Q (.bl b) H) : isiR K [v, .ty n] H Q := isi_1 (by rw [← hm]; exact r.ty) e q
def sp_plain_text : Sp := sp1 fun v H Q _ => ∃ d, Rep H v d ∧ flatD d ∧ okD d ∧ (spell d).length ≤ 50000 ∧ ∀ H', Ext H H' → Q (.str (S (spell d))) H'
/-- the writer's promise, for data of a depth below n -/
def sp_text_of (K : PySem.W.Frag) : Nat → Sp
  | 0 => fun _ _ _ _ => False
  | n + 1 => sp2 fun v y H Q E => ∃ d k, y = .int (k : Nat) ∧ Rep H v d ∧ okD d ∧ dep d ≤ n ∧ (spell d).length ≤ 50000 ∧ (dep d ≤ k → ∀ H', Ext H H' → Q (.str (S (spell d))) H') ∧ (k < dep d → ∀ H', Ext H H' → E (.ref (He.ga K "TooDeep")) none H')
def sp_things_text (K : PySem.W.Frag) : Nat → Sp
  | 0 => fun _ _ _ _ => False
  | n + 1 => sp2 fun v y H Q E => ∃ a vs ds k, v = .ref a ∧ (H a = some (.tup vs) ∨ H a = some (.lst vs)) ∧ y = .int (k : Nat) ∧ Reps H vs ds ∧ okDs ds ∧ deps ds ≤ n ∧ (jn (spells ds)).length ≤ 50000 ∧
      (deps ds ≤ k → ∀ H', Ext H H' → Q (.str (S (jn (spells ds)))) H') ∧ (k < deps ds → ∀ H', Ext H H' → E (.ref (He.ga K "TooDeep")) none H')
section
variable {K : PySem.W.Frag} {w : World}
theorem w_plain_text {H : Hp} {vs : List V} {Q : VK} {E : XK} (h : sp_plain_text vs H Q E) : t_plain_text K w sp_word_text (fun cls d _ H' => E cls d H') (topE Q) (start N_plain_text vs) H := by
  obtain ⟨v, rfl, d, r, hf, ok, hl, q⟩ := h
  unfold t_plain_text
  cases d with
  | con k ks ds => exact hf.elim
  | str x =>
    cases r
    walk_at "rd"
    refine isiA "str" true (.str x) rfl (by decide +kernel) ?_
    walk_at "rd"
    refine br_t ?_
    walk_at "rd"
    have := word_ge x
    have hl : (word x).length ≤ 50000 := hl
    exact sp1_go ⟨x, rfl, by omega, fun H1 e1 => by
      walk_at "rd"
      exact q H1 e1⟩
  | int i =>
    cases r
    walk_at "rd"
    refine isiA "int" false (.int i) rfl (by decide +kernel) ?_
    walk_at "rd"
    refine br_f ?_
    walk_at "rd"
    refine isiA "int" true (.int i) rfl (by decide +kernel) ?_
    walk_at "rd"
    refine br_t ?_
    walk_at "rd"
    refine isiA "int" false (.int i) rfl (by decide +kernel) ?_
    walk_at "rd"
    refine br_t ?_
    walk_at "rd"
    refine strR_i (log_ok ok) ?_
    walk_at "rd"
    have q := q H .refl
    have e : S (spell (.int i)) = Str.ofString (toString i) := SX.S_tl _
    rw [e] at q
    exact q
  | non =>
    cases r
    walk_at "rd"
    refine isiA "NoneType" false .non rfl (by decide +kernel) ?_
    walk_at "rd"
    refine br_f ?_
    walk_at "rd"
    refine isiA "NoneType" false .non rfl (by decide +kernel) ?_
    walk_at "rd"
    refine br_f ?_
    walk_at "rd"
    refine br_f ?_
    walk_at "rd"
    refine br_t ?_
    walk_at "rd"
    exact q H .refl
  | bl b =>
    cases r
    walk_at "rd"
    refine isiA "bool" false (.bl b) rfl (by decide +kernel) ?_
    walk_at "rd"
    refine br_f ?_
    walk_at "rd"
    refine isiA "bool" true (.bl b) rfl (by decide +kernel) ?_
    walk_at "rd"
    refine br_t ?_
    walk_at "rd"
    refine isiA "bool" true (.bl b) rfl (by decide +kernel) ?_
    walk_at "rd"
    refine br_f ?_
    walk_at "rd"
    refine br_f ?_
    walk_at "rd"
    cases b with
    | true =>
      refine br_t ?_
      walk_at "rd"
      exact q H .refl
    | false =>
      refine br_f ?_
      walk_at "rd"
      exact q H .refl
end
end K96
end

section
set_option Elab.async false
set_option linter.all false
set_option maxRecDepth 100000
set_option maxHeartbeats 4000000
open PySem PySem.Spec PyProof.Rows L2 CL
local macro_rules | `(tactic| walk_at "rd1") => `(tactic| first
  | (with_reducible refine g_seq ?_) | ((with_reducible apply g_var); rfl) | (with_reducible refine g_c ?_) | (with_reducible refine g_op ?_) | (with_reducible refine g_cons ?_) | (with_reducible refine g_nil ?_)
  | (with_reducible refine g_if ?_) | (with_reducible refine g_ct ?_) | (with_reducible refine g_tr ?_) | (with_reducible refine g_and ?_) | (with_reducible refine g_or ?_) | (with_reducible refine g_not ?_)
  | (with_reducible refine asB_bl ?_) | (with_reducible refine tru_bl ?_) | (with_reducible refine g_ret ?_) | (with_reducible refine g_set ?_) | (with_reducible refine g_fn ?_) | (with_reducible refine g_call ?_)
  | (with_reducible refine g_meth ?_) | (with_reducible refine g_fld ?_) | (with_reducible refine nx_seq ?_) | (with_reducible refine nx_loop ?_) | (with_reducible refine nx_top ?_) | (with_reducible refine rt_seq ?_)
  | (with_reducible refine rt_loop ?_) | (with_reducible refine rt_top ?_) | (with_reducible refine bk_seq ?_) | (with_reducible refine bk_loop ?_) | (with_reducible refine ct_seq ?_) | (with_reducible refine ct_loop ?_)
  | (with_reducible refine g_end ?_) | (with_reducible refine uAdd_i ?_) | (with_reducible refine uSub_i ?_) | (with_reducible refine uEq_i ?_) | (with_reducible refine uEq_s ?_) | (with_reducible refine uNe_i ?_) | (with_reducible refine uNe_s ?_)
  | (with_reducible refine uLt_i ?_) | (with_reducible refine uLe_i ?_) | (with_reducible refine uGt_i ?_) | (with_reducible refine uGe_i ?_) | (with_reducible refine uIs_n ?_) | (with_reducible refine uIsNot_n ?_)
  | (with_reducible refine g_tup ?_) | (with_reducible refine g_lst ?_) | (with_reducible refine g_sl ?_) | (with_reducible refine g_no ?_) | (with_reducible refine g_part ?_) | (with_reducible refine g_ifE ?_) | (with_reducible refine g_ofT ?_)
  | (with_reducible refine g_unp2 ?_) | (with_reducible refine g_put ?_) | (with_reducible refine g_retN ?_) | (with_reducible refine g_drop ?_) | (with_reducible refine g_brk ?_) | (with_reducible refine g_cnt ?_) | (with_reducible refine iAdd_i ?_)
  | ((with_reducible apply g_aug); rfl) | (with_reducible refine g_sto ?_) | (with_reducible refine g_stoA ?_) | (with_reducible refine g_for ?_) | (with_reducible refine g_wh ?_) | (with_reducible refine g_rs ?_) | (with_reducible refine g_rsX ?_)
  | (with_reducible refine g_g ?_) | (with_reducible refine g_g2 ?_) | (with_reducible refine g_callN ?_) | (with_reducible refine g_app ?_) | (with_reducible refine g_join ?_) | (with_reducible refine strA_i ?_) | (with_reducible refine g_it ?_)
  | (with_reducible refine itR_s ?_) | (with_reducible refine g_rng ?_) | (with_reducible refine g_vals ?_) | (with_reducible refine g_zip ?_) | (with_reducible refine g_rep ?_) | (with_reducible refine g_new ?_) | (with_reducible refine g_disp ?_)
  | (with_reducible refine g_andV ?_) | (with_reducible refine g_orV ?_) | (with_reducible refine g_notV ?_) | (with_reducible refine g_un ?_) | (with_reducible refine uNeg_i ?_) | (with_reducible refine g_yes ?_) | (with_reducible refine g_make ?_)
  | (with_reducible refine g_try ?_) | (with_reducible refine g_lc ?_) | (with_reducible refine intR_b ?_) | (with_reducible refine minR_i ?_) | (with_reducible refine tru_int ?_))
local macro_rules | `(tactic| walk_at "rd") => `(tactic| repeat (walk_at "rd1"))
namespace K96
open PySem PySem.Spec PyProof.Rows L2 CL
theorem okDs_at {ds : List D} {i : Nat} {d : D} (h : okDs ds) (e : ds[i]? = some d) : okD d := okDs_mem.mp h d (List.mem_of_getElem? e)
theorem sp_le {ds : List D} {i : Nat} {d : D} {n : Nat} (h : (jn (spells ds)).length ≤ n) (e : ds[i]? = some d) : (spell d).length ≤ n := by
  refine Nat.le_trans (jn_mem ?_) h
  rw [spells_map]
  exact List.mem_map_of_mem (List.mem_of_getElem? e)
theorem strs_of {ds : List D} : (ds.map fun d => V.str (S (spell d))) = ((spells ds).map S).map V.str := by
  rw [spells_map, List.map_map, List.map_map]
  rfl
theorem sum_S (l : List (List Nat)) : ((l.map S).map fun z => z.length).sum = (l.map List.length).sum := by
  rw [List.map_map]
  congr 1
theorem spT_go {K : PySem.W.Frag} {n : Nat} {v y : V} {H : Hp} {Q : VK} {E : XK} (h : ∃ d k, y = .int (k : Nat) ∧ Rep H v d ∧ okD d ∧ dep d ≤ n ∧ (spell d).length ≤ 50000 ∧ (dep d ≤ k → ∀ H', Ext H H' → Q (.str (S (spell d))) H') ∧ (k < dep d → ∀ H', Ext H H' → E (.ref (He.ga K "TooDeep")) none H')) :
    sp_text_of K (n + 1) [v, y] H Q E := ⟨v, y, rfl, h⟩
theorem spTh_go {K : PySem.W.Frag} {n : Nat} {v y : V} {H : Hp} {Q : VK} {E : XK} (h : ∃ a vs ds k, v = .ref a ∧ (H a = some (.tup vs) ∨ H a = some (.lst vs)) ∧ y = .int (k : Nat) ∧ Reps H vs ds ∧ okDs ds ∧ deps ds ≤ n ∧ (jn (spells ds)).length ≤ 50000 ∧
      (deps ds ≤ k → ∀ H', Ext H H' → Q (.str (S (jn (spells ds)))) H') ∧ (k < deps ds → ∀ H', Ext H H' → E (.ref (He.ga K "TooDeep")) none H')) :
    sp_things_text K (n + 1) [v, y] H Q E := ⟨v, y, rfl, h⟩
/-- a dict's keys, as texts -/
def keyT : Key → Str
  | .inr x => x
  | .inl _ => S []
theorem keys_of {kvs : List (Key × V)} {ks : List (List Nat)} (p : (kvs.map (·.1)).Perm (ks.map keyS)) : kvs.map (·.1) = ((kvs.map (·.1)).map keyT).map Sum.inr ∧ ((kvs.map (·.1)).map keyT).Perm (ks.map S) := by
  refine ⟨?_, ?_⟩
  · rw [List.map_map]
    have h : ∀ k ∈ kvs.map (·.1), (Sum.inr ∘ keyT) k = k := fun k hk => by
      obtain ⟨l, _, rfl⟩ := List.mem_map.mp (p.mem_iff.mp hk)
      rfl
    exact ((List.map_congr_left h).trans (List.map_id _)).symm
  · have h := p.map keyT
    rw [List.map_map (l := ks)] at h
    exact h
section
variable {K : PySem.W.Frag} {w : World}
theorem w_things_text {n : Nat} {H : Hp} {vs : List V} {Q : VK} {E : XK} (h : sp_things_text K (n + 1) vs H Q E) : t_things_text K w (sp_text_of K (n + 1)) (fun cls d _ H' => E cls d H') (topE Q) (start N_things_text vs) H := by
  obtain ⟨v, y, rfl, a, us, ds, k, rfl, ha, rfl, rs, ok, hn, hl, q1, q2⟩ := h
  unfold t_things_text
  walk_at "rd"
  have hz : us.length ≤ sizeLine := by
    have h1 := jn_len (spells ds)
    have h2 := rs.len
    rw [spells_map, List.length_map] at h1
    rw [spells_map] at hl
    exact sl (by omega)
  have body : ∀ (J : It) (Gd : Hp → Prop) (QQ : VK), Walk J us.length Gd (YAt us) → (∀ H', Ext H H' → Gd H') → (deps ds ≤ k → ∀ H' D, Ext H H' → H' D = none → QQ (.ref D) (upd H' D (.lst (ds.map fun d => V.str (S (spell d)))))) →
      lcR J (xG 2) tYes (xCall (sp_text_of K (n + 1)) [] (fun cls d _ H' => E cls d H') (xCons (xVar 2) (xCons (xVar 1) xNil))) [2] (start N_things_text [.ref a, .int (k : Nat)]) H QQ := by
    intro J Gd QQ wk hG hQ
    refine lc_w wk (fun i H' acc => Ext H H' ∧ acc = ((ds.take i).map fun d => V.str (S (spell d))) ∧ ∀ d ∈ ds.take i, dep d ≤ k) ⟨.refl, rfl, by simp⟩ (fun i H' acc hi p => ⟨hG _ p.1, by rw [p.2.1, List.length_map, List.length_take]; exact Nat.min_le_left ..⟩) hz ?_ ?_
    · rintro i x H2 H3 acc hi ⟨e2, rfl, hk⟩ ⟨rfl, hx⟩
      obtain ⟨d, hd, rd⟩ := rs.at hx
      walk_at "rd"
      refine ⟨rfl, ?_⟩
      walk_at "rd"
      refine br_t ?_
      walk_at "rd"
      have hm := deps_mem (List.mem_of_getElem? hd)
      refine spT_go ⟨d, k, rfl, rd.ext e2, okDs_at ok hd, by omega, sp_le hl hd, fun hk2 H4 e4 => ⟨e2.trans e4, ?_, ?_⟩, fun hk2 H4 e4 => q2 (by omega) _ (e2.trans e4)⟩
      · rw [tkw hd, List.map_append]
        rfl
      · rw [tkw hd]
        intro e he
        rcases List.mem_append.mp he with he | he
        · exact hk e he
        · rw [List.mem_singleton.mp he]
          exact hk2
    · rintro H2 acc ⟨e2, rfl, hk⟩ D hD
      have hx : ds.take us.length = ds := List.take_of_length_le (by rw [rs.len]; exact Nat.le_refl _)
      rw [hx] at hk ⊢
      exact hQ (deps_le hk) H2 D e2 hD
  have fin : deps ds ≤ k → ∀ H' D, Ext H H' → H' D = none → joinR K (.str (S [32])) (.ref D) (upd H' D (.lst (ds.map fun d => V.str (S (spell d))))) fun v H1 => dRt (topE Q) v H1 := by
    intro hd H' D e hD
    refine joinR_l (zs := (spells ds).map S) (SqL.of (by rw [upd_same, strs_of])) ?_ ?_
    · rw [sum_S]
      have h1 := jn_len (spells ds)
      rw [List.length_map]
      show _ + _ * ([32] : List Nat).toArray.size ≤ _
      simp only [List.size_toArray, List.length_cons, List.length_nil]
      omega
    · rw [join_jn]
      walk_at "rd"
      exact q1 hd _ (e.on hD)
  rcases ha with ha | ha
  · exact itR_t (SqT.of ha) (body _ _ _ walk_tup (fun H' e => SqT.of (e _ _ ha)) fin)
  · exact itR_l (SqL.of ha) (body _ _ _ walk_list (fun H' e => SqL.of (e _ _ ha)) fin)
theorem w_text_of {n : Nat} {H : Hp} {vs : List V} {Q : VK} {E : XK} (h : sp_text_of K (n + 1) vs H Q E) :
    t_text_of K w sp_plain_text (sp_things_text K n) sp_word_text (sp_text_of K n) (fun cls d _ H' => E cls d H') (topE Q) (start N_text_of vs) H := by
  obtain ⟨v, y, rfl, d, k, rfl, r, ok, hn, hl, q1, q2⟩ := h
  unfold t_text_of
  walk_at "rd"
  refine ⟨sb (by simp), fun p hp => ?_⟩
  walk_at "rd"
  have r1 := r.ext (.new (o := .tup [.ty "tuple", .ty "list", .ty "dict"]) hp)
  have plain : flatD d → tyN d = "NoneType" ∨ tyN d = "bool" ∨ tyN d = "int" ∨ tyN d = "str" := by
    intro hf
    cases d with
    | con _ _ _ => exact hf.elim
    | _ => simp [tyN]
  have flat : flatD d → dep d = 0 := by
    intro hf
    cases d with
    | con _ _ _ => exact hf.elim
    | _ => rfl
  by_cases hf : flatD d
  · have key : ∀ m, (m = "NoneType" ∨ m = "bool" ∨ m = "int" ∨ m = "str") → kitB m "tuple" = some false ∧ kitB m "list" = some false ∧ kitB m "dict" = some false := by
      rintro m (rfl | rfl | rfl | rfl) <;> decide +kernel
    obtain ⟨k1, k2, k3⟩ := key _ (plain hf)
    refine isi_3 upd_same r1.ty k1 k2 k3 ?_
    walk_at "rd"
    refine br_t ?_
    walk_at "rd"
    refine sp1_go ⟨d, r1, hf, ok, hl, fun H1 e1 => ?_⟩
    walk_at "rd"
    exact q1 (by rw [flat hf]; exact Nat.zero_le _) _ ((Ext.new hp).trans e1)
  have e0 := Ext.new (o := .tup [.ty "tuple", .ty "list", .ty "dict"]) hp
  generalize hH0 : upd H p (.tup [.ty "tuple", .ty "list", .ty "dict"]) = H0 at *
  have hp0 : H0 p = some (.tup [.ty "tuple", .ty "list", .ty "dict"]) := by rw [← hH0]; exact upd_same
  have isC : ∀ {QQ : VK}, QQ (.bl true) H0 → isiR K [v, .ref p] H0 QQ := by
    intro QQ q
    cases d with
    | con kd ks ds =>
      cases kd with
      | tup => exact isi_3 hp0 r1.ty (show kitB "tuple" "tuple" = some true by decide +kernel) (show kitB "tuple" "list" = some false by decide +kernel) (show kitB "tuple" "dict" = some false by decide +kernel) q
      | lst => exact isi_3 hp0 r1.ty (show kitB "list" "tuple" = some false by decide +kernel) (show kitB "list" "list" = some true by decide +kernel) (show kitB "list" "dict" = some false by decide +kernel) q
      | dct => exact isi_3 hp0 r1.ty (show kitB "dict" "tuple" = some false by decide +kernel) (show kitB "dict" "list" = some false by decide +kernel) (show kitB "dict" "dict" = some true by decide +kernel) q
    | _ => exact (hf trivial).elim
  refine isC ?_
  walk_at "rd"
  refine br_f ?_
  walk_at "rd"
  refine br_c (fun h => ?_) (fun h => ?_)
  · walk_at "rd"
    refine q2 ?_ _ e0
    have h : (k : Int) < 1 := by simpa using h
    cases d with
    | con kd ks ds => rw [dep]; omega
    | _ => exact (hf trivial).elim
  have hk : ¬ ((k : Int) < 1) := by simpa using h
  obtain ⟨k', rfl⟩ : ∃ k', k = k' + 1 := ⟨k - 1, by omega⟩
  have ek : (((k' + 1 : Nat) : Int) - 1) = (k' : Nat) := by omega
  walk_at "rd"
  cases d with
  | non => exact (hf trivial).elim
  | bl _ => exact (hf trivial).elim
  | int _ => exact (hf trivial).elim
  | str _ => exact (hf trivial).elim
  | con kd ks ds =>
  rw [dep] at hn q1 q2
  obtain ⟨m, rfl⟩ : ∃ m, n = m + 1 := ⟨n - 1, by omega⟩
  cases kd with
  | tup =>
    cases r1 with
    | @tup a us _ ha rs =>
    obtain ⟨_, ok⟩ := ok
    have hl : (40 :: (jn (spells ds) ++ [41])).length ≤ 50000 := hl
    rw [List.length_cons, List.length_append] at hl
    refine isiA "tuple" true (.tup ha rs) rfl (by decide +kernel) ?_
    walk_at "rd"
    refine br_t ?_
    walk_at "rd"
    rw [ek]
    refine spTh_go ⟨a, us, ds, k', rfl, .inl ha, rfl, rs, ok, by omega, by omega, fun hk2 H2 e2 => ?_, fun hk2 H2 e2 => q2 (by omega) _ (e0.trans e2)⟩
    refine uAdd_S (by simp only [List.length_cons, List.length_nil]; omega) ?_
    walk_at "rd"
    refine uAdd_S (by simp only [List.length_append, List.length_cons, List.length_nil]; omega) ?_
    walk_at "rd"
    exact q1 (by omega) _ (e0.trans e2)
  | lst =>
    cases r1 with
    | @lst a us _ ha rs =>
    obtain ⟨_, ok⟩ := ok
    have hl : (91 :: (jn (spells ds) ++ [93])).length ≤ 50000 := hl
    rw [List.length_cons, List.length_append] at hl
    refine isiA "list" false (.lst ha rs) rfl (by decide +kernel) ?_
    walk_at "rd"
    refine br_f ?_
    walk_at "rd"
    refine isiA "list" true (.lst ha rs) rfl (by decide +kernel) ?_
    walk_at "rd"
    refine br_t ?_
    walk_at "rd"
    rw [ek]
    refine spTh_go ⟨a, us, ds, k', rfl, .inr ha, rfl, rs, ok, by omega, by omega, fun hk2 H2 e2 => ?_, fun hk2 H2 e2 => q2 (by omega) _ (e0.trans e2)⟩
    refine uAdd_S (by simp only [List.length_cons, List.length_nil]; omega) ?_
    walk_at "rd"
    refine uAdd_S (by simp only [List.length_append, List.length_cons, List.length_nil]; omega) ?_
    walk_at "rd"
    exact q1 (by omega) _ (e0.trans e2)
  | dct =>
    cases r1 with
    | @dct a kvs _ _ ha perm rk =>
    obtain ⟨rise, hlen, h64, ok⟩ := ok
    generalize hzs : List.zipWith (fun k t => word k ++ 32 :: t) ks (spells ds) = zs at *
    have hl : (123 :: (jn zs ++ [125])).length ≤ 50000 := by rw [← hzs]; exact hl
    have q1 : 1 + deps ds ≤ k' + 1 → ∀ H', Ext H H' → Q (.str (S (123 :: (jn zs ++ [125])))) H' := by rw [← hzs]; exact q1
    rw [List.length_cons, List.length_append] at hl
    refine isiA "dict" false (.dct ha perm rk) rfl (by decide +kernel) ?_
    walk_at "rd"
    refine br_f ?_
    walk_at "rd"
    refine isiA "dict" false (.dct ha perm rk) rfl (by decide +kernel) ?_
    walk_at "rd"
    refine br_f ?_
    walk_at "rd"
    obtain ⟨k1, k2⟩ := keys_of perm
    refine srtR_d ha k1 ?_ fun ys p2 hy hs hp2 => ?_
    · rw [k2.length_eq, List.length_map]
      omega
    have hys := sorted_is rise (hy.trans k2) hs
    subst hys
    have e1 := e0.on (o := .lst ((ks.map S).map V.str)) hp2
    have eX := Ext.new (o := .lst ((ks.map S).map V.str)) hp2
    refine itR_l (SqL.of upd_same) ?_
    have hzl : ∀ i : Nat, ∀ kk d, ks[i]? = some kk → ds[i]? = some d → zs[i]? = some (word kk ++ 32 :: spell d) := by
      intro i kk d h1 h2
      rw [← hzs, spells_map, List.getElem?_zipWith, h1, List.getElem?_map, h2]
      rfl
    refine lc_w walk_list (fun i H' acc => Ext (upd H0 p2 (.lst ((ks.map S).map V.str))) H' ∧ acc = ((zs.take i).map fun z => V.str (S z)) ∧ ∀ d ∈ ds.take i, dep d ≤ k') ⟨.refl, rfl, by simp⟩
      (fun i H' acc hi p => ⟨SqL.of (p.1 _ _ upd_same), by rw [p.2.1, List.length_map, List.length_take]; exact Nat.min_le_left ..⟩) (by rw [List.length_map, List.length_map]; exact sl (by omega)) ?_ ?_
    · rintro i x H2 H3 acc hi ⟨e2, rfl, hkk⟩ ⟨rfl, hx⟩
      rw [List.length_map, List.length_map] at hi
      have hk0 : ks[i]? = some ks[i] := List.getElem?_eq_getElem hi
      have hx : x = .str (S ks[i]) := by
        rw [List.getElem?_map, List.getElem?_map, hk0] at hx
        exact (Option.some.inj hx).symm
      subst hx
      obtain ⟨v0, d, hd, hv0, rd⟩ := rk.at hk0
      have hz := hzl i _ _ hk0 hd
      have hzm := jn_mem (List.mem_of_getElem? hz)
      rw [List.length_append, List.length_cons] at hzm
      have hge := word_ge ks[i]
      walk_at "rd"
      refine ⟨rfl, ?_⟩
      walk_at "rd"
      refine br_t ?_
      walk_at "rd"
      refine sp1_go ⟨ks[i], rfl, by omega, fun H4 e4 => ?_⟩
      walk_at "rd"
      refine uAdd_S (by simp only [List.length_cons, List.length_nil]; omega) ?_
      walk_at "rd"
      have e5 := (eX.trans e2).trans e4
      refine uIx_d (.inl ⟨kvs, keyS ks[i], e5.keep.d _ _ ha, rfl, hv0.symm⟩) ?_
      walk_at "rd"
      rw [ek]
      have hm := deps_mem (List.mem_of_getElem? hd)
      refine spT_go ⟨d, k', rfl, rd.ext e5, okDs_at ok hd, by omega, by omega, fun hk2 H5 e6 => ?_, fun hk2 H5 e6 => q2 (by omega) _ ((e0.trans e5).trans e6)⟩
      refine uAdd_S (by simp only [List.length_append, List.length_cons, List.length_nil]; omega) ?_
      refine ⟨(e2.trans e4).trans e6, ?_, ?_⟩
      · rw [tkw hz, List.map_append]
        simp
      · rw [tkw hd]
        intro e he
        rcases List.mem_append.mp he with he | he
        · exact hkk e he
        · rw [List.mem_singleton.mp he]
          exact hk2
    · rintro H2 acc ⟨e2, rfl, hkk⟩ D hD
      rw [List.length_map, List.length_map] at hkk ⊢
      have hx : ds.take ks.length = ds := List.take_of_length_le (by omega)
      have hz : zs.take ks.length = zs := List.take_of_length_le (by rw [← hzs, List.length_zipWith]; exact Nat.min_le_left ..)
      rw [hx] at hkk
      rw [hz]
      have ez : (zs.map fun z => V.str (S z)) = (zs.map S).map V.str := by rw [List.map_map]; rfl
      have h1 := jn_len zs
      refine joinR_l (zs := zs.map S) (SqL.of (by rw [upd_same, ez])) ?_ ?_
      · rw [sum_S, List.length_map]
        show _ + _ * ([32] : List Nat).toArray.size ≤ _
        simp only [List.size_toArray, List.length_cons, List.length_nil]
        omega
      · rw [join_jn]
        refine uAdd_S (by simp only [List.length_cons, List.length_nil]; omega) ?_
        walk_at "rd"
        refine uAdd_S (by simp only [List.length_append, List.length_cons, List.length_nil]; omega) ?_
        walk_at "rd"
        have := deps_le hkk
        exact q1 (by omega) _ ((e1.trans e2).on hD)
end
end K96
end

section
set_option Elab.async false
set_option linter.all false
set_option maxRecDepth 100000
set_option maxHeartbeats 4000000
/-! CLr: a reader of nested data, as plain functions of the text that is left. -/
namespace CL
open PySem PySem.Spec PyProof.Rows L2
/-- read, the rest behind it; refused ahead of a rest; too long -/
inductive R (α : Type) where
  | ok (a : α) (r : List Nat) | bad (r : List Nat) | out
def begins (c : Nat) : List Nat → Bool
  | [] => false
  | d :: _ => decide (d = c)
def eat (c : Nat) (l : List Nat) : List Nat := if begins c l then l.tail else l
def figs : List Nat := [48, 49, 50, 51, 52, 53, 54, 55, 56, 57]
def isFig (c : Nat) : Bool := decide (48 ≤ c) && decide (c ≤ 57)
def rdNum (l : List Nat) : R Int :=
  if !begins 45 l && begins 48 l then .ok 0 l.tail
  else
    let l1 := eat 45 l
    match l1 with
    | [] => .bad []
    | c :: r => if decide (49 ≤ c) && decide (c ≤ 57) then
        (if (l1.takeWhile isFig).length ≤ 600 then .ok (if begins 45 l then 0 - (NumText.digitsVal (l1.takeWhile isFig) : Int) else NumText.digitsVal (l1.takeWhile isFig)) (l1.dropWhile isFig) else .out)
      else .bad l1
def qLoop : List Nat → List Nat → R (List Nat)
  | _, [] => .bad []
  | acc, 39 :: r => .ok acc r
  | _, 10 :: r => .bad (10 :: r)
  | _, [94] => .bad []
  | acc, 94 :: c :: r => if c = 39 ∨ c = 94 ∨ c = 110 then qLoop (acc ++ [if c = 110 then 10 else c]) r else .bad (c :: r)
  | acc, c :: r => qLoop (acc ++ [c]) r
/-- l begins with a quote -/
def rdQuo (l : List Nat) : R (List Nat) := match qLoop [] l.tail with
  | .ok x r => if bare x then .bad l else .ok x r
  | .bad r => .bad r
  | .out => .out
def rdKey (ahead : Option (List Nat)) (l : List Nat) : R (List Nat) :=
  match (if begins 39 l then rdQuo l else .ok (l.takeWhile isSm) (l.dropWhile isSm)) with
  | .ok x r => if (match ahead with
      | none => false
      | some a => !decide (a < x)) then .bad l else if begins 39 l || bare x then .ok x r else .bad r
  | .bad r => .bad r
  | .out => .out
def rdThings (p : List Nat → R D) (e : Nat) : Nat → List D → List Nat → R (List D)
  | 0, _, _ => .out
  | f + 1, found, l => if begins e l then .ok found l.tail else
    if !found.isEmpty && !begins 32 l then .bad l else
    match p (if found.isEmpty then l else l.tail) with
    | .ok d r => rdThings p e f (found ++ [d]) r
    | .bad r => .bad r
    | .out => .out
def rdPairs (p : List Nat → R D) : Nat → Option (List Nat) → List (List Nat) → List D → List Nat → R (List (List Nat) × List D)
  | 0, _, _, _, _ => .out
  | f + 1, ahead, ks, ds, l => if begins 125 l then .ok (ks, ds) l.tail else
    if ahead.isSome && !begins 32 l then .bad l else
    match rdKey ahead (if ahead.isSome then l.tail else l) with
    | .ok k r => if !begins 32 r then .bad r else
      (match p r.tail with
      | .ok d r2 => rdPairs p f (some k) (ks ++ [k]) (ds ++ [d]) r2
      | .bad r2 => .bad r2
      | .out => .out)
    | .bad r => .bad r
    | .out => .out
def rdThing : Nat → List Nat → R D
  | deep, l => match l with
    | [] => .bad []
    | c :: r =>
      if c = 39 then (match rdQuo l with
        | .ok x r => .ok (.str x) r
        | .bad r => .bad r
        | .out => .out)
      else if isSm c then .ok ((kept (l.takeWhile isSm)).getD (.str (l.takeWhile isSm))) (l.dropWhile isSm)
      else if ¬ (c = 40 ∨ c = 91 ∨ c = 123) then (match rdNum l with
        | .ok i r => .ok (.int i) r
        | .bad r => .bad r
        | .out => .out)
      else match deep with
        | 0 => .bad l
        | deep + 1 => if c = 123 then (match rdPairs (rdThing deep) (r.length + 1) none [] [] r with
            | .ok (ks, ds) r => .ok (.con .dct ks ds) r
            | .bad r => .bad r
            | .out => .out)
          else (match rdThings (rdThing deep) (if c = 40 then 41 else 93) (r.length + 1) [] r with
            | .ok ds r => .ok (.con (if c = 40 then .tup else .lst) [] ds) r
            | .bad r => .bad r
            | .out => .out)
  termination_by structural deep => deep

/-! ### where the reader stands -/
def ExtB (p : Addr) (H H' : Hp) : Prop := Ext (del H p) (del H' p)
theorem ExtB.refl {p : Addr} {H : Hp} : ExtB p H H := Ext.refl
theorem ExtB.trans {p : Addr} {H H1 H2 : Hp} (a : ExtB p H H1) (b : ExtB p H1 H2) : ExtB p H H2 := Ext.trans a b
theorem ExtB.of {p : Addr} {H H' : Hp} (x : Ext H H') : ExtB p H H' := fun a o e => by
  by_cases z : a = p
  · subst z; rw [del_same] at e; cases e
  · rw [del_ne z] at e ⊢; exact x a o e
theorem ExtB.at {p a : Addr} {o : HO} {H H' : Hp} (x : ExtB p H H') (n : a ≠ p) (e : H a = some o) : H' a = some o := by
  have q := x a o (by rw [del_ne n]; exact e)
  rw [del_ne n] at q
  exact q
theorem ExtB.mk {p : Addr} {H H' : Hp} (h : ∀ a o, a ≠ p → H a = some o → H' a = some o) : ExtB p H H' := fun a o e => by
  by_cases z : a = p
  · subst z; rw [del_same] at e; cases e
  · rw [del_ne z] at e ⊢; exact h a o z e
theorem ExtB.put {p : Addr} {o : HO} {H : Hp} : ExtB p H (upd H p o) := .mk fun a u n e => by rw [upd_ne n]; exact e
/-- what is new -/
def fresh (H H' : Hp) : Hp := fun b => match H b with
  | none => H' b
  | some _ => none
theorem fresh_at {H H' : Hp} {b : Addr} (h : H b = none) : fresh H H' b = H' b := by unfold fresh; rw [h]
theorem of_fresh {H H' : Hp} {b : Addr} {o : HO} (h : fresh H H' b = some o) : H b = none ∧ H' b = some o := by
  unfold fresh at h
  cases e : H b with
  | none => rw [e] at h; exact ⟨rfl, h⟩
  | some u => rw [e] at h; cases h
end CL
end

section
set_option Elab.async false
set_option linter.all false
set_option maxRecDepth 100000
set_option maxHeartbeats 4000000
open PySem PySem.Spec PyProof.Rows L2 CL
local macro_rules | `(tactic| walk_at "rd1") => `(tactic| first
  | (with_reducible refine g_seq ?_) | ((with_reducible apply g_var); rfl) | (with_reducible refine g_c ?_) | (with_reducible refine g_op ?_) | (with_reducible refine g_cons ?_) | (with_reducible refine g_nil ?_)
  | (with_reducible refine g_if ?_) | (with_reducible refine g_ct ?_) | (with_reducible refine g_tr ?_) | (with_reducible refine g_and ?_) | (with_reducible refine g_or ?_) | (with_reducible refine g_not ?_)
  | (with_reducible refine asB_bl ?_) | (with_reducible refine tru_bl ?_) | (with_reducible refine g_ret ?_) | (with_reducible refine g_set ?_) | (with_reducible refine g_fn ?_) | (with_reducible refine g_call ?_)
  | (with_reducible refine g_meth ?_) | (with_reducible refine g_fld ?_) | (with_reducible refine nx_seq ?_) | (with_reducible refine nx_loop ?_) | (with_reducible refine nx_top ?_) | (with_reducible refine rt_seq ?_)
  | (with_reducible refine rt_loop ?_) | (with_reducible refine rt_top ?_) | (with_reducible refine bk_seq ?_) | (with_reducible refine bk_loop ?_) | (with_reducible refine ct_seq ?_) | (with_reducible refine ct_loop ?_)
  | (with_reducible refine g_end ?_) | (with_reducible refine uAdd_i ?_) | (with_reducible refine uSub_i ?_) | (with_reducible refine uEq_i ?_) | (with_reducible refine uEq_s ?_) | (with_reducible refine uNe_i ?_) | (with_reducible refine uNe_s ?_)
  | (with_reducible refine uLt_i ?_) | (with_reducible refine uLe_i ?_) | (with_reducible refine uGt_i ?_) | (with_reducible refine uGe_i ?_) | (with_reducible refine uIs_n ?_) | (with_reducible refine uIsNot_n ?_)
  | (with_reducible refine g_tup ?_) | (with_reducible refine g_lst ?_) | (with_reducible refine g_sl ?_) | (with_reducible refine g_no ?_) | (with_reducible refine g_part ?_) | (with_reducible refine g_ifE ?_) | (with_reducible refine g_ofT ?_)
  | (with_reducible refine g_unp2 ?_) | (with_reducible refine g_put ?_) | (with_reducible refine g_retN ?_) | (with_reducible refine g_drop ?_) | (with_reducible refine g_brk ?_) | (with_reducible refine g_cnt ?_) | (with_reducible refine iAdd_i ?_)
  | ((with_reducible apply g_aug); rfl) | (with_reducible refine g_sto ?_) | (with_reducible refine g_stoA ?_) | (with_reducible refine g_for ?_) | (with_reducible refine g_wh ?_) | (with_reducible refine g_rs ?_) | (with_reducible refine g_rsX ?_)
  | (with_reducible refine g_g ?_) | (with_reducible refine g_g2 ?_) | (with_reducible refine g_callN ?_) | (with_reducible refine g_app ?_) | (with_reducible refine g_join ?_) | (with_reducible refine strA_i ?_) | (with_reducible refine g_it ?_)
  | (with_reducible refine itR_s ?_) | (with_reducible refine g_rng ?_) | (with_reducible refine g_vals ?_) | (with_reducible refine g_zip ?_) | (with_reducible refine g_rep ?_) | (with_reducible refine g_new ?_) | (with_reducible refine g_disp ?_)
  | (with_reducible refine g_andV ?_) | (with_reducible refine g_orV ?_) | (with_reducible refine g_notV ?_) | (with_reducible refine g_un ?_) | (with_reducible refine uNeg_i ?_) | (with_reducible refine g_yes ?_) | (with_reducible refine g_make ?_)
  | (with_reducible refine g_try ?_) | (with_reducible refine g_lc ?_) | (with_reducible refine intR_b ?_) | (with_reducible refine minR_i ?_) | (with_reducible refine tru_int ?_))
local macro_rules | `(tactic| walk_at "rd") => `(tactic| repeat (walk_at "rd1"))
namespace K96
open PySem PySem.Spec PyProof.Rows L2 CL
def strip (K : PySem.W.Frag) (dx : Addr) (z : List Nat) (i : Nat) : HO := .ins (He.ga K "Strip") dx [("text", .str (S z)), ("at", .int (i : Nat))]
/-- the reader p stands over z, l is left -/
structure At (K : PySem.W.Frag) (p dx : Addr) (z l : List Nat) (H : Hp) : Prop where
  at_ : H p = some (strip K dx z (z.length - l.length))
  suf : z.drop (z.length - l.length) = l
  len : z.length ≤ 1000000
theorem At.le {K : PySem.W.Frag} {p dx : Addr} {z l : List Nat} {H : Hp} (a : At K p dx z l H) : l.length ≤ z.length := by
  have := congrArg List.length a.suf
  rw [List.length_drop] at this
  omega
theorem At.tl {K : PySem.W.Frag} {p dx : Addr} {z l : List Nat} {H : Hp} (a : At K p dx z l H) (n : Nat) (h : n ≤ l.length) : z.drop (z.length - l.length + n) = l.drop n ∧ z.length - (l.drop n).length = z.length - l.length + n := by
  have := a.le
  refine ⟨by rw [← List.drop_drop, a.suf], ?_⟩
  rw [List.length_drop]
  omega
theorem At.to {K : PySem.W.Frag} {p dx : Addr} {z l : List Nat} {H H' : Hp} (a : At K p dx z l H) (n : Nat) (h : n ≤ l.length) (e : H' p = some (strip K dx z (z.length - l.length + n))) : At K p dx z (l.drop n) H' := by
  obtain ⟨h1, h2⟩ := a.tl n h
  exact ⟨by rw [h2]; exact e, by rw [h2]; exact h1, a.len⟩
theorem At.ext {K : PySem.W.Frag} {p dx : Addr} {z l : List Nat} {H H' : Hp} (a : At K p dx z l H) (x : Ext H H') : At K p dx z l H' := ⟨x _ _ a.at_, a.suf, a.len⟩
theorem put_at {z : Str} {i : Int} {v : V} : putF ("at" : Str) v ([("text", .str z), ("at", .int i)] : List (Str × V)) = ([("text", .str z), ("at", v)] : List (Str × V)) := by rfl
/-- what is wished where the reader refuses ahead of r -/
def Bad (K : PySem.W.Frag) (p : Addr) (z r : List Nat) (H : Hp) (E : XK) : Prop := ∀ H' d, ExtB p H H' → H d = none → H' d = some (.xd [("at", .int ((z.length - r.length : Nat) : Nat)), ("row", .int 0)]) → E (.ref (He.ga K "NoText")) (some d) H'
theorem Bad.mono {K : PySem.W.Frag} {p : Addr} {z r : List Nat} {H H1 : Hp} {E : XK} (b : Bad K p z r H E) (x : ExtB p H H1) (h : H1 p ≠ none) : Bad K p z r H1 E := fun H' d y hn e => b H' d (x.trans y) (by
  have n : d ≠ p := fun q => h (q ▸ hn)
  cases q : H d with
  | none => rfl
  | some o => rw [x.at n q] at hn; cases hn) e
/-- an outcome, wished for -/
def Res {α : Type} (K : PySem.W.Frag) (p dx : Addr) (z : List Nat) (H : Hp) (Q : VK) (E : XK) (val : α → V → Hp → Prop) : CL.R α → Prop
  | .ok a r => ∀ H' v, ExtB p H H' → At K p dx z r H' → val a v H' → Q v H'
  | .bad r => Bad K p z r H E
  | .out => False
def sp_Strip_init (K : PySem.W.Frag) : Sp := sp2 fun v y H Q _ => ∃ p dx z, v = .ref p ∧ y = .str (S z) ∧ z.length ≤ 1000000 ∧ H p = some (.ins (He.ga K "Strip") dx []) ∧ ∀ H', ExtB p H H' → At K p dx z z H' → Q .non H'
def sp_Strip_sign (K : PySem.W.Frag) : Sp := sp1 fun v H Q _ => ∃ p dx z l, v = .ref p ∧ At K p dx z l H ∧ Q (.str (S (l.take 1))) H
def sp_Strip_must_be (K : PySem.W.Frag) : Sp := sp2 fun v y H Q E => ∃ p dx z l b, v = .ref p ∧ At K p dx z l H ∧ y = .bl b ∧ (b = true → Q .non H) ∧ (b = false → Bad K p z l H E)
def sp_Strip_may (K : PySem.W.Frag) : Sp := sp2 fun v y H Q _ => ∃ p dx z l c, v = .ref p ∧ At K p dx z l H ∧ y = .str (S [c]) ∧ ∀ H', ExtB p H H' → At K p dx z (eat c l) H' → Q (.bl (begins c l)) H'
def sp_Strip_run (K : PySem.W.Frag) : Sp := sp2 fun v y H Q _ => ∃ p dx z l cs, v = .ref p ∧ At K p dx z l H ∧ y = .str (S cs) ∧ ∀ H', ExtB p H H' → At K p dx z (l.dropWhile fun c => decide (c ∈ cs)) H' → Q (.str (S (l.takeWhile fun c => decide (c ∈ cs)))) H'
section
variable {K : PySem.W.Frag} {w : World} {mg : Str → Option Value} (M : MF K mg)
include M
theorem fld_text {p dx : Addr} {z l : List Nat} {H : Hp} {Q : VK} (a : At K p dx z l H) (q : Q (.str (S z)) H) : fldR K "text" (.ref p) H Q := fldR_i a.at_ (M.cls "Strip") (M.noat "Strip" "text") rfl q
theorem fld_at {p dx : Addr} {z l : List Nat} {H : Hp} {Q : VK} (a : At K p dx z l H) (q : Q (.int (z.length - l.length : Nat)) H) : fldR K "at" (.ref p) H Q := fldR_i a.at_ (M.cls "Strip") (M.noat "Strip" "at") rfl q
theorem sto_at {p dx : Addr} {z : List Nat} {i : Nat} {v : V} {H : Hp} {Q : Hp → Prop} (a : H p = some (strip K dx z i)) (q : Q (upd H p (.ins (He.ga K "Strip") dx [("text", .str (S z)), ("at", v)]))) : stoR K "at" (.ref p) v H Q :=
  stoR_i a (M.cls "Strip") (M.noat "Strip" "at") (by simp) (by rw [put_at]; exact q)
theorem ins_at {p dx : Addr} {z l : List Nat} {H : Hp} {R : V → Addr → Prop} (a : At K p dx z l H) (q : R (.int (z.length - l.length : Nat)) p) : insA K "at" (.ref p) H R := insA_i a.at_ (M.cls "Strip") (M.noat "Strip" "at") rfl q
theorem w_Strip_init {H : Hp} {vs : List V} {Q : VK} {E : XK} (h : sp_Strip_init K vs H Q E) : t_Strip_init K w (fun cls d _ H' => E cls d H') (topE Q) (start N_Strip_init vs) H := by
  obtain ⟨v, y, rfl, p, dx, z, rfl, rfl, hz, hp, q⟩ := h
  unfold t_Strip_init
  walk_at "rd"
  refine stoR_i hp (M.cls "Strip") (M.noat "Strip" "text") (by simp) ?_
  walk_at "rd"
  refine stoR_i upd_same (M.cls "Strip") (M.noat "Strip" "at") (by show 1 < 1000; omega) ?_
  walk_at "rd"
  refine q _ (ExtB.put.trans .put) ⟨?_, by simp, hz⟩
  rw [upd_same, Nat.sub_self]
  rfl
theorem w_Strip_sign {H : Hp} {vs : List V} {Q : VK} {E : XK} (h : sp_Strip_sign K vs H Q E) : t_Strip_sign K w (fun cls d _ H' => E cls d H') (topE Q) (start N_Strip_sign vs) H := by
  obtain ⟨v, rfl, p, dx, z, l, rfl, a, q⟩ := h
  unfold t_Strip_sign
  walk_at "rd"
  refine fld_text M a ?_
  walk_at "rd"
  refine fld_at M a ?_
  refine ⟨_, rfl, ?_⟩
  walk_at "rd"
  refine fld_at M a ?_
  walk_at "rd"
  refine ⟨_, rfl, ?_⟩
  refine uSl_s (sl (by rw [SX.S_len]; have := a.len; omega)) ?_
  walk_at "rd"
  have e : cutS (S z) (some ((z.length - l.length : Nat) : Int)) (some (((z.length - l.length : Nat) : Int) + 1)) = S (l.take 1) := by
    have h1 : HT.sIx z.length 0 (some ((z.length - l.length : Nat) : Int)) = z.length - l.length := by rw [HT.sIx_nat]; omega
    have h2 : HT.sIx z.length z.length (some (((z.length - l.length : Nat) : Int) + 1)) = min (z.length - l.length + 1) z.length := by
      have e : (((z.length - l.length : Nat) : Int) + 1) = ((z.length - l.length + 1 : Nat) : Int) := by omega
      rw [e, HT.sIx_nat]
    unfold cutS
    rw [SX.S_len, h1, h2]
    show S _ = S _
    congr 1
    simp only [List.toList_toArray]
    rw [a.suf]
    have := a.le
    cases l with
    | nil => simp
    | cons c r =>
      rw [List.length_cons] at this ⊢
      congr 1
      omega
  rw [e]
  exact q
theorem w_Strip_must_be {H : Hp} {vs : List V} {Q : VK} {E : XK} (h : sp_Strip_must_be K vs H Q E) : t_Strip_must_be K w (fun cls d _ H' => E cls d H') (topE Q) (start N_Strip_must_be vs) H := by
  obtain ⟨v, y, rfl, p, dx, z, l, b, rfl, a, rfl, q1, q2⟩ := h
  unfold t_Strip_must_be
  walk_at "rd"
  cases b with
  | true =>
    refine br_f ?_
    walk_at "rd"
    exact q1 rfl
  | false =>
    refine br_t ?_
    walk_at "rd"
    refine fld_at M a ?_
    walk_at "rd"
    refine ⟨rfl, fun d hd => ?_⟩
    exact q2 rfl _ d (.of (.new hd)) hd upd_same
end
end K96
end

section
set_option Elab.async false
set_option linter.all false
set_option maxRecDepth 100000
set_option maxHeartbeats 4000000
open PySem PySem.Spec PyProof.Rows L2 CL
local macro_rules | `(tactic| walk_at "rd1") => `(tactic| first
  | (with_reducible refine g_seq ?_) | ((with_reducible apply g_var); rfl) | (with_reducible refine g_c ?_) | (with_reducible refine g_op ?_) | (with_reducible refine g_cons ?_) | (with_reducible refine g_nil ?_)
  | (with_reducible refine g_if ?_) | (with_reducible refine g_ct ?_) | (with_reducible refine g_tr ?_) | (with_reducible refine g_and ?_) | (with_reducible refine g_or ?_) | (with_reducible refine g_not ?_)
  | (with_reducible refine asB_bl ?_) | (with_reducible refine tru_bl ?_) | (with_reducible refine g_ret ?_) | (with_reducible refine g_set ?_) | (with_reducible refine g_fn ?_) | (with_reducible refine g_call ?_)
  | (with_reducible refine g_meth ?_) | (with_reducible refine g_fld ?_) | (with_reducible refine nx_seq ?_) | (with_reducible refine nx_loop ?_) | (with_reducible refine nx_top ?_) | (with_reducible refine rt_seq ?_)
  | (with_reducible refine rt_loop ?_) | (with_reducible refine rt_top ?_) | (with_reducible refine bk_seq ?_) | (with_reducible refine bk_loop ?_) | (with_reducible refine ct_seq ?_) | (with_reducible refine ct_loop ?_)
  | (with_reducible refine g_end ?_) | (with_reducible refine uAdd_i ?_) | (with_reducible refine uSub_i ?_) | (with_reducible refine uEq_i ?_) | (with_reducible refine uEq_s ?_) | (with_reducible refine uNe_i ?_) | (with_reducible refine uNe_s ?_)
  | (with_reducible refine uLt_i ?_) | (with_reducible refine uLe_i ?_) | (with_reducible refine uGt_i ?_) | (with_reducible refine uGe_i ?_) | (with_reducible refine uIs_n ?_) | (with_reducible refine uIsNot_n ?_)
  | (with_reducible refine g_tup ?_) | (with_reducible refine g_lst ?_) | (with_reducible refine g_sl ?_) | (with_reducible refine g_no ?_) | (with_reducible refine g_part ?_) | (with_reducible refine g_ifE ?_) | (with_reducible refine g_ofT ?_)
  | (with_reducible refine g_unp2 ?_) | (with_reducible refine g_put ?_) | (with_reducible refine g_retN ?_) | (with_reducible refine g_drop ?_) | (with_reducible refine g_brk ?_) | (with_reducible refine g_cnt ?_) | (with_reducible refine iAdd_i ?_)
  | ((with_reducible apply g_aug); rfl) | (with_reducible refine g_sto ?_) | (with_reducible refine g_stoA ?_) | (with_reducible refine g_for ?_) | (with_reducible refine g_wh ?_) | (with_reducible refine g_rs ?_) | (with_reducible refine g_rsX ?_)
  | (with_reducible refine g_g ?_) | (with_reducible refine g_g2 ?_) | (with_reducible refine g_callN ?_) | (with_reducible refine g_app ?_) | (with_reducible refine g_join ?_) | (with_reducible refine strA_i ?_) | (with_reducible refine g_it ?_)
  | (with_reducible refine itR_s ?_) | (with_reducible refine g_rng ?_) | (with_reducible refine g_vals ?_) | (with_reducible refine g_zip ?_) | (with_reducible refine g_rep ?_) | (with_reducible refine g_new ?_) | (with_reducible refine g_disp ?_)
  | (with_reducible refine g_andV ?_) | (with_reducible refine g_orV ?_) | (with_reducible refine g_notV ?_) | (with_reducible refine g_un ?_) | (with_reducible refine uNeg_i ?_) | (with_reducible refine g_yes ?_) | (with_reducible refine g_make ?_)
  | (with_reducible refine g_try ?_) | (with_reducible refine g_lc ?_) | (with_reducible refine intR_b ?_) | (with_reducible refine minR_i ?_) | (with_reducible refine tru_int ?_))
local macro_rules | `(tactic| walk_at "rd") => `(tactic| repeat (walk_at "rd1"))
namespace K96
open PySem PySem.Spec PyProof.Rows L2 CL
theorem beg_dec (c : Nat) (l : List Nat) : decide (S (l.take 1) = S [c]) = begins c l := by
  cases l with
  | nil => exact decide_eq_false (by simp [S_eq])
  | cons d r =>
    show _ = decide (d = c)
    by_cases h : d = c
    · subst h; simp
    · simp [S_eq, h]
theorem eat_drop (c : Nat) (l : List Nat) : eat c l = l.drop (if begins c l then 1 else 0) ∧ (if begins c l then 1 else 0) ≤ l.length := by
  cases l with
  | nil => exact ⟨rfl, Nat.zero_le _⟩
  | cons d r =>
    unfold eat
    cases h : begins c (d :: r) with
    | true => exact ⟨rfl, by simp⟩
    | false => exact ⟨rfl, by simp⟩
theorem take_pre {p : Nat → Bool} : ∀ {pre r : List Nat}, (∀ c ∈ pre, p c = true) → (∀ c, r.head? = some c → p c = false) → (pre ++ r).takeWhile p = pre ∧ (pre ++ r).dropWhile p = r
  | [], [], _, _ => ⟨rfl, rfl⟩
  | [], c :: r, _, h => by
    have e := h c rfl
    simp [e]
  | c :: pre, r, h1, h2 => by
    have e := h1 c (by simp)
    obtain ⟨a, b⟩ := take_pre (pre := pre) (r := r) (fun d hd => h1 d (by simp [hd])) h2
    simp [e, a, b]
section
variable {K : PySem.W.Frag} {w : World} {mg : Str → Option Value} (M : MF K mg)
include M
theorem w_Strip_may {H : Hp} {vs : List V} {Q : VK} {E : XK} (h : sp_Strip_may K vs H Q E) : t_Strip_may K w (sp_Strip_sign K) (fun cls d _ H' => E cls d H') (topE Q) (start N_Strip_may vs) H := by
  obtain ⟨v, y, rfl, p, dx, z, l, c, rfl, a, rfl, q⟩ := h
  unfold t_Strip_may
  walk_at "rd"
  refine insR_i a.at_ rfl ?_
  walk_at "rd"
  refine ⟨_, rfl, p, dx, z, l, rfl, a, ?_⟩
  walk_at "rd"
  rw [beg_dec]
  refine ins_at M a ?_
  walk_at "rd"
  refine sto_at M a.at_ ?_
  walk_at "rd"
  obtain ⟨e1, e2⟩ := eat_drop c l
  refine q _ .put ?_
  rw [e1]
  refine a.to _ e2 ?_
  rw [upd_same]
  cases begins c l with
  | true => rfl
  | false => rfl
theorem w_Strip_run {H : Hp} {vs : List V} {Q : VK} {E : XK} (h : sp_Strip_run K vs H Q E) : t_Strip_run K w (sp_Strip_sign K) (fun cls d _ H' => E cls d H') (topE Q) (start N_Strip_run vs) H := by
  obtain ⟨v, y, rfl, p, dx, z, l, cs, rfl, a, rfl, q⟩ := h
  unfold t_Strip_run
  walk_at "rd"
  refine fld_at M a ?_
  walk_at "rd"
  refine wh_m (fun m σ H' => ∃ pre l', σ = [some (.ref p), some (.str (S cs)), some (.int (z.length - l.length : Nat))] ∧ ExtB p H H' ∧ At K p dx z l' H' ∧ m = l'.length ∧ l = pre ++ l' ∧ ∀ c ∈ pre, c ∈ cs) l.length ⟨[], l, rfl, .refl, a, rfl, rfl, by simp⟩ ?_
  rintro m σ H1 ⟨pre, l', rfl, x1, a1, rfl, el, hp⟩
  have fin : (∀ c, l'.head? = some c → decide (c ∈ cs) = false) → dNx (seqE (topE Q) (xRet (xSl (uSl K) (xFld K (xVar 0) "text") (xPart (xVar 2)) (xPart (xFld K (xVar 0) "at"))))) [some (.ref p), some (.str (S cs)), some (.int (z.length - l.length : Nat))] H1 := by
    intro hh
    obtain ⟨h1, h2⟩ := take_pre (p := fun c => decide (c ∈ cs)) (pre := pre) (r := l') (fun c hc => decide_eq_true (hp c hc)) hh
    rw [← el] at h1 h2
    have q := q H1 x1 (by rw [h2]; exact a1)
    rw [h1] at q
    walk_at "rd"
    refine fld_text M a1 ?_
    walk_at "rd"
    refine ⟨_, rfl, ?_⟩
    walk_at "rd"
    refine fld_at M a1 ?_
    refine ⟨_, rfl, ?_⟩
    refine uSl_s (sl (by rw [SX.S_len]; have := a.len; omega)) ?_
    walk_at "rd"
    have e : cutS (S z) (some ((z.length - l.length : Nat) : Int)) (some ((z.length - l'.length : Nat) : Int)) = S pre := by
      unfold cutS
      rw [SX.S_len, HT.sIx_nat, HT.sIx_nat]
      show S _ = S _
      congr 1
      simp only [List.toList_toArray]
      have g1 : min (z.length - l.length) z.length = z.length - l.length := by omega
      have g2 : min (z.length - l'.length) z.length = z.length - l'.length := by omega
      rw [g1, g2, a.suf, el]
      have h3 := a.le
      rw [el, List.length_append] at h3
      have g3 : z.length - l'.length - (z.length - (pre ++ l').length) = pre.length := by
        rw [List.length_append]
        omega
      rw [g3, List.take_left]
    rw [e]
    exact q
  walk_at "rd"
  refine insR_i a1.at_ rfl ?_
  walk_at "rd"
  refine ⟨_, rfl, p, dx, z, l', rfl, a1, ?_⟩
  walk_at "rd"
  cases l' with
  | nil =>
    refine br_f ?_
    refine br_f ?_
    exact fin (by simp)
  | cons c r =>
    refine (show (!decide (S ((c :: r).take 1) = S [])) = true by simp [S_eq]) ▸ br_t ?_
    walk_at "rd"
    refine insR_i a1.at_ rfl ?_
    walk_at "rd"
    refine ⟨_, rfl, p, dx, z, c :: r, rfl, a1, ?_⟩
    walk_at "rd"
    refine uIn_c (c := c) ?_
    walk_at "rd"
    refine br_c (fun h => ?_) (fun h => ?_)
    · walk_at "rd"
      refine ins_at M a1 ?_
      walk_at "rd"
      refine sto_at M a1.at_ ?_
      walk_at "rd"
      refine ⟨r.length, by simp, pre ++ [c], r, rfl, x1.trans .put, ?_, rfl, by rw [el]; simp, ?_⟩
      · exact a1.to 1 (by simp) (by rw [upd_same]; rfl)
      · intro d hd
        rcases List.mem_append.mp hd with hd | hd
        · exact hp d hd
        · rw [List.mem_singleton.mp hd]
          exact of_decide_eq_true h
    · refine fin fun d hd => ?_
      rw [← Option.some.inj hd]
      exact h
end
end K96
end

section
set_option Elab.async false
set_option linter.all false
set_option maxRecDepth 100000
set_option maxHeartbeats 4000000
open PySem PySem.Spec PyProof.Rows L2 CL
local macro_rules | `(tactic| walk_at "rd1") => `(tactic| first
  | (with_reducible refine g_seq ?_) | ((with_reducible apply g_var); rfl) | (with_reducible refine g_c ?_) | (with_reducible refine g_op ?_) | (with_reducible refine g_cons ?_) | (with_reducible refine g_nil ?_)
  | (with_reducible refine g_if ?_) | (with_reducible refine g_ct ?_) | (with_reducible refine g_tr ?_) | (with_reducible refine g_and ?_) | (with_reducible refine g_or ?_) | (with_reducible refine g_not ?_)
  | (with_reducible refine asB_bl ?_) | (with_reducible refine tru_bl ?_) | (with_reducible refine g_ret ?_) | (with_reducible refine g_set ?_) | (with_reducible refine g_fn ?_) | (with_reducible refine g_call ?_)
  | (with_reducible refine g_meth ?_) | (with_reducible refine g_fld ?_) | (with_reducible refine nx_seq ?_) | (with_reducible refine nx_loop ?_) | (with_reducible refine nx_top ?_) | (with_reducible refine rt_seq ?_)
  | (with_reducible refine rt_loop ?_) | (with_reducible refine rt_top ?_) | (with_reducible refine bk_seq ?_) | (with_reducible refine bk_loop ?_) | (with_reducible refine ct_seq ?_) | (with_reducible refine ct_loop ?_)
  | (with_reducible refine g_end ?_) | (with_reducible refine uAdd_i ?_) | (with_reducible refine uSub_i ?_) | (with_reducible refine uEq_i ?_) | (with_reducible refine uEq_s ?_) | (with_reducible refine uNe_i ?_) | (with_reducible refine uNe_s ?_)
  | (with_reducible refine uLt_i ?_) | (with_reducible refine uLe_i ?_) | (with_reducible refine uGt_i ?_) | (with_reducible refine uGe_i ?_) | (with_reducible refine uIs_n ?_) | (with_reducible refine uIsNot_n ?_)
  | (with_reducible refine g_tup ?_) | (with_reducible refine g_lst ?_) | (with_reducible refine g_sl ?_) | (with_reducible refine g_no ?_) | (with_reducible refine g_part ?_) | (with_reducible refine g_ifE ?_) | (with_reducible refine g_ofT ?_)
  | (with_reducible refine g_unp2 ?_) | (with_reducible refine g_put ?_) | (with_reducible refine g_retN ?_) | (with_reducible refine g_drop ?_) | (with_reducible refine g_brk ?_) | (with_reducible refine g_cnt ?_) | (with_reducible refine iAdd_i ?_)
  | ((with_reducible apply g_aug); rfl) | (with_reducible refine g_sto ?_) | (with_reducible refine g_stoA ?_) | (with_reducible refine g_for ?_) | (with_reducible refine g_wh ?_) | (with_reducible refine g_rs ?_) | (with_reducible refine g_rsX ?_)
  | (with_reducible refine g_g ?_) | (with_reducible refine g_g2 ?_) | (with_reducible refine g_callN ?_) | (with_reducible refine g_app ?_) | (with_reducible refine g_join ?_) | (with_reducible refine strA_i ?_) | (with_reducible refine g_it ?_)
  | (with_reducible refine itR_s ?_) | (with_reducible refine g_rng ?_) | (with_reducible refine g_vals ?_) | (with_reducible refine g_zip ?_) | (with_reducible refine g_rep ?_) | (with_reducible refine g_new ?_) | (with_reducible refine g_disp ?_)
  | (with_reducible refine g_andV ?_) | (with_reducible refine g_orV ?_) | (with_reducible refine g_notV ?_) | (with_reducible refine g_un ?_) | (with_reducible refine uNeg_i ?_) | (with_reducible refine g_yes ?_) | (with_reducible refine g_make ?_)
  | (with_reducible refine g_try ?_) | (with_reducible refine g_lc ?_) | (with_reducible refine intR_b ?_) | (with_reducible refine minR_i ?_) | (with_reducible refine tru_int ?_))
local macro_rules | `(tactic| walk_at "rd") => `(tactic| repeat (walk_at "rd1"))
namespace K96
open PySem PySem.Spec PyProof.Rows L2 CL
def numTail (b : Bool) (l1 : List Nat) : CL.R Int := match l1 with
    | [] => .bad []
    | c :: r => if decide (49 ≤ c) && decide (c ≤ 57) then
        (if (l1.takeWhile isFig).length ≤ 600 then .ok (if b then 0 - (NumText.digitsVal (l1.takeWhile isFig) : Int) else NumText.digitsVal (l1.takeWhile isFig)) (l1.dropWhile isFig) else .out)
      else .bad l1
theorem numTail_cons (b : Bool) (c : Nat) (r : List Nat) : numTail b (c :: r) = if decide (49 ≤ c) && decide (c ≤ 57) then
        (if ((c :: r).takeWhile isFig).length ≤ 600 then .ok (if b then 0 - (NumText.digitsVal ((c :: r).takeWhile isFig) : Int) else NumText.digitsVal ((c :: r).takeWhile isFig)) ((c :: r).dropWhile isFig) else .out)
      else .bad (c :: r) := rfl
theorem rdNum_eq (l : List Nat) : rdNum l = if !begins 45 l && begins 48 l then .ok 0 l.tail else numTail (begins 45 l) (eat 45 l) := rfl
theorem fig_dec : (fun c => decide (c ∈ figs)) = isFig := by
  funext c
  have h : (c ∈ figs) ↔ (48 ≤ c ∧ c ≤ 57) := by
    simp only [figs, List.mem_cons, List.not_mem_nil, or_false]
    omega
  unfold isFig
  rw [decide_eq_decide.mpr h, Bool.decide_and]
def sp_Strip_whole_number (K : PySem.W.Frag) : Sp := sp1 fun v H Q E => ∃ p dx z l, v = .ref p ∧ At K p dx z l H ∧ Res K p dx z H Q E (fun i v _ => v = .int i) (rdNum l)
def tl_num (K : PySem.W.Frag) (w : World) (W : WX) : TS := (xSeq (xDrop (xMeth (He.ga K "Strip") "must_be" (sp_Strip_must_be K) [] W (xVar 0) (xCons (xAndV (xOp (uNe K) (xMeth (He.ga K "Strip") "sign" (sp_Strip_sign K) [] W (xVar 0) xNil) (xC (.str (S [])))) (xOp (uIn K w) (xMeth (He.ga K "Strip") "sign" (sp_Strip_sign K) [] W (xVar 0) xNil) (xSl (uSl K) (xC (.str (S [48, 49, 50, 51, 52, 53, 54, 55, 56, 57]))) (xPart (xC (.int 1))) xNo))) xNil)))
    (xSeq (xSet 2 (xFn intR (xCons (xMeth (He.ga K "Strip") "run" (sp_Strip_run K) [] W (xVar 0) (xCons (xC (.str (S [48, 49, 50, 51, 52, 53, 54, 55, 56, 57]))) xNil)) xNil)))
    (xRet (xIfE (xTr K (xVar 1)) (xOp uSub (xC (.int 0)) (xVar 2)) (xVar 2)))))
section
variable {K : PySem.W.Frag} {w : World}
theorem w_tl_num {p dx : Addr} {z l1 : List Nat} {b : Bool} {H : Hp} {Q : VK} {E : XK} (a : At K p dx z l1 H) (q : Res K p dx z H Q E (fun i v _ => v = .int i) (numTail b l1)) :
    tl_num K w (fun cls d _ H' => E cls d H') (topE Q) [some (.ref p), some (.bl b), none] H := by
  unfold tl_num
  walk_at "rd"
  refine insR_i a.at_ rfl ?_
  walk_at "rd"
  refine insR_i a.at_ rfl ?_
  walk_at "rd"
  refine ⟨_, rfl, p, dx, z, l1, rfl, a, ?_⟩
  walk_at "rd"
  cases l1 with
  | nil =>
    refine br_f ?_
    walk_at "rd"
    exact ⟨_, _, rfl, p, dx, z, [], false, rfl, a, rfl, nofun, fun _ => q⟩
  | cons c r =>
    refine (show (!decide (S ((c :: r).take 1) = S [])) = true by simp [S_eq]) ▸ br_t ?_
    walk_at "rd"
    refine insR_i a.at_ rfl ?_
    walk_at "rd"
    refine ⟨_, rfl, p, dx, z, c :: r, rfl, a, ?_⟩
    walk_at "rd"
    refine ⟨1, rfl, ?_⟩
    walk_at "rd"
    refine uSl_s (sl (by rw [SX.S_len]; decide)) ?_
    refine uIn_c (c := c) ?_
    have e : decide (c ∈ (cutS (S [48, 49, 50, 51, 52, 53, 54, 55, 56, 57]) (some 1) none).cps.toList) = (decide (49 ≤ c) && decide (c ≤ 57)) := by
      have h0 : cutS (S [48, 49, 50, 51, 52, 53, 54, 55, 56, 57]) (some 1) none = S [49, 50, 51, 52, 53, 54, 55, 56, 57] := by rfl
      rw [h0]
      have h : (c ∈ (S [49, 50, 51, 52, 53, 54, 55, 56, 57]).cps.toList) ↔ (49 ≤ c ∧ c ≤ 57) := by
        simp only [List.toList_toArray, List.mem_cons, List.not_mem_nil, or_false]
        omega
      rw [decide_eq_decide.mpr h, Bool.decide_and]
    rw [e]
    rw [numTail_cons] at q
    walk_at "rd"
    refine ⟨_, _, rfl, p, dx, z, c :: r, _, rfl, a, rfl, fun hb => ?_, fun hb => ?_⟩
    rotate_left
    · rw [if_neg (by rw [hb]; simp)] at q
      exact q
    rw [if_pos hb] at q
    walk_at "rd"
    refine insR_i a.at_ rfl ?_
    walk_at "rd"
    refine ⟨_, _, rfl, p, dx, z, c :: r, figs, rfl, a, rfl, fun H1 x1 a1 => ?_⟩
    rw [fig_dec] at a1 ⊢
    by_cases hl : ((c :: r).takeWhile isFig).length ≤ 600
    · rw [if_pos hl] at q
      have hall : ((c :: r).takeWhile isFig).all isFig = true := List.all_takeWhile
      have hne : (c :: r).takeWhile isFig ≠ [] := by
        have : isFig c = true := by
          unfold isFig
          rw [Bool.and_eq_true, decide_eq_true_eq, decide_eq_true_eq] at hb ⊢
          omega
        simp [this]
      walk_at "rd"
      refine intR_s (SX.int_S hall hne (by omega)) (by rw [SX.S_len]; omega) ?_
      walk_at "rd"
      cases b with
      | true =>
        refine br_t ?_
        walk_at "rd"
        exact q H1 _ x1 a1 rfl
      | false =>
        refine br_f ?_
        walk_at "rd"
        exact q H1 _ x1 a1 rfl
    · rw [if_neg hl] at q
      exact q.elim
theorem w_Strip_whole_number {H : Hp} {vs : List V} {Q : VK} {E : XK} (h : sp_Strip_whole_number K vs H Q E) :
    t_Strip_whole_number K w (sp_Strip_may K) (sp_Strip_must_be K) (sp_Strip_sign K) (sp_Strip_run K) (fun cls d _ H' => E cls d H') (topE Q) (start N_Strip_whole_number vs) H := by
  obtain ⟨v, rfl, p, dx, z, l, rfl, a, q⟩ := h
  rw [rdNum_eq] at q
  unfold t_Strip_whole_number
  walk_at "rd"
  refine insR_i a.at_ rfl ?_
  walk_at "rd"
  refine ⟨_, _, rfl, p, dx, z, l, 45, rfl, a, rfl, fun H1 x1 a1 => ?_⟩
  walk_at "rd"
  have hp1 : H1 p ≠ none := by rw [a1.at_]; simp
  have lift : ∀ {H1 : Hp} {r : CL.R Int}, ExtB p H H1 → H1 p ≠ none → Res K p dx z H Q E (fun i v _ => v = .int i) r → Res K p dx z H1 Q E (fun i v _ => v = .int i) r := by
    intro H1 r x1 hp1 q
    cases r with
    | ok i r => exact fun H' v x a e => q H' v (x1.trans x) a e
    | bad r => exact Bad.mono q x1 hp1
    | out => exact q
  cases hb : begins 45 l with
  | true =>
    rw [hb] at q
    refine br_f ?_
    refine br_f ?_
    exact g_end (nx_seq (w_tl_num a1 (lift x1 hp1 q)))
  | false =>
    rw [hb] at q
    have e1 : eat 45 l = l := by unfold eat; rw [hb]; rfl
    rw [e1] at a1 q
    refine br_t ?_
    walk_at "rd"
    refine insR_i a1.at_ rfl ?_
    walk_at "rd"
    refine ⟨_, _, rfl, p, dx, z, l, 48, rfl, a1, rfl, fun H2 x2 a2 => ?_⟩
    walk_at "rd"
    have hp2 : H2 p ≠ none := by rw [a2.at_]; simp
    cases hc : begins 48 l with
    | true =>
      rw [hc] at q
      have e2 : eat 48 l = l.tail := by unfold eat; rw [hc]; rfl
      rw [e2] at a2
      refine br_t ?_
      walk_at "rd"
      exact q H2 _ (x1.trans x2) a2 rfl
    | false =>
      rw [hc] at q
      have e2 : eat 48 l = l := by unfold eat; rw [hc]; rfl
      rw [e2] at a2
      refine br_f ?_
      exact g_end (nx_seq (w_tl_num a2 (lift (x1.trans x2) hp2 q)))
end
end K96
end

section
set_option Elab.async false
set_option linter.all false
set_option maxRecDepth 100000
set_option maxHeartbeats 4000000
open PySem PySem.Spec PyProof.Rows L2 CL
local macro_rules | `(tactic| walk_at "rd1") => `(tactic| first
  | (with_reducible refine g_seq ?_) | ((with_reducible apply g_var); rfl) | (with_reducible refine g_c ?_) | (with_reducible refine g_op ?_) | (with_reducible refine g_cons ?_) | (with_reducible refine g_nil ?_)
  | (with_reducible refine g_if ?_) | (with_reducible refine g_ct ?_) | (with_reducible refine g_tr ?_) | (with_reducible refine g_and ?_) | (with_reducible refine g_or ?_) | (with_reducible refine g_not ?_)
  | (with_reducible refine asB_bl ?_) | (with_reducible refine tru_bl ?_) | (with_reducible refine g_ret ?_) | (with_reducible refine g_set ?_) | (with_reducible refine g_fn ?_) | (with_reducible refine g_call ?_)
  | (with_reducible refine g_meth ?_) | (with_reducible refine g_fld ?_) | (with_reducible refine nx_seq ?_) | (with_reducible refine nx_loop ?_) | (with_reducible refine nx_top ?_) | (with_reducible refine rt_seq ?_)
  | (with_reducible refine rt_loop ?_) | (with_reducible refine rt_top ?_) | (with_reducible refine bk_seq ?_) | (with_reducible refine bk_loop ?_) | (with_reducible refine ct_seq ?_) | (with_reducible refine ct_loop ?_)
  | (with_reducible refine g_end ?_) | (with_reducible refine uAdd_i ?_) | (with_reducible refine uSub_i ?_) | (with_reducible refine uEq_i ?_) | (with_reducible refine uEq_s ?_) | (with_reducible refine uNe_i ?_) | (with_reducible refine uNe_s ?_)
  | (with_reducible refine uLt_i ?_) | (with_reducible refine uLe_i ?_) | (with_reducible refine uGt_i ?_) | (with_reducible refine uGe_i ?_) | (with_reducible refine uIs_n ?_) | (with_reducible refine uIsNot_n ?_)
  | (with_reducible refine g_tup ?_) | (with_reducible refine g_lst ?_) | (with_reducible refine g_sl ?_) | (with_reducible refine g_no ?_) | (with_reducible refine g_part ?_) | (with_reducible refine g_ifE ?_) | (with_reducible refine g_ofT ?_)
  | (with_reducible refine g_unp2 ?_) | (with_reducible refine g_put ?_) | (with_reducible refine g_retN ?_) | (with_reducible refine g_drop ?_) | (with_reducible refine g_brk ?_) | (with_reducible refine g_cnt ?_) | (with_reducible refine iAdd_i ?_)
  | ((with_reducible apply g_aug); rfl) | (with_reducible refine g_sto ?_) | (with_reducible refine g_stoA ?_) | (with_reducible refine g_for ?_) | (with_reducible refine g_wh ?_) | (with_reducible refine g_rs ?_) | (with_reducible refine g_rsX ?_)
  | (with_reducible refine g_g ?_) | (with_reducible refine g_g2 ?_) | (with_reducible refine g_callN ?_) | (with_reducible refine g_app ?_) | (with_reducible refine g_join ?_) | (with_reducible refine strA_i ?_) | (with_reducible refine g_it ?_)
  | (with_reducible refine itR_s ?_) | (with_reducible refine g_rng ?_) | (with_reducible refine g_vals ?_) | (with_reducible refine g_zip ?_) | (with_reducible refine g_rep ?_) | (with_reducible refine g_new ?_) | (with_reducible refine g_disp ?_)
  | (with_reducible refine g_andV ?_) | (with_reducible refine g_orV ?_) | (with_reducible refine g_notV ?_) | (with_reducible refine g_un ?_) | (with_reducible refine uNeg_i ?_) | (with_reducible refine g_yes ?_) | (with_reducible refine g_make ?_)
  | (with_reducible refine g_try ?_) | (with_reducible refine g_lc ?_) | (with_reducible refine intR_b ?_) | (with_reducible refine minR_i ?_) | (with_reducible refine tru_int ?_))
local macro_rules | `(tactic| walk_at "rd") => `(tactic| repeat (walk_at "rd1"))
namespace K96
open PySem PySem.Spec PyProof.Rows L2 CL
theorem Res.lift {α : Type} {K : PySem.W.Frag} {p dx : Addr} {z : List Nat} {H H1 : Hp} {Q : VK} {E : XK} {val : α → V → Hp → Prop} {r : CL.R α} (x1 : ExtB p H H1) (hp1 : H1 p ≠ none) (q : Res K p dx z H Q E val r) : Res K p dx z H1 Q E val r := by
  cases r with
  | ok i r => exact fun H' v x a e => q H' v (x1.trans x) a e
  | bad r => exact Bad.mono q x1 hp1
  | out => exact q
theorem At.ne {K : PySem.W.Frag} {p dx : Addr} {z l : List Nat} {H : Hp} (a : At K p dx z l H) : H p ≠ none := by rw [a.at_]; simp
/-- the promise of a method that reads a text -/
def strVal : List Nat → V → Hp → Prop := fun x v _ => v = .str (S x)
def sp_Strip_quoted (K : PySem.W.Frag) : Sp := sp1 fun v H Q E => ∃ p dx z l, v = .ref p ∧ At K p dx z l H ∧ l ≠ [] ∧ Res K p dx z H Q E strVal (rdQuo l)
theorem q_step {acc r : List Nat} {c : Nat} (h1 : c ≠ 39) (h2 : c ≠ 10) (h3 : c ≠ 94) : qLoop acc (c :: r) = qLoop (acc ++ [c]) r := by
  rw [qLoop]
  · exact h1
  · exact h2
  · intro h; exact (h3 h).elim
  · intro _ _ h; exact (h3 h).elim
theorem q_esc {acc r : List Nat} {c : Nat} (h : c = 39 ∨ c = 94 ∨ c = 110) : qLoop acc (94 :: c :: r) = qLoop (acc ++ [if c = 110 then 10 else c]) r := by rw [qLoop, if_pos h]
theorem q_esc0 {acc r : List Nat} {c : Nat} (h : ¬ (c = 39 ∨ c = 94 ∨ c = 110)) : qLoop acc (94 :: c :: r) = .bad (c :: r) := by rw [qLoop, if_neg h]
def tl_quo (K : PySem.W.Frag) (w : World) (W : WX) : TS := (xSeq (xIf (xTr K (xCall sp_is_bare [] W (xCons (xVar 2) xNil)))
    (xSeq (xSto K (xVar 0) "at" (xVar 1))
    (xDrop (xMeth (He.ga K "Strip") "must_be" (sp_Strip_must_be K) [] W (xVar 0) (xCons (xC (.bl false)) xNil))))
    xEnd)
    (xRet (xVar 2)))
section
variable {K : PySem.W.Frag} {w : World} {mg : Str → Option Value} (M : MF K mg)
include M
theorem w_tl_quo {p dx : Addr} {z l0 acc r : List Nat} {o : Option V} {H H1 : Hp} {Q : VK} {E : XK} (a0 : At K p dx z l0 H) (x1 : ExtB p H H1) (a : At K p dx z r H1) (hl : acc.length ≤ z.length)
    (q : Res K p dx z H Q E strVal (if bare acc then .bad l0 else .ok acc r)) :
    tl_quo K w (fun cls d _ H' => E cls d H') (topE Q) [some (.ref p), some (.int (z.length - l0.length : Nat)), some (.str (S acc)), o] H1 := by
  unfold tl_quo
  walk_at "rd"
  have := a0.len
  refine sp1_go ⟨acc, rfl, by omega, fun H2 e2 => ?_⟩
  walk_at "rd"
  have a2 := a.ext e2
  cases hb : bare acc with
  | true =>
    rw [hb] at q
    refine br_t ?_
    walk_at "rd"
    refine sto_at M a2.at_ ?_
    walk_at "rd"
    have a3 : At K p dx z l0 (upd H2 p (.ins (He.ga K "Strip") dx [("text", .str (S z)), ("at", .int (z.length - l0.length : Nat))])) := ⟨upd_same, a0.suf, a0.len⟩
    refine insR_i a3.at_ rfl ?_
    walk_at "rd"
    refine ⟨_, _, rfl, p, dx, z, l0, false, rfl, a3, rfl, nofun, fun _ => ?_⟩
    exact Bad.mono q ((x1.trans (.of e2)).trans .put) a3.ne
  | false =>
    rw [hb] at q
    refine br_f ?_
    walk_at "rd"
    exact q H2 _ (x1.trans (.of e2)) a2 rfl
theorem w_Strip_quoted {H : Hp} {vs : List V} {Q : VK} {E : XK} (h : sp_Strip_quoted K vs H Q E) :
    t_Strip_quoted K w (sp_Strip_may K) (sp_Strip_must_be K) (sp_Strip_sign K) sp_is_bare (fun cls d _ H' => E cls d H') (topE Q) (start N_Strip_quoted vs) H := by
  obtain ⟨v, rfl, p, dx, z, l, rfl, a, hne, q⟩ := h
  unfold t_Strip_quoted
  obtain ⟨c0, l0, rfl⟩ : ∃ c0 l0, l = c0 :: l0 := by
    cases l with
    | nil => exact (hne rfl).elim
    | cons c r => exact ⟨c, r, rfl⟩
  walk_at "rd"
  refine fld_at M a ?_
  walk_at "rd"
  refine ins_at M a ?_
  walk_at "rd"
  refine sto_at M a.at_ ?_
  walk_at "rd"
  have a1 : At K p dx z l0 (upd H p (.ins (He.ga K "Strip") dx [("text", .str (S z)), ("at", .int ((z.length - (c0 :: l0).length : Nat) + 1))])) := a.to 1 (by simp) (by rw [upd_same]; rfl)
  generalize hH1 : upd H p (.ins (He.ga K "Strip") dx [("text", .str (S z)), ("at", .int ((z.length - (c0 :: l0).length : Nat) + 1))]) = H1 at a1
  have x1 : ExtB p H H1 := by rw [← hH1]; exact .put
  have hq : rdQuo (c0 :: l0) = (match qLoop [] l0 with
    | .ok x r => if bare x then .bad (c0 :: l0) else .ok x r
    | .bad r => .bad r
    | .out => .out) := rfl
  rw [hq] at q
  refine wh_m (fun m σ H' => ∃ acc l' o, σ = [some (.ref p), some (.int (z.length - (c0 :: l0).length : Nat)), some (.str (S acc)), o] ∧ ExtB p H H' ∧ At K p dx z l' H' ∧ m = l'.length ∧ acc.length + l'.length ≤ z.length ∧ qLoop acc l' = qLoop [] l0) l0.length
    ⟨[], l0, none, rfl, x1, a1, rfl, by simpa using a1.le, rfl⟩ ?_
  rintro m σ H2 ⟨acc, l', o, rfl, x2, a2, rfl, hlen, hloop⟩
  rw [← hloop] at q
  walk_at "rd"
  refine insR_i a2.at_ rfl ?_
  walk_at "rd"
  refine ⟨_, _, rfl, p, dx, z, l', 39, rfl, a2, rfl, fun H3 x3 a3 => ?_⟩
  walk_at "rd"
  have hz := a.len
  cases l' with
  | nil =>
    refine br_t ?_
    walk_at "rd"
    refine insR_i a3.at_ rfl ?_
    walk_at "rd"
    refine insR_i a3.at_ rfl ?_
    walk_at "rd"
    refine ⟨_, rfl, p, dx, z, [], rfl, a3, ?_⟩
    walk_at "rd"
    refine br_f ?_
    walk_at "rd"
    exact ⟨_, _, rfl, p, dx, z, [], false, rfl, a3, rfl, nofun, fun _ => Bad.mono q (x2.trans x3) a3.ne⟩
  | cons c r =>
    by_cases h39 : c = 39
    · subst h39
      refine br_f ?_
      exact nx_seq (w_tl_quo (w := w) M a (x2.trans x3) a3 (by simp only [List.length_cons] at hlen; omega) q)
    have e39 : begins 39 (c :: r) = false := decide_eq_false h39
    rw [e39]
    have e3 : eat 39 (c :: r) = c :: r := by unfold eat; rw [e39]; rfl
    rw [e3] at a3
    refine br_t ?_
    walk_at "rd"
    refine insR_i a3.at_ rfl ?_
    walk_at "rd"
    refine insR_i a3.at_ rfl ?_
    walk_at "rd"
    refine ⟨_, rfl, p, dx, z, c :: r, rfl, a3, ?_⟩
    walk_at "rd"
    refine (show (!decide (S ((c :: r).take 1) = S [])) = true by simp [S_eq]) ▸ br_t ?_
    walk_at "rd"
    refine insR_i a3.at_ rfl ?_
    walk_at "rd"
    refine ⟨_, rfl, p, dx, z, c :: r, rfl, a3, ?_⟩
    walk_at "rd"
    by_cases h10 : c = 10
    · subst h10
      exact ⟨_, _, rfl, p, dx, z, 10 :: r, false, rfl, a3, rfl, nofun, fun _ => Bad.mono q (x2.trans x3) a3.ne⟩
    refine ⟨_, _, rfl, p, dx, z, c :: r, true, rfl, a3, by simp [S_eq, h10], fun _ => ?_, nofun⟩
    walk_at "rd"
    refine insR_i a3.at_ rfl ?_
    walk_at "rd"
    refine ⟨_, _, rfl, p, dx, z, c :: r, 94, rfl, a3, rfl, fun H4 x4 a4 => ?_⟩
    walk_at "rd"
    refine insR_i a4.at_ rfl ?_
    walk_at "rd"
    -- the last two statements
    have last : ∀ (b : Bool) (c' : Nat) (r' : List Nat) (y : Nat), At K p dx z (c' :: r') H4 → y = (if b && decide (c' = 110) then 10 else c') → r'.length < (c :: r).length → acc.length + 1 + r'.length ≤ z.length → qLoop (acc ++ [y]) r' = qLoop acc (c :: r) →
        dNx (seqE (loopE (seqE (topE Q) (tl_quo K w fun cls d _ H' => E cls d H')) fun σ' H' => ∃ m', m' < (c :: r).length ∧ ∃ acc l' o, σ' = [some (.ref p), some (.int (z.length - (c0 :: l0).length : Nat)), some (.str (S acc)), o] ∧ ExtB p H H' ∧ At K p dx z l' H' ∧ m' = l'.length ∧ acc.length + l'.length ≤ z.length ∧ qLoop acc l' = qLoop [] l0)
          (xSeq (xAug 2 iAdd (xIfE (xAnd (xTr K (xVar 3)) (xCt (xOp (uEq K) (xMeth (He.ga K "Strip") "sign" (sp_Strip_sign K) [] (fun cls d _ H' => E cls d H') (xVar 0) xNil) (xC (.str (S [110])))))) (xC (.str (S [10]))) (xMeth (He.ga K "Strip") "sign" (sp_Strip_sign K) [] (fun cls d _ H' => E cls d H') (xVar 0) xNil)))
            (xStoA K (xVar 0) "at" iAdd (xC (.int 1)))))
          [some (.ref p), some (.int (z.length - (c0 :: l0).length : Nat)), some (.str (S acc)), some (.bl b)] H4 := by
      intro b c' r' y a4 hy hr hl hq
      have fin : ∀ (k : List Nat), k = [y] → iAdd (.str (S acc)) (.str (S k)) H4 fun z_1 H2 => dNx (seqE (loopE (seqE (topE Q) (tl_quo K w fun cls d _ H' => E cls d H')) fun σ' H' => ∃ m', m' < (c :: r).length ∧ ∃ acc l' o, σ' = [some (.ref p), some (.int (z.length - (c0 :: l0).length : Nat)), some (.str (S acc)), o] ∧ ExtB p H H' ∧ At K p dx z l' H' ∧ m' = l'.length ∧ acc.length + l'.length ≤ z.length ∧ qLoop acc l' = qLoop [] l0) (xStoA K (xVar 0) "at" iAdd (xC (.int 1))))
          ([some (.ref p), some (.int (z.length - (c0 :: l0).length : Nat)), some (.str (S acc)), some (.bl b)].set 2 (some z_1)) H2 := by
        rintro k rfl
        refine iAdd_s (by rw [SX.S_len, SX.S_len]; exact sl (by simp; omega)) ?_
        rw [SX.S_cat]
        walk_at "rd"
        refine ins_at M a4 ?_
        walk_at "rd"
        refine sto_at M a4.at_ ?_
        walk_at "rd"
        exact ⟨r'.length, hr, acc ++ [y], r', _, rfl, ((x2.trans x3).trans x4).trans .put, a4.to 1 (by simp) (by rw [upd_same]; rfl), rfl, by simp; omega, hq.trans hloop⟩
      walk_at "rd"
      cases b with
      | false =>
        refine br_f ?_
        refine br_f ?_
        walk_at "rd"
        refine insR_i a4.at_ rfl ?_
        walk_at "rd"
        refine ⟨_, rfl, p, dx, z, c' :: r', rfl, a4, ?_⟩
        exact fin _ (by rw [hy]; rfl)
      | true =>
        refine br_t ?_
        walk_at "rd"
        refine insR_i a4.at_ rfl ?_
        walk_at "rd"
        refine ⟨_, rfl, p, dx, z, c' :: r', rfl, a4, ?_⟩
        walk_at "rd"
        by_cases h110 : c' = 110
        · subst h110
          refine br_t ?_
          walk_at "rd"
          exact fin _ (by rw [hy]; rfl)
        · refine (show decide (S ((c' :: r').take 1) = S [110]) = false by simp [S_eq, h110]) ▸ br_f ?_
          walk_at "rd"
          refine insR_i a4.at_ rfl ?_
          walk_at "rd"
          refine ⟨_, rfl, p, dx, z, c' :: r', rfl, a4, ?_⟩
          exact fin _ (by rw [hy]; simp [h110])
    simp only [List.length_cons] at hlen
    by_cases h94 : c = 94
    · subst h94
      have e4 : eat 94 (94 :: r) = r := rfl
      rw [e4] at a4
      refine br_f ?_
      walk_at "rd"
      refine insR_i a4.at_ rfl ?_
      walk_at "rd"
      refine ⟨_, rfl, p, dx, z, r, rfl, a4, ?_⟩
      walk_at "rd"
      cases r with
      | nil =>
        refine br_f ?_
        walk_at "rd"
        exact ⟨_, _, rfl, p, dx, z, [], false, rfl, a4, rfl, nofun, fun _ => Bad.mono q ((x2.trans x3).trans x4) a4.ne⟩
      | cons c2 r2 =>
        refine (show (!decide (S ((c2 :: r2).take 1) = S [])) = true by simp [S_eq]) ▸ br_t ?_
        walk_at "rd"
        refine insR_i a4.at_ rfl ?_
        walk_at "rd"
        refine ⟨_, rfl, p, dx, z, c2 :: r2, rfl, a4, ?_⟩
        walk_at "rd"
        refine uIn_c (c := c2) ?_
        walk_at "rd"
        by_cases hin : c2 = 39 ∨ c2 = 94 ∨ c2 = 110
        · refine ⟨_, _, rfl, p, dx, z, c2 :: r2, true, rfl, a4, ?_, fun _ => ?_, nofun⟩
          · have : c2 ∈ (S [39, 94, 110]).cps.toList := by simpa using hin
            rw [decide_eq_true this]
          · refine last true c2 r2 (if c2 = 110 then 10 else c2) a4 (by by_cases h : c2 = 110 <;> simp [h]) (by simp only [List.length_cons]; omega) (by simp at hlen ⊢; omega) (q_esc hin).symm
        · refine ⟨_, _, rfl, p, dx, z, c2 :: r2, false, rfl, a4, ?_, nofun, fun _ => ?_⟩
          · have : ¬ c2 ∈ (S [39, 94, 110]).cps.toList := by simpa using hin
            rw [decide_eq_false this]
          · rw [q_esc0 hin] at q
            exact Bad.mono q ((x2.trans x3).trans x4) a4.ne
    · have e94 : begins 94 (c :: r) = false := decide_eq_false h94
      have e4 : eat 94 (c :: r) = c :: r := by unfold eat; rw [e94]; rfl
      rw [e4] at a4
      rw [e94]
      refine br_t ?_
      walk_at "rd"
      refine ⟨_, _, rfl, p, dx, z, c :: r, true, rfl, a4, rfl, fun _ => ?_, nofun⟩
      exact last false c r c a4 (by simp) (by simp) (by omega) (q_step h39 h10 h94).symm
end
end K96
end

section
set_option Elab.async false
set_option linter.all false
set_option maxRecDepth 100000
set_option maxHeartbeats 4000000
open PySem PySem.Spec PyProof.Rows L2 CL
local macro_rules | `(tactic| walk_at "rd1") => `(tactic| first
  | (with_reducible refine g_seq ?_) | ((with_reducible apply g_var); rfl) | (with_reducible refine g_c ?_) | (with_reducible refine g_op ?_) | (with_reducible refine g_cons ?_) | (with_reducible refine g_nil ?_)
  | (with_reducible refine g_if ?_) | (with_reducible refine g_ct ?_) | (with_reducible refine g_tr ?_) | (with_reducible refine g_and ?_) | (with_reducible refine g_or ?_) | (with_reducible refine g_not ?_)
  | (with_reducible refine asB_bl ?_) | (with_reducible refine tru_bl ?_) | (with_reducible refine g_ret ?_) | (with_reducible refine g_set ?_) | (with_reducible refine g_fn ?_) | (with_reducible refine g_call ?_)
  | (with_reducible refine g_meth ?_) | (with_reducible refine g_fld ?_) | (with_reducible refine nx_seq ?_) | (with_reducible refine nx_loop ?_) | (with_reducible refine nx_top ?_) | (with_reducible refine rt_seq ?_)
  | (with_reducible refine rt_loop ?_) | (with_reducible refine rt_top ?_) | (with_reducible refine bk_seq ?_) | (with_reducible refine bk_loop ?_) | (with_reducible refine ct_seq ?_) | (with_reducible refine ct_loop ?_)
  | (with_reducible refine g_end ?_) | (with_reducible refine uAdd_i ?_) | (with_reducible refine uSub_i ?_) | (with_reducible refine uEq_i ?_) | (with_reducible refine uEq_s ?_) | (with_reducible refine uNe_i ?_) | (with_reducible refine uNe_s ?_)
  | (with_reducible refine uLt_i ?_) | (with_reducible refine uLe_i ?_) | (with_reducible refine uGt_i ?_) | (with_reducible refine uGe_i ?_) | (with_reducible refine uIs_n ?_) | (with_reducible refine uIsNot_n ?_)
  | (with_reducible refine g_tup ?_) | (with_reducible refine g_lst ?_) | (with_reducible refine g_sl ?_) | (with_reducible refine g_no ?_) | (with_reducible refine g_part ?_) | (with_reducible refine g_ifE ?_) | (with_reducible refine g_ofT ?_)
  | (with_reducible refine g_unp2 ?_) | (with_reducible refine g_put ?_) | (with_reducible refine g_retN ?_) | (with_reducible refine g_drop ?_) | (with_reducible refine g_brk ?_) | (with_reducible refine g_cnt ?_) | (with_reducible refine iAdd_i ?_)
  | ((with_reducible apply g_aug); rfl) | (with_reducible refine g_sto ?_) | (with_reducible refine g_stoA ?_) | (with_reducible refine g_for ?_) | (with_reducible refine g_wh ?_) | (with_reducible refine g_rs ?_) | (with_reducible refine g_rsX ?_)
  | (with_reducible refine g_g ?_) | (with_reducible refine g_g2 ?_) | (with_reducible refine g_callN ?_) | (with_reducible refine g_app ?_) | (with_reducible refine g_join ?_) | (with_reducible refine strA_i ?_) | (with_reducible refine g_it ?_)
  | (with_reducible refine itR_s ?_) | (with_reducible refine g_rng ?_) | (with_reducible refine g_vals ?_) | (with_reducible refine g_zip ?_) | (with_reducible refine g_rep ?_) | (with_reducible refine g_new ?_) | (with_reducible refine g_disp ?_)
  | (with_reducible refine g_andV ?_) | (with_reducible refine g_orV ?_) | (with_reducible refine g_notV ?_) | (with_reducible refine g_un ?_) | (with_reducible refine uNeg_i ?_) | (with_reducible refine g_yes ?_) | (with_reducible refine g_make ?_)
  | (with_reducible refine g_try ?_) | (with_reducible refine g_lc ?_) | (with_reducible refine intR_b ?_) | (with_reducible refine minR_i ?_) | (with_reducible refine tru_int ?_))
local macro_rules | `(tactic| walk_at "rd") => `(tactic| repeat (walk_at "rd1"))
namespace K96
open PySem PySem.Spec PyProof.Rows L2 CL
def ahV : Option (List Nat) → V
  | none => .non
  | some a => .str (S a)
def sp_Strip_key (K : PySem.W.Frag) : Sp := sp2 fun v y H Q E => ∃ p dx z l ah, v = .ref p ∧ At K p dx z l H ∧ y = ahV ah ∧ Res K p dx z H Q E strVal (rdKey ah l)
def late (ah : Option (List Nat)) (x : List Nat) : Bool := match ah with
      | none => false
      | some a => !decide (a < x)
def keyTail (ah : Option (List Nat)) (l : List Nat) (x r : List Nat) : CL.R (List Nat) := if late ah x then .bad l else if begins 39 l || bare x then .ok x r else .bad r
theorem rdKey_eq (ah : Option (List Nat)) (l : List Nat) : rdKey ah l = match (if begins 39 l then rdQuo l else .ok (l.takeWhile isSm) (l.dropWhile isSm)) with
  | .ok x r => keyTail ah l x r
  | .bad r => .bad r
  | .out => .out := rfl
theorem sm_dec : (fun c => decide (c ∈ smalls)) = isSm := funext smalls_dec
def tl_key (K : PySem.W.Frag) (w : World) (W : WX) : TS := (xSeq (xIf (xAnd (xCt (xOp uIsNot (xVar 1) (xC .non))) (xCt (xOp uLe (xVar 4) (xVar 1))))
    (xSeq (xSto K (xVar 0) "at" (xVar 2))
    (xDrop (xMeth (He.ga K "Strip") "must_be" (sp_Strip_must_be K) [] W (xVar 0) (xCons (xC (.bl false)) xNil))))
    xEnd)
    (xSeq (xDrop (xMeth (He.ga K "Strip") "must_be" (sp_Strip_must_be K) [] W (xVar 0) (xCons (xOrV (xVar 3) (xCall sp_is_bare [] W (xCons (xVar 4) xNil))) xNil)))
    (xRet (xVar 4))))
def tl_key2 (K : PySem.W.Frag) (w : World) (W : WX) : TS := (xSeq (xDrop (xMeth (He.ga K "Strip") "must_be" (sp_Strip_must_be K) [] W (xVar 0) (xCons (xOrV (xVar 3) (xCall sp_is_bare [] W (xCons (xVar 4) xNil))) xNil)))
    (xRet (xVar 4)))
theorem qh_len : ∀ (l acc x r : List Nat), qLoop acc l = .ok x r → x.length ≤ acc.length + l.length
  | [], acc, x, r, h => by simp [qLoop] at h
  | c :: l, acc, x, r, h => by
    by_cases h39 : c = 39
    · subst h39
      simp only [qLoop, R.ok.injEq] at h
      rw [← h.1]
      omega
    by_cases h10 : c = 10
    · subst h10; simp [qLoop] at h
    by_cases h94 : c = 94
    · subst h94
      cases l with
      | nil => simp [qLoop] at h
      | cons c2 r2 =>
        by_cases hin : c2 = 39 ∨ c2 = 94 ∨ c2 = 110
        · rw [q_esc hin] at h
          have := qh_len r2 _ x r h
          simp only [List.length_append, List.length_cons, List.length_nil] at this ⊢
          omega
        · rw [q_esc0 hin] at h
          cases h
    · rw [q_step h39 h10 h94] at h
      have := qh_len l _ x r h
      simp only [List.length_append, List.length_cons, List.length_nil] at this ⊢
      omega
section
variable {K : PySem.W.Frag} {w : World} {mg : Str → Option Value} (M : MF K mg)
include M
theorem w_tl_key2 {p dx : Addr} {z l x r : List Nat} {av bv : V} {H H1 : Hp} {Q : VK} {E : XK} (x1 : ExtB p H H1) (a : At K p dx z r H1) (hx : x.length ≤ 1000000)
    (q : Res K p dx z H Q E strVal (if begins 39 l || bare x then .ok x r else .bad r)) :
    tl_key2 K w (fun cls d _ H' => E cls d H') (topE Q) [some (.ref p), some av, some bv, some (.bl (begins 39 l)), some (.str (S x))] H1 := by
  unfold tl_key2
  walk_at "rd"
  refine insR_i a.at_ rfl ?_
  walk_at "rd"
  cases hb : begins 39 l with
  | true =>
    rw [hb] at q
    refine br_t ?_
    walk_at "rd"
    refine ⟨_, _, rfl, p, dx, z, r, true, rfl, a, rfl, fun _ => ?_, nofun⟩
    walk_at "rd"
    exact q H1 _ x1 a rfl
  | false =>
    rw [hb] at q
    refine br_f ?_
    walk_at "rd"
    refine sp1_go ⟨x, rfl, hx, fun H2 e2 => ?_⟩
    walk_at "rd"
    have a2 := a.ext e2
    refine ⟨_, _, rfl, p, dx, z, r, bare x, rfl, a2, rfl, fun h => ?_, fun h => ?_⟩
    · rw [h] at q
      walk_at "rd"
      exact q H2 _ (x1.trans (.of e2)) a2 rfl
    · rw [h] at q
      exact Bad.mono q (x1.trans (.of e2)) a2.ne
theorem w_tl_key {p dx : Addr} {z l x r : List Nat} {ah : Option (List Nat)} {H H1 : Hp} {Q : VK} {E : XK} (a0 : At K p dx z l H) (x1 : ExtB p H H1) (a : At K p dx z r H1) (hx : x.length ≤ 1000000) (q : Res K p dx z H Q E strVal (keyTail ah l x r)) :
    tl_key K w (fun cls d _ H' => E cls d H') (topE Q) [some (.ref p), some (ahV ah), some (.int (z.length - l.length : Nat)), some (.bl (begins 39 l)), some (.str (S x))] H1 := by
  unfold tl_key
  unfold keyTail at q
  walk_at "rd"
  cases ah with
  | none =>
    refine br_f ?_
    refine br_f ?_
    exact g_end (nx_seq (w_tl_key2 (w := w) M x1 a hx q))
  | some b =>
    refine br_t ?_
    walk_at "rd"
    refine uLe_s (z := S x) (z' := S b) ?_
    walk_at "rd"
    have e : (!decide ((S b).cps.toList < (S x).cps.toList)) = late (some b) x := by simp [late]
    rw [e]
    cases hl : late (some b) x with
    | true =>
      rw [hl] at q
      refine br_t ?_
      walk_at "rd"
      refine sto_at M a.at_ ?_
      walk_at "rd"
      have a3 : At K p dx z l (upd H1 p (.ins (He.ga K "Strip") dx [("text", .str (S z)), ("at", .int (z.length - l.length : Nat))])) := ⟨upd_same, a0.suf, a0.len⟩
      refine insR_i a3.at_ rfl ?_
      walk_at "rd"
      exact ⟨_, _, rfl, p, dx, z, l, false, rfl, a3, rfl, nofun, fun _ => Bad.mono q (x1.trans .put) a3.ne⟩
    | false =>
      rw [hl] at q
      refine br_f ?_
      exact g_end (nx_seq (w_tl_key2 (w := w) M x1 a hx q))
theorem w_Strip_key {H : Hp} {vs : List V} {Q : VK} {E : XK} (h : sp_Strip_key K vs H Q E) :
    t_Strip_key K w (sp_Strip_sign K) (sp_Strip_quoted K) (sp_Strip_run K) (sp_Strip_must_be K) sp_is_bare (fun cls d _ H' => E cls d H') (topE Q) (start N_Strip_key vs) H := by
  obtain ⟨v, y, rfl, p, dx, z, l, ah, rfl, a, rfl, q⟩ := h
  rw [rdKey_eq] at q
  unfold t_Strip_key
  walk_at "rd"
  refine fld_at M a ?_
  walk_at "rd"
  refine insR_i a.at_ rfl ?_
  walk_at "rd"
  refine ⟨_, rfl, p, dx, z, l, rfl, a, ?_⟩
  walk_at "rd"
  rw [beg_dec]
  have hz := a.len
  have hle := a.le
  cases hb : begins 39 l with
  | true =>
    rw [hb, if_pos rfl] at q
    refine br_t ?_
    walk_at "rd"
    refine insR_i a.at_ rfl ?_
    walk_at "rd"
    refine ⟨_, rfl, p, dx, z, l, rfl, a, fun e => (by rw [e] at hb; cases hb), ?_⟩
    cases hq : rdQuo l with
    | ok x r =>
      rw [hq] at q
      intro H1 v x1 a1 hv
      obtain rfl : v = .str (S x) := hv
      refine nx_seq ?_
      have hx : x.length ≤ 1000000 := by
        have h2 : qLoop [] l.tail = .ok x r := by
          unfold rdQuo at hq
          cases h3 : qLoop [] l.tail with
          | ok x' r' =>
            rw [h3] at hq
            by_cases hbx : bare x' = true
            · simp only [hbx, if_true] at hq; cases hq
            · simp only [hbx] at hq; cases hq; rfl
          | bad _ => rw [h3] at hq; cases hq
          | out => rw [h3] at hq; cases hq
        have h4 := qh_len _ _ _ _ h2
        simp only [List.length_nil, List.length_tail] at h4
        omega
      have t := w_tl_key (w := w) (ah := ah) M a x1 a1 hx q
      rw [hb] at t
      exact t
    | bad r =>
      rw [hq] at q
      exact q
    | out =>
      rw [hq] at q
      exact q
  | false =>
    rw [hb, if_neg (by simp)] at q
    refine br_f ?_
    walk_at "rd"
    refine insR_i a.at_ rfl ?_
    walk_at "rd"
    refine ⟨_, _, rfl, p, dx, z, l, smalls, rfl, a, rfl, fun H1 x1 a1 => ?_⟩
    rw [sm_dec] at a1 ⊢
    refine nx_seq ?_
    have hx : (l.takeWhile isSm).length ≤ 1000000 := by
      have := (List.takeWhile_prefix (l := l) isSm).length_le
      omega
    have t := w_tl_key (w := w) (ah := ah) M a x1 a1 hx q
    rw [hb] at t
    exact t
end
end K96
end

section
set_option Elab.async false
set_option linter.all false
set_option maxRecDepth 100000
set_option maxHeartbeats 4000000
open PySem PySem.Spec PyProof.Rows L2 CL
local macro_rules | `(tactic| walk_at "rd1") => `(tactic| first
  | (with_reducible refine g_seq ?_) | ((with_reducible apply g_var); rfl) | (with_reducible refine g_c ?_) | (with_reducible refine g_op ?_) | (with_reducible refine g_cons ?_) | (with_reducible refine g_nil ?_)
  | (with_reducible refine g_if ?_) | (with_reducible refine g_ct ?_) | (with_reducible refine g_tr ?_) | (with_reducible refine g_and ?_) | (with_reducible refine g_or ?_) | (with_reducible refine g_not ?_)
  | (with_reducible refine asB_bl ?_) | (with_reducible refine tru_bl ?_) | (with_reducible refine g_ret ?_) | (with_reducible refine g_set ?_) | (with_reducible refine g_fn ?_) | (with_reducible refine g_call ?_)
  | (with_reducible refine g_meth ?_) | (with_reducible refine g_fld ?_) | (with_reducible refine nx_seq ?_) | (with_reducible refine nx_loop ?_) | (with_reducible refine nx_top ?_) | (with_reducible refine rt_seq ?_)
  | (with_reducible refine rt_loop ?_) | (with_reducible refine rt_top ?_) | (with_reducible refine bk_seq ?_) | (with_reducible refine bk_loop ?_) | (with_reducible refine ct_seq ?_) | (with_reducible refine ct_loop ?_)
  | (with_reducible refine g_end ?_) | (with_reducible refine uAdd_i ?_) | (with_reducible refine uSub_i ?_) | (with_reducible refine uEq_i ?_) | (with_reducible refine uEq_s ?_) | (with_reducible refine uNe_i ?_) | (with_reducible refine uNe_s ?_)
  | (with_reducible refine uLt_i ?_) | (with_reducible refine uLe_i ?_) | (with_reducible refine uGt_i ?_) | (with_reducible refine uGe_i ?_) | (with_reducible refine uIs_n ?_) | (with_reducible refine uIsNot_n ?_)
  | (with_reducible refine g_tup ?_) | (with_reducible refine g_lst ?_) | (with_reducible refine g_sl ?_) | (with_reducible refine g_no ?_) | (with_reducible refine g_part ?_) | (with_reducible refine g_ifE ?_) | (with_reducible refine g_ofT ?_)
  | (with_reducible refine g_unp2 ?_) | (with_reducible refine g_put ?_) | (with_reducible refine g_retN ?_) | (with_reducible refine g_drop ?_) | (with_reducible refine g_brk ?_) | (with_reducible refine g_cnt ?_) | (with_reducible refine iAdd_i ?_)
  | ((with_reducible apply g_aug); rfl) | (with_reducible refine g_sto ?_) | (with_reducible refine g_stoA ?_) | (with_reducible refine g_for ?_) | (with_reducible refine g_wh ?_) | (with_reducible refine g_rs ?_) | (with_reducible refine g_rsX ?_)
  | (with_reducible refine g_g ?_) | (with_reducible refine g_g2 ?_) | (with_reducible refine g_callN ?_) | (with_reducible refine g_app ?_) | (with_reducible refine g_join ?_) | (with_reducible refine strA_i ?_) | (with_reducible refine g_it ?_)
  | (with_reducible refine itR_s ?_) | (with_reducible refine g_rng ?_) | (with_reducible refine g_vals ?_) | (with_reducible refine g_zip ?_) | (with_reducible refine g_rep ?_) | (with_reducible refine g_new ?_) | (with_reducible refine g_disp ?_)
  | (with_reducible refine g_andV ?_) | (with_reducible refine g_orV ?_) | (with_reducible refine g_notV ?_) | (with_reducible refine g_un ?_) | (with_reducible refine uNeg_i ?_) | (with_reducible refine g_yes ?_) | (with_reducible refine g_make ?_)
  | (with_reducible refine g_try ?_) | (with_reducible refine g_lc ?_) | (with_reducible refine intR_b ?_) | (with_reducible refine minR_i ?_) | (with_reducible refine tru_int ?_))
local macro_rules | `(tactic| walk_at "rd") => `(tactic| repeat (walk_at "rd1"))
namespace K96
open PySem PySem.Spec PyProof.Rows L2 CL
def thVal (H : Hp) : D → V → Hp → Prop := fun d v H' => Rep (fresh H H') v d
def thsVal (H : Hp) : List D → V → Hp → Prop := fun ds v H' => ∃ a vs, v = .ref a ∧ H a = none ∧ H' a = some (.lst vs) ∧ Reps (del (fresh H H') a) vs ds
def prVal (H : Hp) : List (List Nat) × List D → V → Hp → Prop := fun x v H' => ∃ a kvs, v = .ref a ∧ H a = none ∧ H' a = some (.dK kvs) ∧ kvs.map (·.1) = x.1.map keyS ∧ RepK (del (fresh H H') a) kvs x.1 x.2
def sp_Strip_thing (K : PySem.W.Frag) : Nat → Sp
  | 0 => fun _ _ _ _ => False
  | n + 1 => sp2 fun v y H Q E => ∃ p dx z l k, v = .ref p ∧ At K p dx z l H ∧ y = .int (k : Nat) ∧ k ≤ n ∧ Res K p dx z H Q E (thVal H) (rdThing k l)
def sp_Strip_things (K : PySem.W.Frag) : Nat → Sp
  | 0 => fun _ _ _ _ => False
  | n + 1 => sp3 fun v e y H Q E => ∃ p dx z l c k, v = .ref p ∧ At K p dx z l H ∧ e = .str (S [c]) ∧ y = .int (k : Nat) ∧ k ≤ n ∧ Res K p dx z H Q E (thsVal H) (rdThings (rdThing k) c (l.length + 1) [] l)
def sp_Strip_pairs (K : PySem.W.Frag) : Nat → Sp
  | 0 => fun _ _ _ _ => False
  | n + 1 => sp2 fun v y H Q E => ∃ p dx z l k, v = .ref p ∧ At K p dx z l H ∧ y = .int (k : Nat) ∧ k ≤ n ∧ Res K p dx z H Q E (prVal H) (rdPairs (rdThing k) (l.length + 1) none [] [] l)
theorem rdThing_nil (k : Nat) : rdThing k [] = .bad [] := by cases k <;> rfl
def rdCon : Nat → Nat → List Nat → CL.R D
  | 0, c, r => .bad (c :: r)
  | k + 1, c, r => if c = 123 then (match rdPairs (rdThing k) (r.length + 1) none [] [] r with
            | .ok (ks, ds) r => .ok (.con .dct ks ds) r
            | .bad r => .bad r
            | .out => .out)
          else (match rdThings (rdThing k) (if c = 40 then 41 else 93) (r.length + 1) [] r with
            | .ok ds r => .ok (.con (if c = 40 then .tup else .lst) [] ds) r
            | .bad r => .bad r
            | .out => .out)
theorem rdCon_succ (k c : Nat) (r : List Nat) : rdCon (k + 1) c r = if c = 123 then (match rdPairs (rdThing k) (r.length + 1) none [] [] r with
            | .ok (ks, ds) r => .ok (.con .dct ks ds) r
            | .bad r => .bad r
            | .out => .out)
          else (match rdThings (rdThing k) (if c = 40 then 41 else 93) (r.length + 1) [] r with
            | .ok ds r => .ok (.con (if c = 40 then .tup else .lst) [] ds) r
            | .bad r => .bad r
            | .out => .out) := rfl
theorem rdThing_cons (k c : Nat) (r : List Nat) : rdThing k (c :: r) = if c = 39 then (match rdQuo (c :: r) with
        | .ok x r => .ok (.str x) r
        | .bad r => .bad r
        | .out => .out)
      else if isSm c then .ok ((kept ((c :: r).takeWhile isSm)).getD (.str ((c :: r).takeWhile isSm))) ((c :: r).dropWhile isSm)
      else if ¬ (c = 40 ∨ c = 91 ∨ c = 123) then (match rdNum (c :: r) with
        | .ok i r => .ok (.int i) r
        | .bad r => .bad r
        | .out => .out)
      else rdCon k c r := by cases k <;> rfl
theorem g_get_k {K : PySem.W.Frag} {w : World} {d : Addr} {k0 : Str} {r0 : Option V} {te ta : TE} {σ : L2.St} {H : Hp} {Q : VK} (h : KDAt K w d k0 r0) (q : te σ H fun y H2 => ta σ H2 fun z H3 => getR K w (.ref d) y z H3 Q) : xGet K w (xC (.ref d)) te ta σ H Q := by
  unfold xGet xC
  exact ⟨.inr ⟨d, k0, r0, rfl, h⟩, q⟩
theorem getR_k {K : PySem.W.Frag} {w : World} {d : Addr} {k : Str} {r : Option V} {z : V} {H : Hp} {Q : VK} (h : KDAt K w d k r) (q : Q (r.getD z) H) : getR K w (.ref d) (.str k) z H Q := by
  unfold getR
  exact .inr ⟨d, k, r, rfl, rfl, h, q⟩
theorem kept_rep {H : Hp} (x : List Nat) : Rep H ((keptV x).getD (.str (S x))) ((kept x).getD (.str x)) := by
  unfold keptV kept
  by_cases h1 : x = wNone
  · rw [if_pos h1, if_pos h1]; exact .non
  rw [if_neg h1, if_neg h1]
  by_cases h2 : x = wYes
  · rw [if_pos h2, if_pos h2]; exact .bl true
  rw [if_neg h2, if_neg h2]
  by_cases h3 : x = wNo
  · rw [if_pos h3, if_pos h3]; exact .bl false
  rw [if_neg h3, if_neg h3]
  exact .str x
theorem Res.map {α β : Type} {K : PySem.W.Frag} {p dx : Addr} {z : List Nat} {H : Hp} {Q Q' : VK} {E : XK} {va : α → V → Hp → Prop} {vb : β → V → Hp → Prop} {r : CL.R α} {r' : CL.R β}
    (q : Res K p dx z H Q' E vb r') (h1 : ∀ a s, r = .ok a s → ∀ H' v, ExtB p H H' → At K p dx z s H' → va a v H' → Q v H') (h2 : ∀ s, r = .bad s → r' = .bad s) (h3 : r = .out → r' = .out) : Res K p dx z H Q E va r := by
  cases r with
  | ok a s => exact h1 a s rfl
  | bad s => rw [h2 s rfl] at q; exact q
  | out => rw [h3 rfl] at q; exact q
theorem keep_del {G G' : Hp} {a : Addr} (h : ∀ b o, b ≠ a → G b = some o → G' b = some o) : Keep (del G a) (del G' a) := Ext.keep fun b o e => by
  by_cases z : b = a
  · subst z; rw [del_same] at e; cases e
  · rw [del_ne z] at e ⊢; exact h b o z e
/-- what is new since later is new since earlier -/
theorem fresh_keep {p : Addr} {H H1 H2 : Hp} (x : ExtB p H H1) (hp : H1 p ≠ none) : Keep (fresh H1 H2) (fresh H H2) := Ext.keep fun b o e => by
  obtain ⟨h1, h2⟩ := of_fresh e
  have : H b = none := by
    cases q : H b with
    | none => rfl
    | some u =>
      have n : b ≠ p := fun z => hp (z ▸ h1)
      rw [x.at n q] at h1; cases h1
  rw [fresh_at this]
  exact h2
section
variable {K : PySem.W.Frag} {w : World} {mg : Str → Option Value} (M : MF K mg) (T : TF K w)
include M T
theorem w_Strip_thing {n : Nat} {H : Hp} {vs : List V} {Q : VK} {E : XK} (h : sp_Strip_thing K (n + 1) vs H Q E) :
    t_Strip_thing K w (sp_Strip_sign K) (sp_Strip_must_be K) (sp_Strip_quoted K) (sp_Strip_run K) (sp_Strip_whole_number K) (sp_Strip_pairs K n) (sp_Strip_things K n) (fun cls d _ H' => E cls d H') (topE Q) (start N_Strip_thing vs) H := by
  obtain ⟨v, y, rfl, p, dx, z, l, k, rfl, a, rfl, hk, q⟩ := h
  unfold t_Strip_thing
  walk_at "rd"
  refine insR_i a.at_ rfl ?_
  walk_at "rd"
  refine ⟨_, rfl, p, dx, z, l, rfl, a, ?_⟩
  walk_at "rd"
  refine insR_i a.at_ rfl ?_
  walk_at "rd"
  cases l with
  | nil =>
    rw [rdThing_nil] at q
    exact ⟨_, _, rfl, p, dx, z, [], false, rfl, a, rfl, nofun, fun _ => q⟩
  | cons c r =>
  rw [rdThing_cons] at q
  refine ⟨_, _, rfl, p, dx, z, c :: r, true, rfl, a, by simp [S_eq], fun _ => ?_, nofun⟩
  walk_at "rd"
  have dS : ∀ m : Nat, decide (S ((c :: r).take 1) = S [m]) = decide (c = m) := fun m => beg_dec m (c :: r)
  by_cases h39 : c = 39
  · rw [if_pos h39] at q
    rw [dS, decide_eq_true h39]
    refine br_t ?_
    walk_at "rd"
    refine insR_i a.at_ rfl ?_
    walk_at "rd"
    refine ⟨_, rfl, p, dx, z, c :: r, rfl, a, by simp, ?_⟩
    cases hq : rdQuo (c :: r) with
    | ok x s =>
      rw [hq] at q
      intro H1 v x1 a1 hv
      obtain rfl : v = .str (S x) := hv
      walk_at "rd"
      exact q H1 _ x1 a1 (.str x)
    | bad s => rw [hq] at q; exact q
    | out => rw [hq] at q; exact q
  rw [if_neg h39] at q
  rw [dS, decide_eq_false h39]
  refine br_f ?_
  walk_at "rd"
  refine uIn_c (c := c) ?_
  walk_at "rd"
  have hs : decide (c ∈ (S [97, 98, 99, 100, 101, 102, 103, 104, 105, 106, 107, 108, 109, 110, 111, 112, 113, 114, 115, 116, 117, 118, 119, 120, 121, 122]).cps.toList) = isSm c := smalls_dec c
  rw [hs]
  cases hsm : isSm c with
  | true =>
    rw [if_pos hsm] at q
    refine br_t ?_
    walk_at "rd"
    refine insR_i a.at_ rfl ?_
    walk_at "rd"
    refine ⟨_, _, rfl, p, dx, z, c :: r, smalls, rfl, a, rfl, fun H1 x1 a1 => ?_⟩
    rw [sm_dec] at a1 ⊢
    walk_at "rd"
    refine g_get_k (T.k []) ?_
    walk_at "rd"
    refine getR_k (T.k _) ?_
    walk_at "rd"
    exact q H1 _ x1 a1 (kept_rep _)
  | false =>
  rw [if_neg (by rw [hsm]; simp)] at q
  refine br_f ?_
  walk_at "rd"
  refine uNotIn_k (T.e c) ?_
  walk_at "rd"
  by_cases hbr : c = 40 ∨ c = 91 ∨ c = 123
  rotate_left
  · rw [if_pos hbr] at q
    have h40 : ¬ c = 40 := fun z => hbr (.inl z)
    have h91 : ¬ c = 91 := fun z => hbr (.inr (.inl z))
    have h123 : ¬ c = 123 := fun z => hbr (.inr (.inr z))
    rw [if_neg h40, if_neg h91, if_neg h123]
    refine br_t ?_
    walk_at "rd"
    refine insR_i a.at_ rfl ?_
    walk_at "rd"
    refine ⟨_, rfl, p, dx, z, c :: r, rfl, a, ?_⟩
    cases hq : rdNum (c :: r) with
    | ok i s =>
      rw [hq] at q
      intro H1 v x1 a1 hv
      obtain rfl : v = .int i := hv
      walk_at "rd"
      exact q H1 _ x1 a1 (.int i)
    | bad s => rw [hq] at q; exact q
    | out => rw [hq] at q; exact q
  rw [if_neg (fun z => z hbr)] at q
  have hsome : (if c = 40 then some (V.str (S [41])) else if c = 91 then some (.str (S [93])) else if c = 123 then some (.str (S [125])) else none).isSome = true := by
    rcases hbr with h | h | h <;> subst h <;> rfl
  rw [hsome]
  refine br_f ?_
  walk_at "rd"
  refine insR_i a.at_ rfl ?_
  walk_at "rd"
  cases k with
  | zero => exact ⟨_, _, rfl, p, dx, z, c :: r, false, rfl, a, by simp, nofun, fun _ => q⟩
  | succ k =>
  obtain ⟨n, rfl⟩ : ∃ m, n = m + 1 := ⟨n - 1, by omega⟩
  have ek : (((k + 1 : Nat) : Int) - 1) = (k : Nat) := by omega
  refine ⟨_, _, rfl, p, dx, z, c :: r, true, rfl, a, by simp, fun _ => ?_, nofun⟩
  walk_at "rd"
  refine ins_at M a ?_
  walk_at "rd"
  refine sto_at M a.at_ ?_
  walk_at "rd"
  have a1 : At K p dx z r (upd H p (.ins (He.ga K "Strip") dx [("text", .str (S z)), ("at", .int ((z.length - (c :: r).length : Nat) + 1))])) := a.to 1 (by simp) (by rw [upd_same]; rfl)
  generalize hH1 : upd H p (.ins (He.ga K "Strip") dx [("text", .str (S z)), ("at", .int ((z.length - (c :: r).length : Nat) + 1))]) = H1 at a1
  have x1 : ExtB p H H1 := by rw [← hH1]; exact .put
  rw [dS]
  by_cases h123 : c = 123
  · rw [rdCon_succ] at q
    rw [if_pos h123] at q
    rw [decide_eq_true h123]
    refine br_t ?_
    walk_at "rd"
    refine insR_i a1.at_ rfl ?_
    walk_at "rd"
    rw [ek]
    refine ⟨_, _, rfl, p, dx, z, r, k, rfl, a1, rfl, by omega, ?_⟩
    refine Res.map (q.lift x1 a1.ne) ?_ (fun s hs => by rw [hs]) (fun hs => by rw [hs])
    rintro ⟨ks, ds⟩ s hs H2 v x2 a2 ⟨b, kvs, rfl, hb, hd, hks, rk⟩
    rw [hs] at q
    walk_at "rd"
    refine q H2 _ (x1.trans x2) a2 ?_
    have kp := fresh_keep (H2 := H2) x1 a1.ne
    refine Rep.mono kp (.dct (.inl (by rw [fresh_at hb]; exact hd)) (by rw [hks]) (rk.mono ?_))
    exact Ext.keep fun e o he => by
      by_cases z : e = b
      · subst z; rw [del_same] at he; cases he
      · rw [del_ne z] at he; exact he
  · rw [rdCon_succ] at q
    rw [if_neg h123] at q
    rw [decide_eq_false h123]
    refine br_f ?_
    walk_at "rd"
    refine insR_i a1.at_ rfl ?_
    walk_at "rd"
    have hend : (if c = 40 then some (V.str (S [41])) else if c = 91 then some (.str (S [93])) else if c = 123 then some (.str (S [125])) else none) = some (.str (S [if c = 40 then 41 else 93])) := by
      rcases hbr with h | h | h
      · subst h; rfl
      · subst h; rfl
      · exact (h123 h).elim
    refine uIx_k (z := S [c]) (hend ▸ T.e c) ?_
    walk_at "rd"
    rw [ek]
    refine ⟨_, _, _, rfl, p, dx, z, r, (if c = 40 then 41 else 93), k, rfl, a1, rfl, rfl, by omega, ?_⟩
    refine Res.map (q.lift x1 a1.ne) ?_ (fun s hs => by rw [hs]) (fun hs => by rw [hs])
    rintro ds s hs H2 v x2 a2 ⟨b, us, rfl, hb, hd, rs⟩
    rw [hs] at q
    have kp := fresh_keep (H2 := H2) x1 a1.ne
    have rs' : Reps (fresh H H2) us ds := rs.mono (Keep.trans (Ext.keep fun e o he => by
      by_cases z : e = b
      · subst z; rw [del_same] at he; cases he
      · rw [del_ne z] at he; exact he) kp)
    have hb0 : H b = none := by
      have n : b ≠ p := fun z => a1.ne (z ▸ hb)
      cases e : H b with
      | none => rfl
      | some o => rw [x1.at n e] at hb; cases hb
    walk_at "rd"
    rw [dS]
    by_cases h40 : c = 40
    · rw [if_pos h40] at q
      rw [decide_eq_true h40]
      refine br_t ?_
      walk_at "rd"
      refine tupR_l (SqL.of hd) fun t ht => ?_
      walk_at "rd"
      have ht0 : H t = none := by
        have n : t ≠ p := fun z => a2.ne (z ▸ ht)
        cases e : H t with
        | none => rfl
        | some o => rw [(x1.trans x2).at n e] at ht; cases ht
      refine q _ _ ((x1.trans x2).trans (.of (.new ht))) (a2.ext (.new ht)) ?_
      refine Rep.tup (by rw [fresh_at ht0, upd_same]) (rs'.mono (Ext.keep fun e o he => ?_))
      obtain ⟨h1, h2⟩ := of_fresh he
      rw [fresh_at h1, upd_ne (ne_of_none h2 ht)]
      exact h2
    · rw [if_neg h40] at q
      rw [decide_eq_false h40]
      refine br_f ?_
      walk_at "rd"
      exact q _ _ (x1.trans x2) a2 (.lst (by rw [fresh_at hb0]; exact hd) rs')
end
end K96
end

section
set_option Elab.async false
set_option linter.all false
set_option maxRecDepth 100000
set_option maxHeartbeats 4000000
open PySem PySem.Spec PyProof.Rows L2 CL
local macro_rules | `(tactic| walk_at "rd1") => `(tactic| first
  | (with_reducible refine g_seq ?_) | ((with_reducible apply g_var); rfl) | (with_reducible refine g_c ?_) | (with_reducible refine g_op ?_) | (with_reducible refine g_cons ?_) | (with_reducible refine g_nil ?_)
  | (with_reducible refine g_if ?_) | (with_reducible refine g_ct ?_) | (with_reducible refine g_tr ?_) | (with_reducible refine g_and ?_) | (with_reducible refine g_or ?_) | (with_reducible refine g_not ?_)
  | (with_reducible refine asB_bl ?_) | (with_reducible refine tru_bl ?_) | (with_reducible refine g_ret ?_) | (with_reducible refine g_set ?_) | (with_reducible refine g_fn ?_) | (with_reducible refine g_call ?_)
  | (with_reducible refine g_meth ?_) | (with_reducible refine g_fld ?_) | (with_reducible refine nx_seq ?_) | (with_reducible refine nx_loop ?_) | (with_reducible refine nx_top ?_) | (with_reducible refine rt_seq ?_)
  | (with_reducible refine rt_loop ?_) | (with_reducible refine rt_top ?_) | (with_reducible refine bk_seq ?_) | (with_reducible refine bk_loop ?_) | (with_reducible refine ct_seq ?_) | (with_reducible refine ct_loop ?_)
  | (with_reducible refine g_end ?_) | (with_reducible refine uAdd_i ?_) | (with_reducible refine uSub_i ?_) | (with_reducible refine uEq_i ?_) | (with_reducible refine uEq_s ?_) | (with_reducible refine uNe_i ?_) | (with_reducible refine uNe_s ?_)
  | (with_reducible refine uLt_i ?_) | (with_reducible refine uLe_i ?_) | (with_reducible refine uGt_i ?_) | (with_reducible refine uGe_i ?_) | (with_reducible refine uIs_n ?_) | (with_reducible refine uIsNot_n ?_)
  | (with_reducible refine g_tup ?_) | (with_reducible refine g_lst ?_) | (with_reducible refine g_sl ?_) | (with_reducible refine g_no ?_) | (with_reducible refine g_part ?_) | (with_reducible refine g_ifE ?_) | (with_reducible refine g_ofT ?_)
  | (with_reducible refine g_unp2 ?_) | (with_reducible refine g_put ?_) | (with_reducible refine g_retN ?_) | (with_reducible refine g_drop ?_) | (with_reducible refine g_brk ?_) | (with_reducible refine g_cnt ?_) | (with_reducible refine iAdd_i ?_)
  | ((with_reducible apply g_aug); rfl) | (with_reducible refine g_sto ?_) | (with_reducible refine g_stoA ?_) | (with_reducible refine g_for ?_) | (with_reducible refine g_wh ?_) | (with_reducible refine g_rs ?_) | (with_reducible refine g_rsX ?_)
  | (with_reducible refine g_g ?_) | (with_reducible refine g_g2 ?_) | (with_reducible refine g_callN ?_) | (with_reducible refine g_app ?_) | (with_reducible refine g_join ?_) | (with_reducible refine strA_i ?_) | (with_reducible refine g_it ?_)
  | (with_reducible refine itR_s ?_) | (with_reducible refine g_rng ?_) | (with_reducible refine g_vals ?_) | (with_reducible refine g_zip ?_) | (with_reducible refine g_rep ?_) | (with_reducible refine g_new ?_) | (with_reducible refine g_disp ?_)
  | (with_reducible refine g_andV ?_) | (with_reducible refine g_orV ?_) | (with_reducible refine g_notV ?_) | (with_reducible refine g_un ?_) | (with_reducible refine uNeg_i ?_) | (with_reducible refine g_yes ?_) | (with_reducible refine g_make ?_)
  | (with_reducible refine g_try ?_) | (with_reducible refine g_lc ?_) | (with_reducible refine intR_b ?_) | (with_reducible refine minR_i ?_) | (with_reducible refine tru_int ?_))
local macro_rules | `(tactic| walk_at "rd") => `(tactic| repeat (walk_at "rd1"))
namespace K96
open PySem PySem.Spec PyProof.Rows L2 CL
theorem rdThings_succ (p : List Nat → CL.R D) (e f : Nat) (found : List D) (l : List Nat) : rdThings p e (f + 1) found l = if begins e l then .ok found l.tail else
    if !found.isEmpty && !begins 32 l then .bad l else
    match p (if found.isEmpty then l else l.tail) with
    | .ok d r => rdThings p e f (found ++ [d]) r
    | .bad r => .bad r
    | .out => .out := rfl
theorem eat_t {c : Nat} {l : List Nat} (h : begins c l = true) : eat c l = l.tail := by unfold eat; rw [h]; rfl
theorem eat_f {c : Nat} {l : List Nat} (h : begins c l = false) : eat c l = l := by unfold eat; rw [h]; rfl
theorem xb_none {p b : Addr} {H H' : Hp} (x : ExtB p H H') (hp : H' p ≠ none) (h : H' b = none) : H b = none := by
  have n : b ≠ p := fun z => hp (z ▸ h)
  cases e : H b with
  | none => rfl
  | some o => rw [x.at n e] at h; cases h
/-- Reps of a list in the making, its heap grown -/
theorem mk_keep {p b : Addr} {H H1 H2 : Hp} (x : ExtB p H1 H2) (hp : H p ≠ none) : Keep (del (fresh H H1) b) (del (fresh H H2) b) := keep_del fun e o n he => by
  obtain ⟨h1, h2⟩ := of_fresh he
  rw [fresh_at h1]
  exact x.at (fun z => hp (z ▸ h1)) h2
/-- what is new since a later heap is no part of the list at b -/
theorem new_keep {p b : Addr} {H H1 H2 : Hp} (x : ExtB p H H1) (hp : H1 p ≠ none) (hb : H1 b ≠ none) : Keep (fresh H1 H2) (del (fresh H H2) b) := Ext.keep fun e o he => by
  obtain ⟨h1, h2⟩ := of_fresh he
  rw [del_ne (fun z => hb (by rw [← z]; exact h1)), fresh_at (xb_none x hp h1)]
  exact h2
theorem xb_mut {p b : Addr} {o : HO} {H H' : Hp} (x : ExtB p H H') (hb : H b = none) : ExtB p H (upd H' b o) := .mk fun e u ne he => by
  rw [upd_ne (fun z => by rw [z, hb] at he; cases he)]
  exact x.at ne he
def thInv (K : PySem.W.Frag) (p dx b : Addr) (z : List Nat) (c k n : Nat) (tot : CL.R (List D)) (H : Hp) (m : Nat) (σ : L2.St) (H' : Hp) : Prop := ∃ found vs l', σ = [some (.ref p), some (.str (S [c])), some (.int (k : Nat)), some (.ref b)] ∧ ExtB p H H' ∧ H' b = some (.lst vs) ∧ Reps (del (fresh H H') b) vs found ∧
  At K p dx z l' H' ∧ rdThings (rdThing k) c m found l' = tot ∧ vs.length + m = n
section
variable {K : PySem.W.Frag} {w : World} {mg : Str → Option Value} (M : MF K mg) (T : TF K w)
theorem w_Strip_things {n : Nat} {H : Hp} {vs : List V} {Q : VK} {E : XK} (h : sp_Strip_things K (n + 1) vs H Q E) :
    t_Strip_things K w (sp_Strip_may K) (sp_Strip_must_be K) (sp_Strip_thing K (n + 1)) (fun cls d _ H' => E cls d H') (topE Q) (start N_Strip_things vs) H := by
  obtain ⟨v, e, y, rfl, p, dx, z, l, c, k, rfl, a, rfl, rfl, hk, q⟩ := h
  unfold t_Strip_things
  walk_at "rd"
  refine ⟨sb (by simp), fun b hb => ?_⟩
  walk_at "rd"
  have hpb : b ≠ p := fun z => a.ne (z ▸ hb)
  have a0 := a.ext (.new (o := .lst []) hb)
  have hz := a.len
  have hle := a.le
  refine wh_m (thInv K p dx b z c k (l.length + 1) (rdThings (rdThing k) c (l.length + 1) [] l) H) (l.length + 1) ⟨[], [], l, rfl, .of (.new hb), upd_same, .nil, a0, rfl, by simp⟩ ?_
  rintro m σ H1 ⟨found, us, l1, rfl, x1, hb1, rs, a1, htot, hcount⟩
  rw [← htot] at q
  cases m with
  | zero => exact q.elim
  | succ f =>
  rw [rdThings_succ] at q
  walk_at "rd"
  refine insR_i a1.at_ rfl ?_
  walk_at "rd"
  refine ⟨_, _, rfl, p, dx, z, l1, c, rfl, a1, rfl, fun H2 x2 a2 => ?_⟩
  walk_at "rd"
  have hb2 := x2.at hpb hb1
  have rs2 := rs.mono (mk_keep (b := b) x2 a.ne)
  cases hc : begins c l1 with
  | true =>
    rw [if_pos hc] at q
    rw [eat_t hc] at a2
    refine br_f ?_
    walk_at "rd"
    exact q H2 _ (x1.trans x2) a2 ⟨b, us, rfl, hb, hb2, rs2⟩
  | false =>
  rw [if_neg (by rw [hc]; simp)] at q
  rw [eat_f hc] at a2
  refine br_t ?_
  walk_at "rd"
  refine ⟨sb (by simp), fun e he => ?_⟩
  have hemp : us.isEmpty = found.isEmpty := by
    have := rs.len
    cases us <;> cases found <;> simp_all
  have heb : e ≠ b := fun z => by rw [z, hb2] at he; cases he
  refine uNe_e (SqL.of (by rw [upd_ne (Ne.symm heb)]; exact hb2)) upd_same ?_
  walk_at "rd"
  rw [hemp]
  have x3 : ExtB p H2 (upd H2 e (.lst [])) := .of (.new he)
  have a3 := a2.ext (.new (o := .lst []) he)
  have hb3 := x3.at hpb hb2
  have rs3 := rs2.mono (mk_keep (b := b) x3 a.ne)
  generalize upd H2 e (.lst []) = H3 at *
  have x13 := (x1.trans x2).trans x3
  -- the item
  have item : ∀ H4 l2, ExtB p H3 H4 → At K p dx z l2 H4 → l2 = (if found.isEmpty then l1 else l1.tail) → ¬ (!found.isEmpty && !begins 32 l1) = true →
      Res K p dx z H Q E (thsVal H) (match rdThing k l2 with
        | .ok d r => rdThings (rdThing k) c f (found ++ [d]) r
        | .bad r => .bad r
        | .out => .out) →
      dNx (seqE (loopE (seqE (topE Q) (xRet (xVar 3))) fun σ' H' => ∃ m', m' < f + 1 ∧ thInv K p dx b z c k (l.length + 1) (rdThings (rdThing k) c (l.length + 1) [] l) H m' σ' H')
        (xDrop (xApp K (xVar 3) (xMeth (He.ga K "Strip") "thing" (sp_Strip_thing K (n + 1)) [] (fun cls d _ H' => E cls d H') (xVar 0) (xCons (xVar 2) xNil)))))
        [some (.ref p), some (.str (S [c])), some (.int (k : Nat)), some (.ref b)] H4 := by
    intro H4 l2 x4 a4 hl2 hcond q
    have hb4 := x4.at hpb hb3
    have rs4 := rs3.mono (mk_keep (b := b) x4 a.ne)
    have x14 := x13.trans x4
    walk_at "rd"
    refine lstA_i hb4 ?_
    walk_at "rd"
    refine insR_i a4.at_ rfl ?_
    walk_at "rd"
    refine ⟨_, _, rfl, p, dx, z, l2, k, rfl, a4, rfl, hk, ?_⟩
    cases hr : rdThing k l2 with
    | out => rw [hr] at q; exact q
    | bad s => rw [hr] at q; exact Bad.mono q x14 a4.ne
    | ok d s =>
      rw [hr] at q
      intro H5 v x5 a5 hv
      have hb5 := x5.at hpb hb4
      refine appR_i hb5 (Nat.lt_of_lt_of_le (show us.length < 2000000 by omega) (sl (by omega))) ?_
      walk_at "rd"
      refine ⟨f, by omega, found ++ [d], us ++ [v], s, rfl, xb_mut (x14.trans x5) hb, upd_same, ?_, ?_, ?_, by rw [List.length_append]; simp; omega⟩
      · refine Reps.snoc ((rs4.mono (mk_keep (b := b) x5 a.ne)).mono ?_) (Rep.mono (Keep.trans (new_keep (b := b) x14 a4.ne (by rw [hb4]; simp)) ?_) hv)
        all_goals
          refine keep_del fun e o ne he => ?_
          obtain ⟨h1, h2⟩ := of_fresh he
          rw [fresh_at h1, upd_ne ne]
          exact h2
      · exact ⟨by rw [upd_ne (Ne.symm hpb)]; exact a5.at_, a5.suf, a5.len⟩
      · rw [← htot, rdThings_succ, if_neg (by rw [hc]; simp)]
        rw [if_neg hcond, ← hl2, hr]
  cases hf : found.isEmpty with
  | true =>
    rw [hf] at q
    refine br_f ?_
    refine g_end ?_
    exact item H3 l1 .refl a3 (by rw [hf]; rfl) (by rw [hf]; simp) q
  | false =>
    rw [hf] at q
    refine br_t ?_
    walk_at "rd"
    refine insR_i a3.at_ rfl ?_
    walk_at "rd"
    refine insR_i a3.at_ rfl ?_
    walk_at "rd"
    refine ⟨_, _, rfl, p, dx, z, l1, 32, rfl, a3, rfl, fun H4 x4 a4 => ?_⟩
    walk_at "rd"
    refine ⟨_, _, rfl, p, dx, z, _, begins 32 l1, rfl, a4, rfl, fun h32 => ?_, fun h32 => ?_⟩
    · rw [eat_t h32] at a4
      exact item H4 l1.tail x4 a4 (by rw [hf]; rfl) (by rw [h32]; simp) (by rw [if_neg (by rw [h32]; simp)] at q; exact q)
    · rw [if_pos (by rw [h32]; rfl)] at q
      rw [eat_f h32] at a4 ⊢
      exact Bad.mono q (x13.trans x4) a4.ne
end
end K96
end

section
set_option Elab.async false
set_option linter.all false
set_option maxRecDepth 100000
set_option maxHeartbeats 4000000
open PySem PySem.Spec PyProof.Rows L2 CL
local macro_rules | `(tactic| walk_at "rd1") => `(tactic| first
  | (with_reducible refine g_seq ?_) | ((with_reducible apply g_var); rfl) | (with_reducible refine g_c ?_) | (with_reducible refine g_op ?_) | (with_reducible refine g_cons ?_) | (with_reducible refine g_nil ?_)
  | (with_reducible refine g_if ?_) | (with_reducible refine g_ct ?_) | (with_reducible refine g_tr ?_) | (with_reducible refine g_and ?_) | (with_reducible refine g_or ?_) | (with_reducible refine g_not ?_)
  | (with_reducible refine asB_bl ?_) | (with_reducible refine tru_bl ?_) | (with_reducible refine g_ret ?_) | (with_reducible refine g_set ?_) | (with_reducible refine g_fn ?_) | (with_reducible refine g_call ?_)
  | (with_reducible refine g_meth ?_) | (with_reducible refine g_fld ?_) | (with_reducible refine nx_seq ?_) | (with_reducible refine nx_loop ?_) | (with_reducible refine nx_top ?_) | (with_reducible refine rt_seq ?_)
  | (with_reducible refine rt_loop ?_) | (with_reducible refine rt_top ?_) | (with_reducible refine bk_seq ?_) | (with_reducible refine bk_loop ?_) | (with_reducible refine ct_seq ?_) | (with_reducible refine ct_loop ?_)
  | (with_reducible refine g_end ?_) | (with_reducible refine uAdd_i ?_) | (with_reducible refine uSub_i ?_) | (with_reducible refine uEq_i ?_) | (with_reducible refine uEq_s ?_) | (with_reducible refine uNe_i ?_) | (with_reducible refine uNe_s ?_)
  | (with_reducible refine uLt_i ?_) | (with_reducible refine uLe_i ?_) | (with_reducible refine uGt_i ?_) | (with_reducible refine uGe_i ?_) | (with_reducible refine uIs_n ?_) | (with_reducible refine uIsNot_n ?_)
  | (with_reducible refine g_tup ?_) | (with_reducible refine g_lst ?_) | (with_reducible refine g_sl ?_) | (with_reducible refine g_no ?_) | (with_reducible refine g_part ?_) | (with_reducible refine g_ifE ?_) | (with_reducible refine g_ofT ?_)
  | (with_reducible refine g_unp2 ?_) | (with_reducible refine g_put ?_) | (with_reducible refine g_retN ?_) | (with_reducible refine g_drop ?_) | (with_reducible refine g_brk ?_) | (with_reducible refine g_cnt ?_) | (with_reducible refine iAdd_i ?_)
  | ((with_reducible apply g_aug); rfl) | (with_reducible refine g_sto ?_) | (with_reducible refine g_stoA ?_) | (with_reducible refine g_for ?_) | (with_reducible refine g_wh ?_) | (with_reducible refine g_rs ?_) | (with_reducible refine g_rsX ?_)
  | (with_reducible refine g_g ?_) | (with_reducible refine g_g2 ?_) | (with_reducible refine g_callN ?_) | (with_reducible refine g_app ?_) | (with_reducible refine g_join ?_) | (with_reducible refine strA_i ?_) | (with_reducible refine g_it ?_)
  | (with_reducible refine itR_s ?_) | (with_reducible refine g_rng ?_) | (with_reducible refine g_vals ?_) | (with_reducible refine g_zip ?_) | (with_reducible refine g_rep ?_) | (with_reducible refine g_new ?_) | (with_reducible refine g_disp ?_)
  | (with_reducible refine g_andV ?_) | (with_reducible refine g_orV ?_) | (with_reducible refine g_notV ?_) | (with_reducible refine g_un ?_) | (with_reducible refine uNeg_i ?_) | (with_reducible refine g_yes ?_) | (with_reducible refine g_make ?_)
  | (with_reducible refine g_try ?_) | (with_reducible refine g_lc ?_) | (with_reducible refine intR_b ?_) | (with_reducible refine minR_i ?_) | (with_reducible refine tru_int ?_))
local macro_rules | `(tactic| walk_at "rd") => `(tactic| repeat (walk_at "rd1"))
namespace K96
open PySem PySem.Spec PyProof.Rows L2 CL
theorem rdPairs_succ (p : List Nat → CL.R D) (f : Nat) (ahead : Option (List Nat)) (ks : List (List Nat)) (ds : List D) (l : List Nat) : rdPairs p (f + 1) ahead ks ds l = if begins 125 l then .ok (ks, ds) l.tail else
    if ahead.isSome && !begins 32 l then .bad l else
    match rdKey ahead (if ahead.isSome then l.tail else l) with
    | .ok k r => if !begins 32 r then .bad r else
      (match p r.tail with
      | .ok d r2 => rdPairs p f (some k) (ks ++ [k]) (ds ++ [d]) r2
      | .bad r2 => .bad r2
      | .out => .out)
    | .bad r => .bad r
    | .out => .out := rfl
theorem keyS_inj {a b : List Nat} (h : keyS a = keyS b) : a = b := SX.S_inj (Sum.inr.inj h)
theorem val_none {kvs : List (Key × V)} {ks : List (List Nat)} {x : List Nat} (e : kvs.map (·.1) = ks.map keyS) (h : x ∉ ks) : valV kvs (keyS x) = none := by
  cases q : valV kvs (keyS x) with
  | none => rfl
  | some v =>
    have := valV_in q
    rw [e] at this
    obtain ⟨y, hy, e2⟩ := List.mem_map.mp this
    rw [keyS_inj e2] at hy
    exact (h hy).elim
theorem RepK_more {H : Hp} {kvs : List (Key × V)} {x : List Nat} {v : V} (h : valV kvs (keyS x) = none) : ∀ {ks : List (List Nat)} {ds : List D}, RepK H kvs ks ds → RepK H (kvs ++ [(keyS x, v)]) ks ds
  | _, _, .nil => .nil
  | _, _, .cons (k := k) e r q => .cons (by
      rw [valV_snoc _ _ _ _ h, if_neg (fun z => by rw [z, h] at e; cases e)]
      exact e) r (RepK_more h q)
theorem RepK_snoc {H : Hp} {kvs : List (Key × V)} {k : List Nat} {v : V} {d : D} (e : valV kvs (keyS k) = some v) (s : Rep H v d) : ∀ {ks : List (List Nat)} {ds : List D}, RepK H kvs ks ds → RepK H kvs (ks ++ [k]) (ds ++ [d])
  | _, _, .nil => .cons e s .nil
  | _, _, .cons e' r q => .cons e' r (RepK_snoc e s q)
def prInv (K : PySem.W.Frag) (p dx b : Addr) (z : List Nat) (k n : Nat) (tot : CL.R (List (List Nat) × List D)) (H : Hp) (m : Nat) (σ : L2.St) (H' : Hp) : Prop := ∃ ah ks ds kvs l', σ = [some (.ref p), some (.int (k : Nat)), some (.ref b), some (ahV ah)] ∧ ExtB p H H' ∧ H' b = some (.dK kvs) ∧ kvs.map (·.1) = ks.map keyS ∧ RepK (del (fresh H H') b) kvs ks ds ∧
  At K p dx z l' H' ∧ rdPairs (rdThing k) m ah ks ds l' = tot ∧ kvs.length + m = n ∧ (match ah with
    | none => ks = []
    | some a => ∀ x ∈ ks, ¬ a < x)
section
variable {K : PySem.W.Frag} {w : World} {mg : Str → Option Value}
theorem w_Strip_pairs {n : Nat} {H : Hp} {vs : List V} {Q : VK} {E : XK} (h : sp_Strip_pairs K (n + 1) vs H Q E) :
    t_Strip_pairs K w (sp_Strip_may K) (sp_Strip_must_be K) (sp_Strip_key K) (sp_Strip_thing K (n + 1)) (fun cls d _ H' => E cls d H') (topE Q) (start N_Strip_pairs vs) H := by
  obtain ⟨v, y, rfl, p, dx, z, l, k, rfl, a, rfl, hk, q⟩ := h
  unfold t_Strip_pairs
  walk_at "rd"
  intro b hb
  walk_at "rd"
  have hpb : b ≠ p := fun z => a.ne (z ▸ hb)
  have a0 := a.ext (.new (o := .dK []) hb)
  have hz := a.len
  have hle := a.le
  refine wh_m (prInv K p dx b z k (l.length + 1) (rdPairs (rdThing k) (l.length + 1) none [] [] l) H) (l.length + 1) ⟨none, [], [], [], l, rfl, .of (.new hb), upd_same, rfl, .nil, a0, rfl, by simp, rfl⟩ ?_
  rintro m σ H1 ⟨ah, ks, ds, kvs, l1, rfl, x1, hb1, hks, rk, a1, htot, hcount, hrise⟩
  rw [← htot] at q
  cases m with
  | zero => exact q.elim
  | succ f =>
  rw [rdPairs_succ] at q
  walk_at "rd"
  refine insR_i a1.at_ rfl ?_
  walk_at "rd"
  refine ⟨_, _, rfl, p, dx, z, l1, 125, rfl, a1, rfl, fun H2 x2 a2 => ?_⟩
  walk_at "rd"
  have hb2 := x2.at hpb hb1
  cases hc : begins 125 l1 with
  | true =>
    rw [if_pos hc] at q
    rw [eat_t hc] at a2
    refine br_f ?_
    walk_at "rd"
    exact q H2 _ (x1.trans x2) a2 ⟨b, kvs, rfl, hb, hb2, hks, rk.mono (mk_keep (b := b) x2 a.ne)⟩
  | false =>
  rw [if_neg (by rw [hc]; simp)] at q
  rw [eat_f hc] at a2
  refine br_t ?_
  walk_at "rd"
  have x12 := x1.trans x2
  have hah : (!decide (ahV ah = V.non)) = ah.isSome := by cases ah <;> rfl
  rw [hah]
  -- the pair
  have item : ∀ H4 l2, ExtB p H2 H4 → At K p dx z l2 H4 → l2 = (if ah.isSome then l1.tail else l1) → ¬ (ah.isSome && !begins 32 l1) = true →
      Res K p dx z H Q E (prVal H) (match rdKey ah l2 with
        | .ok k' r => if !begins 32 r then .bad r else
          (match rdThing k r.tail with
          | .ok d r2 => rdPairs (rdThing k) f (some k') (ks ++ [k']) (ds ++ [d]) r2
          | .bad r2 => .bad r2
          | .out => .out)
        | .bad r => .bad r
        | .out => .out) →
      dNx (seqE (loopE (seqE (topE Q) (xRet (xVar 2))) fun σ' H' => ∃ m', m' < f + 1 ∧ prInv K p dx b z k (l.length + 1) (rdPairs (rdThing k) (l.length + 1) none [] [] l) H m' σ' H')
        (xSeq (xSet 3 (xMeth (He.ga K "Strip") "key" (sp_Strip_key K) [] (fun cls d _ H' => E cls d H') (xVar 0) (xCons (xVar 3) xNil)))
          (xSeq (xDrop (xMeth (He.ga K "Strip") "must_be" (sp_Strip_must_be K) [] (fun cls d _ H' => E cls d H') (xVar 0) (xCons (xMeth (He.ga K "Strip") "may" (sp_Strip_may K) [] (fun cls d _ H' => E cls d H') (xVar 0) (xCons (xC (.str (S [32]))) xNil)) xNil)))
            (xPut (xVar 2) (xVar 3) (xMeth (He.ga K "Strip") "thing" (sp_Strip_thing K (n + 1)) [] (fun cls d _ H' => E cls d H') (xVar 0) (xCons (xVar 1) xNil))))))
        [some (.ref p), some (.int (k : Nat)), some (.ref b), some (ahV ah)] H4 := by
    intro H4 l2 x4 a4 hl2 hcond q
    have x14 := x12.trans x4
    have hb4 := x4.at hpb hb2
    walk_at "rd"
    refine insR_i a4.at_ rfl ?_
    walk_at "rd"
    refine ⟨_, _, rfl, p, dx, z, l2, ah, rfl, a4, rfl, ?_⟩
    cases hr : rdKey ah l2 with
    | out => rw [hr] at q; exact q
    | bad s => rw [hr] at q; exact Bad.mono q x14 a4.ne
    | ok x s =>
      rw [hr] at q
      intro H5 v x5 a5 hv
      obtain rfl : v = .str (S x) := hv
      have hb5 := x5.at hpb hb4
      walk_at "rd"
      refine insR_i a5.at_ rfl ?_
      walk_at "rd"
      refine insR_i a5.at_ rfl ?_
      walk_at "rd"
      refine ⟨_, _, rfl, p, dx, z, s, 32, rfl, a5, rfl, fun H6 x6 a6 => ?_⟩
      walk_at "rd"
      have hb6 := x6.at hpb hb5
      refine ⟨_, _, rfl, p, dx, z, _, begins 32 s, rfl, a6, rfl, fun h32 => ?_, fun h32 => ?_⟩
      rotate_left
      · have q : Bad K p z s H E := by
          have q := q
          simp only [h32] at q
          exact q
        rw [eat_f h32] at a6 ⊢
        exact Bad.mono q ((x14.trans x5).trans x6) a6.ne
      have q : Res K p dx z H Q E (prVal H) (match rdThing k s.tail with
          | .ok d r2 => rdPairs (rdThing k) f (some x) (ks ++ [x]) (ds ++ [d]) r2
          | .bad r2 => .bad r2
          | .out => .out) := by
        have q := q
        simp only [h32] at q
        exact q
      rw [eat_t h32] at a6
      have x16 := (x14.trans x5).trans x6
      walk_at "rd"
      refine insR_i a6.at_ rfl ?_
      walk_at "rd"
      refine ⟨_, _, rfl, p, dx, z, s.tail, k, rfl, a6, rfl, hk, ?_⟩
      cases hr2 : rdThing k s.tail with
      | out => rw [hr2] at q; exact q
      | bad s2 => rw [hr2] at q; exact Bad.mono q x16 a6.ne
      | ok d s2 =>
        rw [hr2] at q
        intro H7 v x7 a7 hv
        have hb7 := x7.at hpb hb6
        walk_at "rd"
        have hx : x ∉ ks ∧ ∀ y ∈ ks ++ [x], ¬ x < y := by
          have hlate : late ah x = false := by
            rw [rdKey_eq] at hr
            revert hr
            generalize (if begins 39 l2 = true then rdQuo l2 else CL.R.ok (l2.takeWhile isSm) (l2.dropWhile isSm)) = g
            intro hr
            cases g with
            | ok x' r' =>
              simp only at hr
              unfold keyTail at hr
              by_cases hl : late ah x' = true
              · rw [if_pos hl] at hr; cases hr
              · rw [if_neg hl] at hr
                by_cases h2 : (begins 39 l2 || bare x') = true
                · rw [if_pos h2] at hr
                  cases hr
                  simpa using hl
                · rw [if_neg h2] at hr; cases hr
            | bad r' => cases hr
            | out => cases hr
          cases ah with
          | none =>
            have hrise : ks = [] := hrise
            rw [hrise]
            exact ⟨by simp, fun y hy => by
              rw [List.mem_singleton.mp hy]
              exact List.lt_irrefl _⟩
          | some a' =>
            have hrise : ∀ x ∈ ks, ¬ a' < x := hrise
            have hlt : a' < x := by simpa [late] using hlate
            refine ⟨fun hm => hrise x hm hlt, fun y hy => ?_⟩
            rcases List.mem_append.mp hy with hy | hy
            · exact fun z => hrise y hy (List.lt_trans hlt z)
            · rw [List.mem_singleton.mp hy]
              exact List.lt_irrefl _
        have hnew := val_none hks hx.1
        refine putR_d (k := keyS x) rfl hb7 (Nat.lt_of_lt_of_le (show kvs.length < 2000000 by omega) (sl (by omega))) ?_
        rw [putK_new v hnew]
        walk_at "rd"
        have kp : Keep (del (fresh H H7) b) (del (fresh H (upd H7 b (.dK (kvs ++ [(keyS x, v)])))) b) := keep_del fun e o ne he => by
          obtain ⟨h1, h2⟩ := of_fresh he
          rw [fresh_at h1, upd_ne ne]
          exact h2
        refine ⟨f, by omega, some x, ks ++ [x], ds ++ [d], kvs ++ [(keyS x, v)], s2, rfl, xb_mut (x16.trans x7) hb, upd_same, by simp [hks], ?_, ?_, ?_, by rw [List.length_append]; simp; omega, hx.2⟩
        · refine RepK_snoc (by rw [valV_snoc _ _ _ _ hnew, if_pos rfl]) (Rep.mono (Keep.trans (new_keep (b := b) x16 a6.ne (by rw [hb6]; simp)) kp) hv) (RepK_more hnew (rk.mono (Keep.trans (mk_keep (b := b) (((x2.trans x4).trans x5).trans (x6.trans x7)) a.ne) kp)))
        · exact ⟨by rw [upd_ne (Ne.symm hpb)]; exact a7.at_, a7.suf, a7.len⟩
        · rw [← htot, rdPairs_succ, if_neg (by rw [hc]; simp), if_neg hcond, ← hl2, hr]
          simp only [h32, hr2]
          rfl
  cases hf : ah.isSome with
  | false =>
    rw [hf] at q
    refine br_f ?_
    refine g_end ?_
    exact item H2 l1 .refl a2 (by rw [hf]; rfl) (by rw [hf]; simp) q
  | true =>
    rw [hf] at q
    refine br_t ?_
    walk_at "rd"
    refine insR_i a2.at_ rfl ?_
    walk_at "rd"
    refine insR_i a2.at_ rfl ?_
    walk_at "rd"
    refine ⟨_, _, rfl, p, dx, z, l1, 32, rfl, a2, rfl, fun H4 x4 a4 => ?_⟩
    walk_at "rd"
    refine ⟨_, _, rfl, p, dx, z, _, begins 32 l1, rfl, a4, rfl, fun h32 => ?_, fun h32 => ?_⟩
    · rw [eat_t h32] at a4
      exact item H4 l1.tail x4 a4 (by rw [hf]; rfl) (by rw [h32]; simp) (by rw [if_neg (by rw [h32]; simp)] at q; exact q)
    · rw [if_pos (by rw [h32]; rfl)] at q
      rw [eat_f h32] at a4 ⊢
      exact Bad.mono q (x12.trans x4) a4.ne
/-- the reader's promise -/
def rdErr (K : PySem.W.Frag) (z r : List Nat) (H : Hp) (E : XK) : Prop := ∀ H' d, Ext H H' → H d = none → H' d = some (.xd [("at", .int ((z.length - r.length : Nat) : Nat)), ("row", .int 0)]) → E (.ref (He.ga K "NoText")) (some d) H'
def sp_read_paper (K : PySem.W.Frag) : Sp := sp2 fun v y H Q E => ∃ z k, v = .str (S z) ∧ y = .int (k : Nat) ∧ z.length ≤ 1000000 ∧ (match rdThing (min k 100) z with
  | .ok d r => if r = [] then ∀ H' v, Ext H H' → Rep (fresh H H') v d → Q v H' else rdErr K z r H E
  | .bad r => rdErr K z r H E
  | .out => False)
theorem w_read_paper {H : Hp} {vs : List V} {Q : VK} {E : XK} (h : sp_read_paper K vs H Q E) :
    t_read_paper K w (sp_Strip_init K) (sp_Strip_thing K 101) (sp_Strip_must_be K) (sp_Strip_sign K) (fun cls d _ H' => E cls d H') (topE Q) (start N_read_paper vs) H := by
  obtain ⟨v, y, rfl, z, k, rfl, rfl, hz, q⟩ := h
  unfold t_read_paper
  walk_at "rd"
  intro p dx hp hd hne
  refine ⟨_, _, rfl, p, dx, z, rfl, rfl, hz, upd_same, fun H1 x1 a1 => ⟨rfl, ?_⟩⟩
  have x1 : ExtB p H H1 := ExtB.trans (.of ((Ext.new hd).trans (.new (by rw [upd_ne (Ne.symm hne)]; exact hp)))) x1
  have toExt : ∀ {H' : Hp}, ExtB p H H' → Ext H H' := fun x a o e => x.at (fun z => by rw [z, hp] at e; cases e) e
  have hbad : ∀ {r : List Nat}, rdErr K z r H E → Bad K p z r H E := fun h H' d x hn e => h H' d (toExt x) hn e
  walk_at "rd"
  refine insR_i a1.at_ rfl ?_
  walk_at "rd"
  have hmin : (if (100 : Int) < (k : Nat) then 100 else ((k : Nat) : Int)) = ((min k 100 : Nat) : Int) := by
    rcases Nat.lt_or_ge 100 k with h | h
    · rw [if_pos (by omega), Nat.min_eq_right (by omega)]
      rfl
    · rw [if_neg (by omega), Nat.min_eq_left h]
  rw [hmin]
  refine ⟨_, _, rfl, p, dx, z, z, min k 100, rfl, a1, rfl, Nat.min_le_right .., ?_⟩
  cases hr : rdThing (min k 100) z with
  | out => rw [hr] at q; exact q
  | bad r =>
    rw [hr] at q
    exact Bad.mono (hbad q) x1 a1.ne
  | ok d r =>
    rw [hr] at q
    intro H2 v x2 a2 hv
    walk_at "rd"
    refine insR_i a2.at_ rfl ?_
    walk_at "rd"
    refine insR_i a2.at_ rfl ?_
    walk_at "rd"
    refine ⟨_, rfl, p, dx, z, r, rfl, a2, ?_⟩
    walk_at "rd"
    have q : if r = [] then ∀ H' v, Ext H H' → Rep (fresh H H') v d → Q v H' else rdErr K z r H E := q
    by_cases h0 : r = []
    · rw [if_pos h0] at q
      subst h0
      refine ⟨_, _, rfl, p, dx, z, [], true, rfl, a2, by simp, fun _ => ?_, nofun⟩
      walk_at "rd"
      exact q H2 v (toExt (x1.trans x2)) (Rep.mono (fresh_keep x1 a1.ne) hv)
    · rw [if_neg h0] at q
      refine ⟨_, _, rfl, p, dx, z, r, false, rfl, a2, by simp [S_eq, h0], nofun, fun _ => ?_⟩
      exact Bad.mono (hbad q) (x1.trans x2) a2.ne
end
end K96
end

section
set_option Elab.async false
set_option linter.all false
set_option maxRecDepth 100000
set_option maxHeartbeats 4000000
open PySem PySem.Spec PyProof.Rows L2 CL
local macro_rules | `(tactic| walk_at "rd1") => `(tactic| first
  | (with_reducible refine g_seq ?_) | ((with_reducible apply g_var); rfl) | (with_reducible refine g_c ?_) | (with_reducible refine g_op ?_) | (with_reducible refine g_cons ?_) | (with_reducible refine g_nil ?_)
  | (with_reducible refine g_if ?_) | (with_reducible refine g_ct ?_) | (with_reducible refine g_tr ?_) | (with_reducible refine g_and ?_) | (with_reducible refine g_or ?_) | (with_reducible refine g_not ?_)
  | (with_reducible refine asB_bl ?_) | (with_reducible refine tru_bl ?_) | (with_reducible refine g_ret ?_) | (with_reducible refine g_set ?_) | (with_reducible refine g_fn ?_) | (with_reducible refine g_call ?_)
  | (with_reducible refine g_meth ?_) | (with_reducible refine g_fld ?_) | (with_reducible refine nx_seq ?_) | (with_reducible refine nx_loop ?_) | (with_reducible refine nx_top ?_) | (with_reducible refine rt_seq ?_)
  | (with_reducible refine rt_loop ?_) | (with_reducible refine rt_top ?_) | (with_reducible refine bk_seq ?_) | (with_reducible refine bk_loop ?_) | (with_reducible refine ct_seq ?_) | (with_reducible refine ct_loop ?_)
  | (with_reducible refine g_end ?_) | (with_reducible refine uAdd_i ?_) | (with_reducible refine uSub_i ?_) | (with_reducible refine uEq_i ?_) | (with_reducible refine uEq_s ?_) | (with_reducible refine uNe_i ?_) | (with_reducible refine uNe_s ?_)
  | (with_reducible refine uLt_i ?_) | (with_reducible refine uLe_i ?_) | (with_reducible refine uGt_i ?_) | (with_reducible refine uGe_i ?_) | (with_reducible refine uIs_n ?_) | (with_reducible refine uIsNot_n ?_)
  | (with_reducible refine g_tup ?_) | (with_reducible refine g_lst ?_) | (with_reducible refine g_sl ?_) | (with_reducible refine g_no ?_) | (with_reducible refine g_part ?_) | (with_reducible refine g_ifE ?_) | (with_reducible refine g_ofT ?_)
  | (with_reducible refine g_unp2 ?_) | (with_reducible refine g_put ?_) | (with_reducible refine g_retN ?_) | (with_reducible refine g_drop ?_) | (with_reducible refine g_brk ?_) | (with_reducible refine g_cnt ?_) | (with_reducible refine iAdd_i ?_)
  | ((with_reducible apply g_aug); rfl) | (with_reducible refine g_sto ?_) | (with_reducible refine g_stoA ?_) | (with_reducible refine g_for ?_) | (with_reducible refine g_wh ?_) | (with_reducible refine g_rs ?_) | (with_reducible refine g_rsX ?_)
  | (with_reducible refine g_g ?_) | (with_reducible refine g_g2 ?_) | (with_reducible refine g_callN ?_) | (with_reducible refine g_app ?_) | (with_reducible refine g_join ?_) | (with_reducible refine strA_i ?_) | (with_reducible refine g_it ?_)
  | (with_reducible refine itR_s ?_) | (with_reducible refine g_rng ?_) | (with_reducible refine g_vals ?_) | (with_reducible refine g_zip ?_) | (with_reducible refine g_rep ?_) | (with_reducible refine g_new ?_) | (with_reducible refine g_disp ?_)
  | (with_reducible refine g_andV ?_) | (with_reducible refine g_orV ?_) | (with_reducible refine g_notV ?_) | (with_reducible refine g_un ?_) | (with_reducible refine uNeg_i ?_) | (with_reducible refine g_yes ?_) | (with_reducible refine g_make ?_)
  | (with_reducible refine g_try ?_) | (with_reducible refine g_lc ?_) | (with_reducible refine intR_b ?_) | (with_reducible refine minR_i ?_) | (with_reducible refine tru_int ?_))
local macro_rules | `(tactic| walk_at "rd") => `(tactic| repeat (walk_at "rd1"))
namespace K96
open PySem PySem.Spec PyProof.Rows L2 CL
/-- the purse at p, its cells at c; so many were drawn -/
structure Pu (p c : Addr) (cs : List Int) (i : Nat) (H : Hp) : Prop where
  hp : H p = some (.lst [.ref c, .int (i : Nat)])
  hc : H c = some (.lst (cs.map V.int))
  pos : 0 < cs.length
  len : cs.length ≤ 63
theorem Pu.ne {p c : Addr} {cs : List Int} {i : Nat} {H : Hp} (u : Pu p c cs i H) : p ≠ c := fun z => by
  have h1 := u.hp
  rw [z, u.hc] at h1
  cases cs with
  | nil => cases u.pos
  | cons a r =>
    have h2 := HO.lst.inj (Option.some.inj h1)
    rw [List.map_cons] at h2
    cases (List.cons.inj h2).1
/-- all but the purse stays -/
def PX (p c : Addr) (H H' : Hp) : Prop := ∀ a o, a ≠ p → a ≠ c → H a = some o → H' a = some o
theorem PX.refl {p c : Addr} {H : Hp} : PX p c H H := fun _ _ _ _ e => e
theorem PX.trans {p c : Addr} {H H1 H2 : Hp} (a : PX p c H H1) (b : PX p c H1 H2) : PX p c H H2 := fun x o h1 h2 e => b x o h1 h2 (a x o h1 h2 e)
theorem PX.of {p c : Addr} {H H' : Hp} (x : Ext H H') : PX p c H H' := fun a o _ _ e => x a o e
theorem Pu.ext {p c : Addr} {cs : List Int} {i : Nat} {H H' : Hp} (u : Pu p c cs i H) (x : Ext H H') : Pu p c cs i H' := ⟨x _ _ u.hp, x _ _ u.hc, u.pos, u.len⟩
theorem lg {n k : Nat} (hk : 0 < k) (h : n < 2 ^ k) : n.log2 < k := by
  by_cases h0 : n = 0
  · rw [h0]; simpa using hk
  · exact (Nat.log2_lt h0).mpr h
theorem cm {i j : Int} (h1 : i.natAbs < 2 ^ 200) (h2 : j.natAbs < 2 ^ 200) : CMulW i j := by
  have a := lg (k := 200) (by decide) h1
  have b := lg (k := 200) (by decide) h2
  unfold CMulW
  omega
def sp__law_draw : Sp := sp2 fun v y H Q _ => ∃ p c cs i m, v = .ref p ∧ y = .int m ∧ Pu p c cs i H ∧ i ≤ 1000000 ∧ 1 ≤ m ∧ m ≤ 10 ^ 30 ∧
  ∀ H' cs' n, PX p c H H' → Pu p c cs' (i + 1) H' → 0 ≤ n → n < m → Q (.int n) H'
section
variable {K : PySem.W.Frag} {w : World}
theorem w__law_draw {H : Hp} {vs : List V} {Q : VK} {E : XK} (h : sp__law_draw vs H Q E) : t__law_draw K w (fun cls d _ H' => E cls d H') (topE Q) (start N__law_draw vs) H := by
  obtain ⟨v, y, rfl, p, c, cs, i, m, rfl, rfl, u, hi, m1, m2, q⟩ := h
  have hne := u.ne
  unfold t__law_draw
  walk_at "rd"
  refine unp2_l (SqL.of u.hp) ⟨_, _, rfl, ?_⟩
  walk_at "rd"
  refine lenR_l (SqL.of u.hc) ?_
  have hlen : ((cs.map V.int).length : Int) = (cs.length : Nat) := by rw [List.length_map]
  rw [hlen]
  have hpos := u.pos
  refine uMod_i (by omega) ?_
  have hj : ((i : Nat) : Int) % ((cs.length : Nat) : Int) = ((i % cs.length : Nat) : Int) := rfl
  rw [hj]
  have hlt : i % cs.length < cs.length := Nat.mod_lt _ hpos
  generalize hjj : i % cs.length = j at hlt
  walk_at "rd"
  have hcell : (cs.map V.int)[j]? = some (.int cs[j]) := by rw [List.getElem?_map, List.getElem?_eq_getElem hlt]; rfl
  refine uIx_l (SqL.of u.hc) (atI_nat hcell) ?_
  generalize cs[j] = cell
  walk_at "rd"
  refine putR_l u.hp (j := 1) (by rfl) ?_
  have hl1 : ([V.ref c, .int (i : Nat)].set 1 (.int ((i : Nat) + 1))) = [V.ref c, .int (i + 1 : Nat)] := rfl
  rw [hl1]
  have x1 : PX p c H (upd H p (.lst [.ref c, .int (i + 1 : Nat)])) := fun a o n1 n2 e => by rw [upd_ne n1]; exact e
  have u1 : Pu p c cs (i + 1) (upd H p (.lst [.ref c, .int (i + 1 : Nat)])) := ⟨upd_same, by rw [upd_ne (Ne.symm hne)]; exact u.hc, u.pos, u.len⟩
  generalize upd H p (.lst [.ref c, .int (i + 1 : Nat)]) = H1 at x1 u1
  walk_at "rd"
  refine uPow_i ⟨by decide, by decide⟩ ?_
  walk_at "rd"
  refine br_c (fun h => ?_) (fun h => ?_)
  · walk_at "rd"
    refine uDiv_i ⟨by omega, Nat.lt_of_lt_of_le (lg (k := 200) (by decide) (Nat.lt_of_le_of_lt (show m.natAbs ≤ 10 ^ 30 by omega) (by decide))) (by decide)⟩ ?_
    walk_at "rd"
    have hix : ixN (cs.map V.int).length (j : Int) = some j := by
      unfold ixN
      rw [if_pos (by omega), if_pos (by rw [List.length_map]; omega)]
      rfl
    refine putR_l u1.hc hix ?_
    walk_at "rd"
    refine uMod_i (by omega) ?_
    walk_at "rd"
    refine q _ (cs.set j (cell / m)) _ (x1.trans fun a o n1 n2 e => by rw [upd_ne n2]; exact e) ⟨by rw [upd_ne hne]; exact u1.hp, ?_, by rw [List.length_set]; exact u.pos, by rw [List.length_set]; exact u.len⟩ (Int.emod_nonneg _ (by omega)) (Int.emod_lt_of_pos _ (by omega))
    rw [upd_same, List.map_set]
  · walk_at "rd"
    refine uMod_i (by omega) ?_
    have a1 := Int.emod_nonneg cell (show (2147483629 : Int) ≠ 0 by decide)
    have a2 := Int.emod_lt_of_pos cell (show (0 : Int) < 2147483629 by decide)
    generalize cell % 2147483629 = x at a1 a2
    walk_at "rd"
    refine uMul_i (cm (by omega) (by decide)) ?_
    walk_at "rd"
    refine uMul_i (cm (by omega) (by omega)) ?_
    walk_at "rd"
    have hw : ((i : Nat) : Int) * ((i : Nat) : Int) ≤ 1000000 * 1000000 := Int.mul_le_mul (by omega) (by omega) (by omega) (by omega)
    have hw0 : 0 ≤ ((i : Nat) : Int) * ((i : Nat) : Int) := Int.mul_nonneg (by omega) (by omega)
    refine uMul_i (cm (by omega) (by decide)) ?_
    walk_at "rd"
    refine uMod_i (by decide) ?_
    generalize hn : (x * 48271 + ((i : Nat) : Int) * ((i : Nat) : Int) * 69621 + 11) % 2147483647 = n1
    have b1 : 0 ≤ n1 := by rw [← hn]; exact Int.emod_nonneg _ (by decide)
    have b2 : n1 < 2147483647 := by rw [← hn]; exact Int.emod_lt_of_pos _ (by decide)
    walk_at "rd"
    refine uMul_i (cm (by omega) (by omega)) ?_
    walk_at "rd"
    refine uMod_i (by decide) ?_
    generalize hn2 : n1 * n1 % 2147483629 = n2
    have c1 : 0 ≤ n2 := by rw [← hn2]; exact Int.emod_nonneg _ (by decide)
    have c2 : n2 < 2147483629 := by rw [← hn2]; exact Int.emod_lt_of_pos _ (by decide)
    walk_at "rd"
    refine uMul_i (cm (by omega) (by omega)) ?_
    walk_at "rd"
    refine uMod_i (by decide) ?_
    generalize hn3 : n2 * n2 % 2147483587 = n3
    have d1 : 0 ≤ n3 := by rw [← hn3]; exact Int.emod_nonneg _ (by decide)
    have d2 : n3 < 2147483587 := by rw [← hn3]; exact Int.emod_lt_of_pos _ (by decide)
    walk_at "rd"
    refine uPow_i ⟨by decide, by decide⟩ ?_
    walk_at "rd"
    refine br_c (fun h => ?_) (fun h => ?_)
    · walk_at "rd"
      refine uMul_i (cm (by omega) (by decide)) ?_
      walk_at "rd"
      refine uMul_i (cm (by omega) (by decide)) ?_
      walk_at "rd"
      refine uMod_i (by decide) ?_
      generalize hn4 : (n3 * 39373 + ((i : Nat) : Int) * 7919 + 500) % 2147483629 = o1
      have e1 : 0 ≤ o1 := by rw [← hn4]; exact Int.emod_nonneg _ (by decide)
      have e2 : o1 < 2147483629 := by rw [← hn4]; exact Int.emod_lt_of_pos _ (by decide)
      walk_at "rd"
      refine uMul_i (cm (by omega) (by omega)) ?_
      have f1 : 0 ≤ o1 * o1 := Int.mul_nonneg e1 e1
      have f2 : o1 * o1 ≤ 2147483629 * 2147483629 := Int.mul_le_mul (by omega) (by omega) e1 (by omega)
      generalize o1 * o1 = oo at f1 f2
      walk_at "rd"
      refine uMul_i (cm (by omega) (by omega)) ?_
      have g1 : 0 ≤ oo * o1 := Int.mul_nonneg f1 e1
      have g2 : oo * o1 ≤ (2147483629 * 2147483629) * 2147483629 := Int.mul_le_mul f2 (by omega) e1 (by omega)
      generalize oo * o1 = ooo at g1 g2
      walk_at "rd"
      refine uMul_i (cm (by omega) (by omega)) ?_
      walk_at "rd"
      refine uMod_i (by omega) ?_
      walk_at "rd"
      exact q _ cs _ x1 u1 (Int.emod_nonneg _ (by omega)) (Int.emod_lt_of_pos _ (by omega))
    · walk_at "rd"
      refine uMod_i (by omega) ?_
      walk_at "rd"
      exact q _ cs _ x1 u1 (Int.emod_nonneg _ (by omega)) (Int.emod_lt_of_pos _ (by omega))
end
end K96
end

section
set_option Elab.async false
set_option linter.all false
set_option maxRecDepth 100000
set_option maxHeartbeats 4000000
open PySem PySem.Spec PyProof.Rows L2 CL
local macro_rules | `(tactic| walk_at "rd1") => `(tactic| first
  | (with_reducible refine g_seq ?_) | ((with_reducible apply g_var); rfl) | (with_reducible refine g_c ?_) | (with_reducible refine g_op ?_) | (with_reducible refine g_cons ?_) | (with_reducible refine g_nil ?_)
  | (with_reducible refine g_if ?_) | (with_reducible refine g_ct ?_) | (with_reducible refine g_tr ?_) | (with_reducible refine g_and ?_) | (with_reducible refine g_or ?_) | (with_reducible refine g_not ?_)
  | (with_reducible refine asB_bl ?_) | (with_reducible refine tru_bl ?_) | (with_reducible refine g_ret ?_) | (with_reducible refine g_set ?_) | (with_reducible refine g_fn ?_) | (with_reducible refine g_call ?_)
  | (with_reducible refine g_meth ?_) | (with_reducible refine g_fld ?_) | (with_reducible refine nx_seq ?_) | (with_reducible refine nx_loop ?_) | (with_reducible refine nx_top ?_) | (with_reducible refine rt_seq ?_)
  | (with_reducible refine rt_loop ?_) | (with_reducible refine rt_top ?_) | (with_reducible refine bk_seq ?_) | (with_reducible refine bk_loop ?_) | (with_reducible refine ct_seq ?_) | (with_reducible refine ct_loop ?_)
  | (with_reducible refine g_end ?_) | (with_reducible refine uAdd_i ?_) | (with_reducible refine uSub_i ?_) | (with_reducible refine uEq_i ?_) | (with_reducible refine uEq_s ?_) | (with_reducible refine uNe_i ?_) | (with_reducible refine uNe_s ?_)
  | (with_reducible refine uLt_i ?_) | (with_reducible refine uLe_i ?_) | (with_reducible refine uGt_i ?_) | (with_reducible refine uGe_i ?_) | (with_reducible refine uIs_n ?_) | (with_reducible refine uIsNot_n ?_)
  | (with_reducible refine g_tup ?_) | (with_reducible refine g_lst ?_) | (with_reducible refine g_sl ?_) | (with_reducible refine g_no ?_) | (with_reducible refine g_part ?_) | (with_reducible refine g_ifE ?_) | (with_reducible refine g_ofT ?_)
  | (with_reducible refine g_unp2 ?_) | (with_reducible refine g_put ?_) | (with_reducible refine g_retN ?_) | (with_reducible refine g_drop ?_) | (with_reducible refine g_brk ?_) | (with_reducible refine g_cnt ?_) | (with_reducible refine iAdd_i ?_)
  | ((with_reducible apply g_aug); rfl) | (with_reducible refine g_sto ?_) | (with_reducible refine g_stoA ?_) | (with_reducible refine g_for ?_) | (with_reducible refine g_wh ?_) | (with_reducible refine g_rs ?_) | (with_reducible refine g_rsX ?_)
  | (with_reducible refine g_g ?_) | (with_reducible refine g_g2 ?_) | (with_reducible refine g_callN ?_) | (with_reducible refine g_app ?_) | (with_reducible refine g_join ?_) | (with_reducible refine strA_i ?_) | (with_reducible refine g_it ?_)
  | (with_reducible refine itR_s ?_) | (with_reducible refine g_rng ?_) | (with_reducible refine g_vals ?_) | (with_reducible refine g_zip ?_) | (with_reducible refine g_rep ?_) | (with_reducible refine g_new ?_) | (with_reducible refine g_disp ?_)
  | (with_reducible refine g_andV ?_) | (with_reducible refine g_orV ?_) | (with_reducible refine g_notV ?_) | (with_reducible refine g_un ?_) | (with_reducible refine uNeg_i ?_) | (with_reducible refine g_yes ?_) | (with_reducible refine g_make ?_)
  | (with_reducible refine g_try ?_) | (with_reducible refine g_lc ?_) | (with_reducible refine intR_b ?_) | (with_reducible refine minR_i ?_) | (with_reducible refine tru_int ?_))
local macro_rules | `(tactic| walk_at "rd") => `(tactic| repeat (walk_at "rd1"))
namespace K96
open PySem PySem.Spec PyProof.Rows L2 CL
theorem num_nat (n : Nat) : num ((n : Nat) : Int) = TL.numL n := TL.tl_num n
theorem num_neg (n : Nat) : num (Int.negSucc n) = 45 :: TL.numL (n + 1) := by
  have h := TL.tl_num (n + 1)
  have e : toString (Int.negSucc n) = "-" ++ toString (((n + 1 : Nat) : Nat) : Int) := rfl
  unfold num
  rw [e]
  unfold TL.tl at h
  rw [← h, Str.ofString_eq_toList, Str.ofString_eq_toList, String.toList_append]
  simp
theorem num_len {i : Int} (h : i.natAbs < 10 ^ 30) : (num i).length ≤ 31 := by
  cases i with
  | ofNat n =>
    rw [show Int.ofNat n = ((n : Nat) : Int) from rfl, num_nat]
    exact Nat.le_trans (TL.numL_len (k := 30) (by decide) h) (by decide)
  | negSucc n =>
    rw [num_neg, List.length_cons]
    have := TL.numL_len (n := n + 1) (k := 30) (by decide) h
    omega
theorem lfix {n : Int} (h : 0 ≤ n) : ∃ m : Nat, n = (m : Nat) := ⟨n.toNat, by omega⟩
def sp__law_purse (K : PySem.W.Frag) : Sp := sp1 fun v H Q _ => ∃ (s : Addr) (ns : List Int), v = .ref s ∧ SqL K H s (ns.map V.int) ∧ ∀ H' p c cs, Ext H H' → H p = none → H c = none → Pu p c cs 0 H' → Q (.ref p) H'
def sp__law_text : Sp := sp1 fun v H Q _ => ∃ p c cs i, v = .ref p ∧ Pu p c cs i H ∧ i ≤ 900000 ∧ ∀ (H' : Hp) (x : List Nat) (cs' : List Int) (i' : Nat), PX p c H H' → Pu p c cs' i' H' → i' ≤ i + 20 → tx9 x → Q (.str (S x)) H'
def sp__law_plain : Sp := sp1 fun v H Q _ => ∃ p c cs i, v = .ref p ∧ Pu p c cs i H ∧ i ≤ 800000 ∧ ∀ H' d v cs' i', PX p c H H' → Pu p c cs' i' H' → i' ≤ i + 30 → flatD d → okD d → (spell d).length ≤ 40 → (∀ G, Rep G v d) → Q v H'
section
variable {K : PySem.W.Frag} {w : World}
theorem draw_go {p c : Addr} {cs : List Int} {i : Nat} {m : Int} {H : Hp} {Q : VK} {E : XK} (u : Pu p c cs i H) (hi : i ≤ 1000000) (m1 : 1 ≤ m) (m2 : m ≤ 10 ^ 30)
    (q : ∀ H' cs' (n : Nat), PX p c H H' → Pu p c cs' (i + 1) H' → (n : Int) < m → Q (.int (n : Nat)) H') : sp__law_draw [.ref p, .int m] H Q E := by
  refine ⟨_, _, rfl, p, c, cs, i, m, rfl, rfl, u, hi, m1, m2, fun H' cs' n x u' h0 hlt => ?_⟩
  obtain ⟨k, rfl⟩ := lfix h0
  exact q H' cs' k x u' hlt
theorem w_pick {tab : List Nat} {m : Int} {p c : Addr} {cs : List Int} {i n : Nat} {a b : Option V} {H : Hp} {Q : VK} {E : XK} (hm : m = tab.length) (h0 : 0 < tab.length) (h1 : tab.length ≤ 100) (hn : n ≤ 100) (ht9 : ∀ c, c ∈ tab → c < 0x110000) (u : Pu p c cs i H) (hi : i + n ≤ 1000000)
    (q : ∀ (H' : Hp) (xs : List Nat) (cs' : List Int) (i' : Nat) (D : Addr), PX p c H H' → Pu p c cs' i' H' → i' ≤ i + n → xs.length = n → (∀ c, c ∈ xs → c < 0x110000) → H' D = none → Q (.ref D) (upd H' D (.lst (xs.map fun c => V.str (S [c]))))) :
    lcR (Itr 0 n) (xG 2) tYes (xOp (uIx K w) (xC (.str (S tab))) (xCall sp__law_draw [] (fun cls d _ H' => E cls d H') (xCons (xVar 0) (xCons (xC (.int m)) xNil)))) [2] [some (.ref p), a, b] H Q := by
  refine lc_w walk_range (fun t H' acc => ∃ cs' i' xs, PX p c H H' ∧ Pu p c cs' i' H' ∧ i' ≤ i + t ∧ xs.length = t ∧ (∀ c, c ∈ xs → c < 0x110000) ∧ acc = xs.map fun c => V.str (S [c])) ⟨cs, i, [], .refl, u, by omega, rfl, fun _ h => by simp at h, rfl⟩
    (fun t H' acc ht ⟨_, _, xs, _, _, _, hl, _, he⟩ => ⟨trivial, by rw [he, List.length_map, hl]; exact Nat.le_refl _⟩) (sl (by omega)) ?_ ?_
  · rintro t x H1 H2 acc ht ⟨cs', i', xs, x1, u1, hi', hl, h9, rfl⟩ ⟨rfl, rfl⟩
    walk_at "rd"
    refine ⟨rfl, ?_⟩
    walk_at "rd"
    refine br_t ?_
    walk_at "rd"
    refine draw_go u1 (by omega) (by omega) (by rw [hm]; omega) fun H3 cs3 k x3 u3 hk => ?_
    have hk : k < tab.length := by omega
    refine uIx_s (c := tab[k]) (sl (by rw [SX.S_len]; omega)) (atI_nat (by simp [hk])) ?_
    exact ⟨cs3, i' + 1, xs ++ [tab[k]], x1.trans x3, u3, by omega, by simp [hl], fun z hz => by
      rcases List.mem_append.mp hz with hz | hz
      · exact h9 z hz
      · rw [List.mem_singleton.mp hz]; exact ht9 _ (List.getElem_mem _), by simp⟩
  · rintro H1 acc ⟨cs', i', xs, x1, u1, hi', hl, h9, rfl⟩ D hD
    exact q H1 xs cs' i' D x1 u1 hi' hl h9 hD
theorem w_pickJ {xs : List Nat} {D : Addr} {H : Hp} {Q : VK} (h : xs.length ≤ 1000) (q : Q (.str (S xs)) (upd H D (.lst (xs.map fun c => V.str (S [c]))))) : joinR K (.str (S [])) (.ref D) (upd H D (.lst (xs.map fun c => V.str (S [c])))) Q := by
  have e : (xs.map fun c => V.str (S [c])) = ((xs.map fun c => [c]).map S).map V.str := by simp [List.map_map]
  refine joinR_l (zs := (xs.map fun c => [c]).map S) (SqL.of (by rw [upd_same, e])) ?_ ?_
  · rw [sum_S]
    have : ((xs.map fun c => [c]).map List.length).sum = xs.length := by
      clear q e h
      induction xs with
      | nil => rfl
      | cons a r ih =>
        rw [List.map_cons, List.map_cons, List.sum_cons, ih, List.length_cons]
        show 1 + r.length = r.length + 1
        omega
    rw [this]
    simp only [List.length_map]
    show _ + _ * ([] : List Nat).toArray.size ≤ _
    simp only [List.size_toArray, List.length_nil]
    omega
  · rw [join_flat]
    have : (xs.map fun c => [c]).flatten = xs := by
      clear q e h
      induction xs with
      | nil => rfl
      | cons a r ih => simp [ih]
    rw [this]
    exact q
theorem w__law_text {H : Hp} {vs : List V} {Q : VK} {E : XK} (h : sp__law_text vs H Q E) : t__law_text K w sp__law_draw (fun cls d _ H' => E cls d H') (topE Q) (start N__law_text vs) H := by
  obtain ⟨v, rfl, p, c, cs, i, rfl, u, hi, q⟩ := h
  unfold t__law_text
  walk_at "rd"
  refine draw_go u (by omega) (by decide) (by decide) fun H1 cs1 k x1 u1 hk => ?_
  walk_at "rd"
  have fin : ∀ {H2 : Hp} {cs2 : List Int} {i2 : Nat} {xs : List Nat} {D : Addr}, PX p c H H2 → Pu p c cs2 i2 H2 → i2 ≤ i + 20 → tx9 xs → H2 D = none → Q (.str (S xs)) (upd H2 D (.lst (xs.map fun c => V.str (S [c])))) :=
    fun x2 u2 h2 h3 hD => q _ _ _ _ (x2.trans (.of (.new hD))) (u2.ext (.new hD)) h2 h3
  refine br_c (fun h => ?_) (fun h => ?_)
  · walk_at "rd"
    refine ⟨sb (by simp), fun D hD => ?_⟩
    walk_at "rd"
    have u1' := u1.ext (.new (o := .lst [.str (S [110, 111, 110, 101]), .str (S [121, 101, 115]), .str (S [110, 111]), .str (S []), .str (S [97]), .str (S [110]), .str (S [110, 111, 110, 101, 115]), .str (S [122, 122])]) hD)
    refine draw_go u1' (by omega) (by decide) (by decide) fun H2 cs2 k2 x2 u2 hk2 => ?_
    have hDp : D ≠ p := fun z => by rw [z, u1.hp] at hD; cases hD
    have hDc : D ≠ c := fun z => by rw [z, u1.hc] at hD; cases hD
    have key : ∀ m : Nat, m < 8 → ∃ x : List Nat, [V.str (S [110, 111, 110, 101]), .str (S [121, 101, 115]), .str (S [110, 111]), .str (S []), .str (S [97]), .str (S [110]), .str (S [110, 111, 110, 101, 115]), .str (S [122, 122])][m]? = some (.str (S x)) ∧ tx9 x := by
      intro m hm
      match m, hm with
      | 0, _ => exact ⟨[110, 111, 110, 101], rfl, by unfold tx9; decide +kernel⟩
      | 1, _ => exact ⟨[121, 101, 115], rfl, by unfold tx9; decide +kernel⟩
      | 2, _ => exact ⟨[110, 111], rfl, by unfold tx9; decide +kernel⟩
      | 3, _ => exact ⟨[], rfl, by unfold tx9; decide +kernel⟩
      | 4, _ => exact ⟨[97], rfl, by unfold tx9; decide +kernel⟩
      | 5, _ => exact ⟨[110], rfl, by unfold tx9; decide +kernel⟩
      | 6, _ => exact ⟨[110, 111, 110, 101, 115], rfl, by unfold tx9; decide +kernel⟩
      | 7, _ => exact ⟨[122, 122], rfl, by unfold tx9; decide +kernel⟩
    obtain ⟨x, hx, hxl⟩ := key k2 (by omega)
    refine uIx_l (SqL.of (x2 _ _ hDp hDc upd_same)) (atI_nat hx) ?_
    walk_at "rd"
    exact q _ _ _ _ ((x1.trans (.of (.new hD))).trans x2) u2 (by omega) hxl
  · walk_at "rd"
    refine br_c (fun h => ?_) (fun h => ?_)
    · walk_at "rd"
      refine draw_go u1 (by omega) (by decide) (by decide) fun H2 cs2 k2 x2 u2 hk2 => ?_
      refine rngR_i (by omega) (by omega) ?_
      refine w_pick (ht9 := by decide +kernel) (tab := [39, 94, 110, 10, 65, 122, 32, 48]) rfl (by decide) (by decide) (by simp; omega) u2 (by simp; omega) fun H3 xs cs3 i3 D x3 u3 hi3 hl h9 hD => ?_
      simp only [Int.toNat_natCast] at hi3 hl
      refine w_pickJ (by omega) ?_
      walk_at "rd"
      exact fin ((x1.trans x2).trans x3) u3 (by omega) ⟨by omega, h9⟩ hD
    · walk_at "rd"
      refine br_c (fun h => ?_) (fun h => ?_)
      · walk_at "rd"
        refine draw_go u1 (by omega) (by decide) (by decide) fun H2 cs2 k2 x2 u2 hk2 => ?_
        refine rngR_i (by omega) (by omega) ?_
        refine w_pick (ht9 := by decide +kernel) (tab := [126, 33, 123, 125, 40, 41, 91, 93, 45, 44, 46, 39]) rfl (by decide) (by decide) (by simp; omega) u2 (by simp; omega) fun H3 xs cs3 i3 D x3 u3 hi3 hl h9 hD => ?_
        simp only [Int.toNat_natCast] at hi3 hl
        refine w_pickJ (by omega) ?_
        walk_at "rd"
        exact fin ((x1.trans x2).trans x3) u3 (by omega) ⟨by omega, h9⟩ hD
      · walk_at "rd"
        refine draw_go u1 (by omega) (by decide) (by decide) fun H2 cs2 k2 x2 u2 hk2 => ?_
        walk_at "rd"
        have e1 : (1 : Int) + (k2 : Nat) = ((k2 + 1 : Nat) : Int) := by omega
        rw [e1]
        refine rngR_i (by omega) (by omega) ?_
        refine w_pick (ht9 := by decide +kernel) (tab := [97, 98, 110, 111, 115, 121, 122]) rfl (by decide) (by decide) (by simp; omega) u2 (by simp; omega) fun H3 xs cs3 i3 D x3 u3 hi3 hl h9 hD => ?_
        simp only [Int.toNat_natCast] at hi3 hl
        refine w_pickJ (by omega) ?_
        walk_at "rd"
        exact fin ((x1.trans x2).trans x3) u3 (by omega) ⟨by omega, h9⟩ hD
end
end K96
end

section
set_option Elab.async false
set_option linter.all false
set_option maxRecDepth 100000
set_option maxHeartbeats 4000000
open PySem PySem.Spec PyProof.Rows L2 CL
local macro_rules | `(tactic| walk_at "rd1") => `(tactic| first
  | (with_reducible refine g_seq ?_) | ((with_reducible apply g_var); rfl) | (with_reducible refine g_c ?_) | (with_reducible refine g_op ?_) | (with_reducible refine g_cons ?_) | (with_reducible refine g_nil ?_)
  | (with_reducible refine g_if ?_) | (with_reducible refine g_ct ?_) | (with_reducible refine g_tr ?_) | (with_reducible refine g_and ?_) | (with_reducible refine g_or ?_) | (with_reducible refine g_not ?_)
  | (with_reducible refine asB_bl ?_) | (with_reducible refine tru_bl ?_) | (with_reducible refine g_ret ?_) | (with_reducible refine g_set ?_) | (with_reducible refine g_fn ?_) | (with_reducible refine g_call ?_)
  | (with_reducible refine g_meth ?_) | (with_reducible refine g_fld ?_) | (with_reducible refine nx_seq ?_) | (with_reducible refine nx_loop ?_) | (with_reducible refine nx_top ?_) | (with_reducible refine rt_seq ?_)
  | (with_reducible refine rt_loop ?_) | (with_reducible refine rt_top ?_) | (with_reducible refine bk_seq ?_) | (with_reducible refine bk_loop ?_) | (with_reducible refine ct_seq ?_) | (with_reducible refine ct_loop ?_)
  | (with_reducible refine g_end ?_) | (with_reducible refine uAdd_i ?_) | (with_reducible refine uSub_i ?_) | (with_reducible refine uEq_i ?_) | (with_reducible refine uEq_s ?_) | (with_reducible refine uNe_i ?_) | (with_reducible refine uNe_s ?_)
  | (with_reducible refine uLt_i ?_) | (with_reducible refine uLe_i ?_) | (with_reducible refine uGt_i ?_) | (with_reducible refine uGe_i ?_) | (with_reducible refine uIs_n ?_) | (with_reducible refine uIsNot_n ?_)
  | (with_reducible refine g_tup ?_) | (with_reducible refine g_lst ?_) | (with_reducible refine g_sl ?_) | (with_reducible refine g_no ?_) | (with_reducible refine g_part ?_) | (with_reducible refine g_ifE ?_) | (with_reducible refine g_ofT ?_)
  | (with_reducible refine g_unp2 ?_) | (with_reducible refine g_put ?_) | (with_reducible refine g_retN ?_) | (with_reducible refine g_drop ?_) | (with_reducible refine g_brk ?_) | (with_reducible refine g_cnt ?_) | (with_reducible refine iAdd_i ?_)
  | ((with_reducible apply g_aug); rfl) | (with_reducible refine g_sto ?_) | (with_reducible refine g_stoA ?_) | (with_reducible refine g_for ?_) | (with_reducible refine g_wh ?_) | (with_reducible refine g_rs ?_) | (with_reducible refine g_rsX ?_)
  | (with_reducible refine g_g ?_) | (with_reducible refine g_g2 ?_) | (with_reducible refine g_callN ?_) | (with_reducible refine g_app ?_) | (with_reducible refine g_join ?_) | (with_reducible refine strA_i ?_) | (with_reducible refine g_it ?_)
  | (with_reducible refine itR_s ?_) | (with_reducible refine g_rng ?_) | (with_reducible refine g_vals ?_) | (with_reducible refine g_zip ?_) | (with_reducible refine g_rep ?_) | (with_reducible refine g_new ?_) | (with_reducible refine g_disp ?_)
  | (with_reducible refine g_andV ?_) | (with_reducible refine g_orV ?_) | (with_reducible refine g_notV ?_) | (with_reducible refine g_un ?_) | (with_reducible refine uNeg_i ?_) | (with_reducible refine g_yes ?_) | (with_reducible refine g_make ?_)
  | (with_reducible refine g_try ?_) | (with_reducible refine g_lc ?_) | (with_reducible refine intR_b ?_) | (with_reducible refine minR_i ?_) | (with_reducible refine tru_int ?_))
local macro_rules | `(tactic| walk_at "rd") => `(tactic| repeat (walk_at "rd1"))
namespace K96
open PySem PySem.Spec PyProof.Rows L2 CL
theorem cut63 (ns : List Int) : ∃ ms : List Int, cutV (ns.map V.int) none (some 63) = ms.map V.int ∧ ms.length ≤ 63 := by
  unfold cutV
  rw [HT.sIx_none]
  have e : HT.sIx (ns.map V.int).length (ns.map V.int).length (some 63) = min 63 (ns.map V.int).length := HT.sIx_nat _ _ 63
  rw [e]
  refine ⟨(ns.drop 0).take (min 63 (ns.map V.int).length - 0), by rw [List.map_take, List.map_drop], ?_⟩
  rw [List.length_take]
  omega
section
variable {K : PySem.W.Frag} {w : World}
theorem w__law_purse {H : Hp} {vs : List V} {Q : VK} {E : XK} (h : sp__law_purse K vs H Q E) : t__law_purse K w (fun cls d _ H' => E cls d H') (topE Q) (start N__law_purse vs) H := by
  obtain ⟨v, rfl, s, ns, rfl, hs, q⟩ := h
  unfold t__law_purse
  walk_at "rd"
  refine ⟨63, rfl, ?_⟩
  refine uSl_l hs fun pS hpS => ?_
  obtain ⟨ms, e, hms⟩ := cut63 ns
  rw [e]
  refine itR_l (SqL.of upd_same) ?_
  have x1 := Ext.new (o := .lst (ms.map V.int)) hpS
  generalize hH1 : upd H pS (.lst (ms.map V.int)) = H1 at x1
  have hS : H1 pS = some (.lst (ms.map V.int)) := by rw [← hH1]; exact upd_same
  refine lc_w walk_list (fun t H' acc => Ext H1 H' ∧ ∃ ks : List Int, acc = ks.map V.int ∧ ks.length = t) ⟨.refl, [], rfl, rfl⟩ (fun t H' acc ht ⟨x, ks, he, hl⟩ => ⟨SqL.of (x _ _ hS), by rw [he, List.length_map, hl]; exact Nat.le_refl _⟩) (by rw [List.length_map]; exact sl (by omega)) ?_ ?_
  · rintro t x H2 H3 acc ht ⟨x2, ks, rfl, hl⟩ ⟨rfl, hx⟩
    obtain ⟨m, rfl⟩ : ∃ m, x = V.int m := by
      rw [List.getElem?_map] at hx
      cases hm : ms[t]? with
      | none => rw [hm] at hx; cases hx
      | some m => rw [hm] at hx; exact ⟨m, (Option.some.inj hx).symm⟩
    walk_at "rd"
    refine ⟨rfl, ?_⟩
    walk_at "rd"
    refine br_t ?_
    walk_at "rd"
    refine uPow_i ⟨by decide, by decide⟩ ?_
    walk_at "rd"
    refine uPow_i ⟨by decide, by decide +kernel⟩ ?_
    refine uMod_i (Int.pow_pos (Int.pow_pos (by decide))) ?_
    exact ⟨x2, ks ++ [_], by rw [List.map_append]; rfl, by rw [List.length_append, hl]; rfl⟩
  · rintro H2 acc ⟨x2, ks, rfl, hl⟩ D hD
    rw [List.length_map] at hl
    walk_at "rd"
    have x3 := (x1.trans x2).on (o := .lst (ks.map V.int)) hD
    generalize hH3 : upd H2 D (.lst (ks.map V.int)) = H3 at x3
    have hD3 : H3 D = some (.lst (ks.map V.int)) := by rw [← hH3]; exact upd_same
    refine ⟨sb (by simp), fun e he => ?_⟩
    have x4 := Ext.new (o := .lst []) he
    refine uEq_e (SqL.of (x4 _ _ hD3)) upd_same ?_
    walk_at "rd"
    have hD0 : H D = none := by
      cases z : H D with
      | none => rfl
      | some o => rw [(x1.trans x2) _ _ z] at hD; cases hD
    cases ks with
    | nil =>
      refine br_t ?_
      walk_at "rd"
      refine ⟨sb (by simp), fun c hc => ?_⟩
      walk_at "rd"
      refine ⟨sb (by simp), fun p hp => ?_⟩
      walk_at "rd"
      have x5 := (x3.trans x4).on (o := .lst [.int 0]) hc
      refine q _ p c [0] (x5.on hp) (x5.none hp) ((x3.trans x4).none hc) ⟨upd_same, ?_, by decide, by decide⟩
      rw [upd_ne (fun z => by rw [← z, upd_same] at hp; cases hp), upd_same]
      rfl
    | cons k0 kr =>
      refine br_f ?_
      walk_at "rd"
      refine ⟨sb (by simp), fun p hp => ?_⟩
      walk_at "rd"
      refine q _ p D (k0 :: kr) ((x3.trans x4).on hp) ((x3.trans x4).none hp) hD0 ⟨upd_same, ?_, by simp, by omega⟩
      exact (Ext.new hp) _ _ (x4 _ _ hD3)
theorem w__law_plain {H : Hp} {vs : List V} {Q : VK} {E : XK} (h : sp__law_plain vs H Q E) : t__law_plain K w sp__law_draw sp__law_text (fun cls d _ H' => E cls d H') (topE Q) (start N__law_plain vs) H := by
  obtain ⟨v, rfl, p, c, cs, i, rfl, u, hi, q⟩ := h
  unfold t__law_plain
  walk_at "rd"
  refine draw_go u (by omega) (by decide) (by decide) fun H1 cs1 k x1 u1 hk => ?_
  walk_at "rd"
  have off : ∀ {H2 : Hp} {cs2 : List Int} {i2 : Nat} {D : Addr}, Pu p c cs2 i2 H2 → H2 D = none → D ≠ p ∧ D ≠ c := fun u2 hD => ⟨fun z => (by rw [z, u2.hp] at hD; cases hD), fun z => (by rw [z, u2.hc] at hD; cases hD)⟩
  refine br_c (fun h => ?_) (fun h => ?_)
  · walk_at "rd"
    refine sp1_go ⟨p, c, cs1, i + 1, rfl, u1, by omega, fun H2 x cs2 i2 x2 u2 hi2 hl => ?_⟩
    walk_at "rd"
    refine q H2 (.str x) _ cs2 i2 (x1.trans x2) u2 (by omega) trivial trivial ?_ fun G => .str x
    have := word_len x
    have hl := hl.1
    show (word x).length ≤ 40
    omega
  · walk_at "rd"
    refine br_c (fun h => ?_) (fun h => ?_)
    · walk_at "rd"
      refine ⟨sb (by simp), fun D hD => ?_⟩
      walk_at "rd"
      obtain ⟨n1, n2⟩ := off u1 hD
      refine draw_go (u1.ext (.new hD)) (by omega) (by decide) (by decide) fun H2 cs2 k2 x2 u2 hk2 => ?_
      have xx := (x1.trans (.of (.new hD))).trans x2
      have key : ∀ m : Nat, m < 3 → ∃ (x : V) (d : CL.D), [V.non, .bl true, .bl false][m]? = some x ∧ flatD d ∧ okD d ∧ (spell d).length ≤ 40 ∧ ∀ G, Rep G x d := by
        intro m hm
        match m, hm with
        | 0, _ => exact ⟨_, .non, rfl, trivial, trivial, by decide, fun G => .non⟩
        | 1, _ => exact ⟨_, .bl true, rfl, trivial, trivial, by decide, fun G => .bl true⟩
        | 2, _ => exact ⟨_, .bl false, rfl, trivial, trivial, by decide, fun G => .bl false⟩
      obtain ⟨x, d, hx, g1, g2, g3, g4⟩ := key k2 (by omega)
      refine uIx_l (SqL.of (x2 _ _ n1 n2 upd_same)) (atI_nat hx) ?_
      walk_at "rd"
      exact q _ d _ _ _ xx u2 (by omega) g1 g2 g3 g4
    · walk_at "rd"
      refine draw_go u1 (by omega) (by decide) (by decide) fun H2 cs2 k2 x2 u2 hk2 => ?_
      walk_at "rd"
      refine draw_go u2 (by omega) (by decide) (by decide) fun H3 cs3 k3 x3 u3 hk3 => ?_
      walk_at "rd"
      refine uPow_i ⟨by decide, by decide⟩ ?_
      walk_at "rd"
      refine draw_go u3 (by omega) (by decide) (by decide) fun H4 cs4 k4 x4 u4 hk4 => ?_
      walk_at "rd"
      refine ⟨sb (by simp), fun D hD => ?_⟩
      walk_at "rd"
      obtain ⟨n1, n2⟩ := off u4 hD
      refine draw_go (u4.ext (.new hD)) (by omega) (by decide) (by decide) fun H5 cs5 k5 x5 u5 hk5 => ?_
      have xx := ((((x1.trans x2).trans x3).trans x4).trans (.of (.new hD))).trans x5
      have hk4' : k4 < 10 ^ 29 := by
        have : ((k4 : Nat) : Int) < ((10 ^ 29 : Nat) : Int) := hk4
        omega
      have key : ∀ m : Nat, m < 3 → ∃ n : Nat, [V.int (k2 : Nat), .int (k3 : Nat), .int (k4 : Nat)][m]? = some (.int (n : Nat)) ∧ n < 10 ^ 29 := by
        intro m hm
        match m, hm with
        | 0, _ => exact ⟨k2, rfl, by omega⟩
        | 1, _ => exact ⟨k3, rfl, by omega⟩
        | 2, _ => exact ⟨k4, rfl, hk4'⟩
      obtain ⟨n, hn, hnl⟩ := key k5 (by omega)
      refine uIx_l (SqL.of (x5 _ _ n1 n2 upd_same)) (atI_nat hn) ?_
      walk_at "rd"
      refine ⟨sb (by simp), fun D2 hD2 => ?_⟩
      walk_at "rd"
      obtain ⟨m1, m2⟩ := off u5 hD2
      refine draw_go (u5.ext (.new hD2)) (by omega) (by decide) (by decide) fun H6 cs6 k6 x6 u6 hk6 => ?_
      have key2 : ∀ m : Nat, m < 2 → ∃ j : Int, [V.int (n : Nat), .int (0 - (n : Nat))][m]? = some (.int j) ∧ j.natAbs < 10 ^ 29 := by
        intro m hm
        match m, hm with
        | 0, _ => exact ⟨_, rfl, by omega⟩
        | 1, _ => exact ⟨_, rfl, by omega⟩
      obtain ⟨j, hj, hjl⟩ := key2 k6 (by omega)
      refine uIx_l (SqL.of (x6 _ _ m1 m2 upd_same)) (atI_nat hj) ?_
      walk_at "rd"
      refine q _ (.int j) _ _ _ ((xx.trans (.of (.new hD2))).trans x6) u6 (by omega) trivial (Nat.lt_of_lt_of_le hjl (Nat.pow_le_pow_right (by decide) (by decide))) ?_ fun G => .int j
      have := num_len (i := j) (Nat.lt_of_lt_of_le hjl (Nat.pow_le_pow_right (by decide) (by decide)))
      show (num j).length ≤ 40
      omega
end
end K96
end

section
set_option Elab.async false
set_option linter.all false
set_option maxRecDepth 100000
set_option maxHeartbeats 4000000
open PySem PySem.Spec PyProof.Rows L2 CL
local macro_rules | `(tactic| walk_at "rd1") => `(tactic| first
  | (with_reducible refine g_seq ?_) | ((with_reducible apply g_var); rfl) | (with_reducible refine g_c ?_) | (with_reducible refine g_op ?_) | (with_reducible refine g_cons ?_) | (with_reducible refine g_nil ?_)
  | (with_reducible refine g_if ?_) | (with_reducible refine g_ct ?_) | (with_reducible refine g_tr ?_) | (with_reducible refine g_and ?_) | (with_reducible refine g_or ?_) | (with_reducible refine g_not ?_)
  | (with_reducible refine asB_bl ?_) | (with_reducible refine tru_bl ?_) | (with_reducible refine g_ret ?_) | (with_reducible refine g_set ?_) | (with_reducible refine g_fn ?_) | (with_reducible refine g_call ?_)
  | (with_reducible refine g_meth ?_) | (with_reducible refine g_fld ?_) | (with_reducible refine nx_seq ?_) | (with_reducible refine nx_loop ?_) | (with_reducible refine nx_top ?_) | (with_reducible refine rt_seq ?_)
  | (with_reducible refine rt_loop ?_) | (with_reducible refine rt_top ?_) | (with_reducible refine bk_seq ?_) | (with_reducible refine bk_loop ?_) | (with_reducible refine ct_seq ?_) | (with_reducible refine ct_loop ?_)
  | (with_reducible refine g_end ?_) | (with_reducible refine uAdd_i ?_) | (with_reducible refine uSub_i ?_) | (with_reducible refine uEq_i ?_) | (with_reducible refine uEq_s ?_) | (with_reducible refine uNe_i ?_) | (with_reducible refine uNe_s ?_)
  | (with_reducible refine uLt_i ?_) | (with_reducible refine uLe_i ?_) | (with_reducible refine uGt_i ?_) | (with_reducible refine uGe_i ?_) | (with_reducible refine uIs_n ?_) | (with_reducible refine uIsNot_n ?_)
  | (with_reducible refine g_tup ?_) | (with_reducible refine g_lst ?_) | (with_reducible refine g_sl ?_) | (with_reducible refine g_no ?_) | (with_reducible refine g_part ?_) | (with_reducible refine g_ifE ?_) | (with_reducible refine g_ofT ?_)
  | (with_reducible refine g_unp2 ?_) | (with_reducible refine g_put ?_) | (with_reducible refine g_retN ?_) | (with_reducible refine g_drop ?_) | (with_reducible refine g_brk ?_) | (with_reducible refine g_cnt ?_) | (with_reducible refine iAdd_i ?_)
  | ((with_reducible apply g_aug); rfl) | (with_reducible refine g_sto ?_) | (with_reducible refine g_stoA ?_) | (with_reducible refine g_for ?_) | (with_reducible refine g_wh ?_) | (with_reducible refine g_rs ?_) | (with_reducible refine g_rsX ?_)
  | (with_reducible refine g_g ?_) | (with_reducible refine g_g2 ?_) | (with_reducible refine g_callN ?_) | (with_reducible refine g_app ?_) | (with_reducible refine g_join ?_) | (with_reducible refine strA_i ?_) | (with_reducible refine g_it ?_)
  | (with_reducible refine itR_s ?_) | (with_reducible refine g_rng ?_) | (with_reducible refine g_vals ?_) | (with_reducible refine g_zip ?_) | (with_reducible refine g_rep ?_) | (with_reducible refine g_new ?_) | (with_reducible refine g_disp ?_)
  | (with_reducible refine g_andV ?_) | (with_reducible refine g_orV ?_) | (with_reducible refine g_notV ?_) | (with_reducible refine g_un ?_) | (with_reducible refine uNeg_i ?_) | (with_reducible refine g_yes ?_) | (with_reducible refine g_make ?_)
  | (with_reducible refine g_try ?_) | (with_reducible refine g_lc ?_) | (with_reducible refine intR_b ?_) | (with_reducible refine minR_i ?_) | (with_reducible refine tru_int ?_))
local macro_rules | `(tactic| walk_at "rd") => `(tactic| repeat (walk_at "rd1"))
namespace K96
open PySem PySem.Spec PyProof.Rows L2 CL
theorem lt_tri {a b : List Nat} (h1 : ¬ a < b) (h2 : a ≠ b) : b < a := by
  by_cases h : b < a
  · exact h
  · exact (h2 (List.le_antisymm (List.not_lt.mp h) (List.not_lt.mp h1))).elim
theorem ins_key {G : Hp} {kvs : List (Key × V)} {x : List Nat} {v : V} {d : D} (hv : valV kvs (keyS x) = some v) (hd : Rep G v d) (ks : List (List Nat)) : ∀ ds : List D, Rises ks → x ∉ ks → RepK G kvs ks ds →
    ∃ ks2 ds2, Rises ks2 ∧ ks2.Perm (x :: ks) ∧ RepK G kvs ks2 ds2 ∧ ∀ e ∈ ds2, e = d ∨ e ∈ ds := by
  induction ks with
  | nil =>
    intro ds hr hx rk
    cases rk
    exact ⟨[x], [d], List.pairwise_singleton _ _, .refl _, .cons hv hd .nil, by simp⟩
  | cons k ks ih =>
    intro ds hr hx rk
    cases rk with
    | @cons _ _ u e _ ds hk he rk =>
    obtain ⟨hr1, hr2⟩ := List.pairwise_cons.mp hr
    have hxk : x ≠ k := fun z => hx (by rw [z]; simp)
    by_cases hlt : x < k
    · refine ⟨x :: k :: ks, d :: e :: ds, List.pairwise_cons.mpr ⟨fun y hy => ?_, hr⟩, .refl _, .cons hv hd (.cons hk he rk), by simp⟩
      rcases List.mem_cons.mp hy with rfl | hy
      · exact hlt
      · exact List.lt_trans hlt (hr1 y hy)
    · obtain ⟨ks2, ds2, h1, h2, h3, h4⟩ := ih ds hr2 (fun z => hx (by simp [z])) rk
      refine ⟨k :: ks2, e :: ds2, List.pairwise_cons.mpr ⟨fun y hy => ?_, h1⟩, (h2.cons k).trans (.swap ..), .cons hk he h3, ?_⟩
      · rcases List.mem_cons.mp (h2.mem_iff.mp hy) with rfl | hy
        · exact lt_tri hlt hxk
        · exact hr1 y hy
      · intro f hf
        rcases List.mem_cons.mp hf with rfl | hf
        · exact .inr (by simp)
        · rcases h4 f hf with h | h
          · exact .inl h
          · exact .inr (by simp [h])
theorem RepK_pre {G : Hp} {kvs : List (Key × V)} {x : List Nat} {v : V} (ks : List (List Nat)) : ∀ ds : List D, x ∉ ks → RepK G kvs ks ds → RepK G ((keyS x, v) :: kvs) ks ds := by
  induction ks with
  | nil =>
    intro ds _ rk
    cases rk
    exact .nil
  | cons k ks ih =>
    intro ds hx rk
    cases rk with
    | cons e r q =>
      exact .cons (by
        rw [valV_neg (fun z => hx (by rw [keyS_inj z]; simp))]
        exact e) r (ih _ (fun z => hx (by simp [z])) q)
/-- a dict of any order, as data -/
theorem dct_of {G : Hp} {P : D → Prop} {B : List Nat → Prop} : ∀ {kvs : List (Key × V)}, (kvs.map (·.1)).Nodup → (∀ kv ∈ kvs, ∃ x d, kv.1 = keyS x ∧ B x ∧ Rep G kv.2 d ∧ P d) →
    ∃ ks ds, Rises ks ∧ (kvs.map (·.1)).Perm (ks.map keyS) ∧ RepK G kvs ks ds ∧ (∀ x ∈ ks, B x) ∧ ∀ d ∈ ds, P d
  | [], _, _ => ⟨[], [], .nil, .refl _, .nil, by simp, by simp⟩
  | (k, v) :: kvs, hn, h => by
    obtain ⟨hn1, hn2⟩ := List.nodup_cons.mp (show (k :: kvs.map (·.1)).Nodup from hn)
    obtain ⟨ks, ds, h1, h2, h3, h4, h5⟩ := dct_of (P := P) (B := B) hn2 fun kv hkv => h kv (by simp [hkv])
    obtain ⟨x, d, e, hb, hr, hp⟩ := h (k, v) (by simp)
    have e : k = keyS x := e
    subst e
    have hx : x ∉ ks := fun z => hn1 (h2.mem_iff.mpr (List.mem_map_of_mem z))
    obtain ⟨ks2, ds2, g1, g2, g3, g4⟩ := ins_key (kvs := (keyS x, v) :: kvs) (by rw [valV_pos rfl]) hr ks ds h1 hx (RepK_pre ks ds hx h3)
    refine ⟨ks2, ds2, g1, ?_, g3, fun y hy => ?_, fun f hf => ?_⟩
    · exact ((h2.cons (keyS x)).trans (g2.map keyS).symm)
    · rcases List.mem_cons.mp (g2.mem_iff.mp hy) with rfl | hy
      · exact hb
      · exact h4 y hy
    · rcases g4 f hf with rfl | hf
      · exact hp
      · exact h5 f hf
theorem jn_le {B : Nat} : ∀ {l : List (List Nat)}, (∀ z ∈ l, z.length ≤ B) → (jn l).length ≤ l.length * (B + 1)
  | [], _ => by simp [jn, TL.joinL]
  | [p], h => by
    have := h p (by simp)
    simp only [jn, TL.joinL, List.length_cons, List.length_nil]
    omega
  | p :: q :: r, h => by
    have ih := jn_le (l := q :: r) fun z hz => h z (by simp [hz])
    have := h p (by simp)
    have e : jn (p :: q :: r) = p ++ ([32] ++ jn (q :: r)) := rfl
    rw [e]
    simp only [List.length_append, List.length_cons, List.length_nil] at ih ⊢
    have e2 : (r.length + 1 + 1) * (B + 1) = (r.length + 1) * (B + 1) + (B + 1) := by rw [Nat.add_mul, Nat.one_mul]
    omega
/-- bounds of what is drawn -/
def bL : Nat → Nat
  | 0 => 40
  | n + 1 => 100 + 3 * bL n
def bT : Nat → Nat
  | 0 => 40
  | n + 1 => 100 + 3 * bT n
theorem bL_ge : ∀ n, 40 ≤ bL n
  | 0 => Nat.le_refl _
  | n + 1 => by rw [bL]; omega
theorem bT_ge : ∀ n, 40 ≤ bT n
  | 0 => Nat.le_refl _
  | n + 1 => by rw [bT]; omega
structure Sm (n : Nat) (d : D) : Prop where
  ok : okD d
  cp : cpD d
  dp : dep d ≤ n
  ln : (spell d).length ≤ bL n
theorem sm_seq {n : Nat} {k : Kd} {ds : List D} (hk : k ≠ .dct) (h : ∀ d ∈ ds, Sm n d) (hl : ds.length ≤ 3) : Sm (n + 1) (.con k [] ds) := by
  have hj := jn_le (B := bL n) (l := spells ds) fun z hz => by
    rw [spells_map] at hz
    obtain ⟨d, hd, rfl⟩ := List.mem_map.mp hz
    exact (h d hd).ln
  have hl2 : (spells ds).length = ds.length := by rw [spells_map, List.length_map]
  rw [hl2] at hj
  have hm : ds.length * (bL n + 1) ≤ 3 * (bL n + 1) := Nat.mul_le_mul_right _ hl
  refine ⟨?_, by rw [cpD]; exact ⟨fun _ h => by simp at h, cpDs_of fun d hd => (h d hd).cp⟩, ?_, ?_⟩
  · cases k with
    | dct => exact (hk rfl).elim
    | tup => exact ⟨rfl, okDs_mem.mpr fun d hd => (h d hd).ok⟩
    | lst => exact ⟨rfl, okDs_mem.mpr fun d hd => (h d hd).ok⟩
  · rw [dep]
    have := deps_le fun d hd => (h d hd).dp
    omega
  · cases k with
    | dct => exact (hk rfl).elim
    | tup =>
      rw [spell, bL]
      simp only [List.length_cons, List.length_append, List.length_nil]
      omega
    | lst =>
      rw [spell, bL]
      simp only [List.length_cons, List.length_append, List.length_nil]
      omega
theorem sm_dct {n : Nat} {ks : List (List Nat)} {ds : List D} (hr : Rises ks) (hks : ∀ x ∈ ks, tx9 x) (hlen : ks.length = ds.length) (h : ∀ d ∈ ds, Sm n d) (hl : ds.length ≤ 3) : Sm (n + 1) (.con .dct ks ds) := by
  have hj := jn_le (B := bL n + 21) (l := List.zipWith (fun k t => word k ++ 32 :: t) ks (spells ds)) fun z hz => by
    obtain ⟨i, hi, rfl⟩ := List.mem_iff_getElem.mp hz
    rw [List.getElem_zipWith]
    simp only [List.length_zipWith] at hi
    have h1 := (hks ks[i] (List.getElem_mem _)).1
    have h2 := word_len ks[i]
    have h3 : (spells ds)[i] ∈ spells ds := List.getElem_mem _
    generalize (spells ds)[i] = y at h3
    rw [spells_map] at h3
    obtain ⟨d, hd, rfl⟩ := List.mem_map.mp h3
    have h4 := (h d hd).ln
    simp only [List.length_append, List.length_cons]
    omega
  have hl2 : (List.zipWith (fun k t => word k ++ 32 :: t) ks (spells ds)).length ≤ 3 := by
    rw [List.length_zipWith, spells_map, List.length_map]
    omega
  have hm : (List.zipWith (fun k t => word k ++ 32 :: t) ks (spells ds)).length * (bL n + 21 + 1) ≤ 3 * (bL n + 21 + 1) := Nat.mul_le_mul_right _ hl2
  refine ⟨⟨hr, hlen, by omega, okDs_mem.mpr fun d hd => (h d hd).ok⟩, by rw [cpD]; exact ⟨fun k hk => (hks k hk).2, cpDs_of fun d hd => (h d hd).cp⟩, ?_, ?_⟩
  · rw [dep]
    have := deps_le fun d hd => (h d hd).dp
    omega
  · rw [spell, bL]
    simp only [List.length_cons, List.length_append, List.length_nil]
    omega
theorem Sm.up {n m : Nat} {d : D} (s : Sm n d) (h : n ≤ m) : Sm m d := by
  induction h with
  | refl => exact s
  | step _ ih => exact ⟨ih.ok, ih.cp, Nat.le_succ_of_le ih.dp, Nat.le_trans ih.ln (by rw [bL]; omega)⟩
theorem px_none {p c b : Addr} {cs : List Int} {i : Nat} {H H' : Hp} (x : PX p c H H') (u : Pu p c cs i H') (h : H' b = none) : H b = none := by
  cases e : H b with
  | none => rfl
  | some o =>
    have n1 : b ≠ p := fun z => by rw [z, u.hp] at h; cases h
    have n2 : b ≠ c := fun z => by rw [z, u.hc] at h; cases h
    rw [x _ _ n1 n2 e] at h; cases h
/-- new since later is new since earlier -/
theorem px_fresh {p c : Addr} {cs : List Int} {i : Nat} {H H1 H2 : Hp} (x : PX p c H H1) (u : Pu p c cs i H1) : Keep (fresh H1 H2) (fresh H H2) := Ext.keep fun b o e => by
  obtain ⟨h1, h2⟩ := of_fresh e
  rw [fresh_at (px_none x u h1)]
  exact h2
/-- what was new stays -/
theorem px_grow {p c : Addr} {cs : List Int} {i : Nat} {H H1 H2 : Hp} (u : Pu p c cs i H) (x : PX p c H1 H2) : Keep (fresh H H1) (fresh H H2) := Ext.keep fun b o e => by
  obtain ⟨h1, h2⟩ := of_fresh e
  rw [fresh_at h1]
  exact x _ _ (fun z => by rw [z, u.hp] at h1; cases h1) (fun z => by rw [z, u.hc] at h1; cases h1) h2
end K96
end

section
set_option Elab.async false
set_option linter.all false
set_option maxRecDepth 100000
set_option maxHeartbeats 4000000
open PySem PySem.Spec PyProof.Rows L2 CL
local macro_rules | `(tactic| walk_at "rd1") => `(tactic| first
  | (with_reducible refine g_seq ?_) | ((with_reducible apply g_var); rfl) | (with_reducible refine g_c ?_) | (with_reducible refine g_op ?_) | (with_reducible refine g_cons ?_) | (with_reducible refine g_nil ?_)
  | (with_reducible refine g_if ?_) | (with_reducible refine g_ct ?_) | (with_reducible refine g_tr ?_) | (with_reducible refine g_and ?_) | (with_reducible refine g_or ?_) | (with_reducible refine g_not ?_)
  | (with_reducible refine asB_bl ?_) | (with_reducible refine tru_bl ?_) | (with_reducible refine g_ret ?_) | (with_reducible refine g_set ?_) | (with_reducible refine g_fn ?_) | (with_reducible refine g_call ?_)
  | (with_reducible refine g_meth ?_) | (with_reducible refine g_fld ?_) | (with_reducible refine nx_seq ?_) | (with_reducible refine nx_loop ?_) | (with_reducible refine nx_top ?_) | (with_reducible refine rt_seq ?_)
  | (with_reducible refine rt_loop ?_) | (with_reducible refine rt_top ?_) | (with_reducible refine bk_seq ?_) | (with_reducible refine bk_loop ?_) | (with_reducible refine ct_seq ?_) | (with_reducible refine ct_loop ?_)
  | (with_reducible refine g_end ?_) | (with_reducible refine uAdd_i ?_) | (with_reducible refine uSub_i ?_) | (with_reducible refine uEq_i ?_) | (with_reducible refine uEq_s ?_) | (with_reducible refine uNe_i ?_) | (with_reducible refine uNe_s ?_)
  | (with_reducible refine uLt_i ?_) | (with_reducible refine uLe_i ?_) | (with_reducible refine uGt_i ?_) | (with_reducible refine uGe_i ?_) | (with_reducible refine uIs_n ?_) | (with_reducible refine uIsNot_n ?_)
  | (with_reducible refine g_tup ?_) | (with_reducible refine g_lst ?_) | (with_reducible refine g_sl ?_) | (with_reducible refine g_no ?_) | (with_reducible refine g_part ?_) | (with_reducible refine g_ifE ?_) | (with_reducible refine g_ofT ?_)
  | (with_reducible refine g_unp2 ?_) | (with_reducible refine g_put ?_) | (with_reducible refine g_retN ?_) | (with_reducible refine g_drop ?_) | (with_reducible refine g_brk ?_) | (with_reducible refine g_cnt ?_) | (with_reducible refine iAdd_i ?_)
  | ((with_reducible apply g_aug); rfl) | (with_reducible refine g_sto ?_) | (with_reducible refine g_stoA ?_) | (with_reducible refine g_for ?_) | (with_reducible refine g_wh ?_) | (with_reducible refine g_rs ?_) | (with_reducible refine g_rsX ?_)
  | (with_reducible refine g_g ?_) | (with_reducible refine g_g2 ?_) | (with_reducible refine g_callN ?_) | (with_reducible refine g_app ?_) | (with_reducible refine g_join ?_) | (with_reducible refine strA_i ?_) | (with_reducible refine g_it ?_)
  | (with_reducible refine itR_s ?_) | (with_reducible refine g_rng ?_) | (with_reducible refine g_vals ?_) | (with_reducible refine g_zip ?_) | (with_reducible refine g_rep ?_) | (with_reducible refine g_new ?_) | (with_reducible refine g_disp ?_)
  | (with_reducible refine g_andV ?_) | (with_reducible refine g_orV ?_) | (with_reducible refine g_notV ?_) | (with_reducible refine g_un ?_) | (with_reducible refine uNeg_i ?_) | (with_reducible refine g_yes ?_) | (with_reducible refine g_make ?_)
  | (with_reducible refine g_try ?_) | (with_reducible refine g_lc ?_) | (with_reducible refine intR_b ?_) | (with_reducible refine minR_i ?_) | (with_reducible refine tru_int ?_))
local macro_rules | `(tactic| walk_at "rd") => `(tactic| repeat (walk_at "rd1"))
namespace K96
open PySem PySem.Spec PyProof.Rows L2 CL
def sp__law_thing : Nat → Sp
  | 0 => fun _ _ _ _ => False
  | n + 1 => sp2 fun v y H Q _ => ∃ p c cs i k, v = .ref p ∧ y = .int (k : Nat) ∧ k ≤ n ∧ Pu p c cs i H ∧ i + bT k ≤ 700000 ∧
      ∀ (H' : Hp) (v : V) (d : D) (cs' : List Int) (i' : Nat), PX p c H H' → Pu p c cs' i' H' → i' ≤ i + bT k → Sm k d → Rep (fresh H H') v d → Q v H'
theorem thing_go {n : Nat} {p c : Addr} {cs : List Int} {i k : Nat} {H : Hp} {Q : VK} {E : XK} (hk : k ≤ n) (u : Pu p c cs i H) (hi : i + bT k ≤ 700000)
    (q : ∀ (H' : Hp) (v : V) (d : D) (cs' : List Int) (i' : Nat), PX p c H H' → Pu p c cs' i' H' → i' ≤ i + bT k → Sm k d → Rep (fresh H H') v d → Q v H') : sp__law_thing (n + 1) [.ref p, .int (k : Nat)] H Q E :=
  ⟨_, _, rfl, p, c, cs, i, k, rfl, rfl, hk, u, hi, q⟩
theorem flat_sm {d : D} (h : flatD d) (ok : okD d) (l : (spell d).length ≤ 40) (n : Nat) : Sm n d := by
  have h0 : dep d = 0 := by
    cases d with
    | con _ _ _ => exact h.elim
    | _ => rfl
  exact ⟨ok, by cases d <;> first | trivial | exact h.elim, by omega, Nat.le_trans l (bL_ge n)⟩
theorem Reps.all {G : Hp} {P : D → Prop} : ∀ {vs : List V} {ds : List D}, Reps G vs ds → True := fun _ => trivial
theorem putK_keys {κ : Type} [DecidableEq κ] (kvs : List (κ × V)) (k : κ) (v : V) : (putK kvs k v).map (·.1) = if (valV kvs k).isSome then kvs.map (·.1) else kvs.map (·.1) ++ [k] := by
  cases h : valV kvs k with
  | none => rw [putK_new v h]; simp
  | some u =>
    have ha : (kvs.any fun kv => decide (kv.1 = k)) = true := by rw [valV_any, h]; rfl
    unfold putK
    rw [if_pos ha, List.map_map]
    refine List.map_congr_left fun kv _ => ?_
    show (if kv.1 = k then (kv.1, v) else kv).1 = kv.1
    split <;> rfl
theorem putK_mem {κ : Type} [DecidableEq κ] {kvs : List (κ × V)} {k : κ} {v : V} {kv : κ × V} (h : kv ∈ putK kvs k v) : kv = (k, v) ∨ kv ∈ kvs := by
  cases e : valV kvs k with
  | none =>
    rw [putK_new v e] at h
    rcases List.mem_append.mp h with h | h
    · exact .inr h
    · exact .inl (List.mem_singleton.mp h)
  | some u =>
    have ha : (kvs.any fun kv => decide (kv.1 = k)) = true := by rw [valV_any, e]; rfl
    unfold putK at h
    rw [if_pos ha] at h
    obtain ⟨a, ha, e2⟩ := List.mem_map.mp h
    by_cases hk : a.1 = k
    · rw [if_pos hk] at e2
      rw [← e2, hk]
      exact .inl rfl
    · rw [if_neg hk] at e2
      rw [← e2]
      exact .inr ha
theorem valV_key {κ : Type} [DecidableEq κ] {kvs : List (κ × V)} {k : κ} (h : k ∈ kvs.map (·.1)) : (valV kvs k).isSome = true := by
  rw [← valV_any]
  obtain ⟨kv, h1, h2⟩ := List.mem_map.mp h
  exact List.any_eq_true.mpr ⟨kv, h1, decide_eq_true h2⟩
theorem putK_nodup {κ : Type} [DecidableEq κ] {kvs : List (κ × V)} {k : κ} {v : V} (h : (kvs.map (·.1)).Nodup) : ((putK kvs k v).map (·.1)).Nodup := by
  rw [putK_keys]
  cases e : (valV kvs k).isSome with
  | true => exact h
  | false =>
    refine List.nodup_append.mpr ⟨h, List.pairwise_singleton _ _, fun a ha b hb z => ?_⟩
    rw [List.mem_singleton.mp hb] at z
    rw [z] at ha
    rw [valV_key ha] at e
    cases e
section
variable {K : PySem.W.Frag} {w : World}
theorem w__law_thing {n : Nat} {H : Hp} {vs : List V} {Q : VK} {E : XK} (h : sp__law_thing (n + 1) vs H Q E) :
    t__law_thing K w sp__law_draw sp__law_plain (sp__law_thing n) sp__law_text (fun cls d _ H' => E cls d H') (topE Q) (start N__law_thing vs) H := by
  obtain ⟨v, y, rfl, p, c, cs, i, k, rfl, rfl, hk, u, hi, q⟩ := h
  have hbT := bT_ge k
  unfold t__law_thing
  walk_at "rd"
  refine draw_go u (by omega) (by decide) (by decide) fun H1 cs1 way x1 u1 hway => ?_
  walk_at "rd"
  have plain : ∀ QQ : VK, (∀ v H', Q v H' → QQ v H') → sp__law_plain [.ref p] H1 QQ (fun cls d H' => E cls d H') := by
    intro QQ hQ
    refine sp1_go ⟨p, c, cs1, i + 1, rfl, u1, by omega, fun H2 d v cs2 i2 x2 u2 hi2 hf ok hl hr => ?_⟩
    refine hQ _ _ ?_
    exact q H2 v d cs2 i2 (x1.trans x2) u2 (by omega) (flat_sm hf ok hl k) (hr _)
  refine br_c (fun h => ?_) (fun h => ?_)
  · refine br_t ?_
    walk_at "rd"
    refine plain _ fun v H' q => ?_
    walk_at "rd"
    exact q
  walk_at "rd"
  refine br_c (fun h2 => ?_) (fun h2 => ?_)
  · walk_at "rd"
    refine plain _ fun v H' q => ?_
    walk_at "rd"
    exact q
  walk_at "rd"
  have hk1 : ¬ ((k : Nat) : Int) < 1 := by simpa using h
  obtain ⟨k, rfl⟩ : ∃ m, k = m + 1 := ⟨k - 1, by omega⟩
  obtain ⟨n, rfl⟩ : ∃ m, n = m + 1 := ⟨n - 1, by omega⟩
  have ek : (((k + 1 : Nat) : Int) - 1) = (k : Nat) := by omega
  have hbT1 : bT (k + 1) = 100 + 3 * bT k := rfl
  have hbTk := bT_ge k
  refine draw_go u1 (by omega) (by decide) (by decide) fun H2 cs2 m x2 u2 hm => ?_
  refine rngR_i (by omega) (by omega) ?_
  have hm' : m ≤ 3 := by omega
  have e0 : ((m : Nat) : Int).toNat = m := by omega
  rw [e0]
  have mul : ∀ t, t < m → t * bT k + bT k ≤ 3 * bT k := fun t ht => by
    have : (t + 1) * bT k ≤ 3 * bT k := Nat.mul_le_mul_right _ (by omega)
    rw [Nat.add_mul, Nat.one_mul] at this
    exact this
  refine lc_w walk_range (fun t H' acc => ∃ cs' i' ds, PX p c H2 H' ∧ Pu p c cs' i' H' ∧ i' ≤ i + 2 + t * bT k ∧ acc.length = t ∧ Reps (fresh H H') acc ds ∧ ∀ d ∈ ds, Sm k d) ⟨cs2, i + 2, [], .refl, u2, by omega, rfl, .nil, by simp⟩
    (fun t H' acc ht ⟨_, _, _, _, _, _, hl, _⟩ => ⟨trivial, by omega⟩) (sl (by omega)) ?_ ?_
  · rintro t x H3 H4 acc ht ⟨cs3, i3, ds, x3, u3, hi3, hl, rs, hs⟩ ⟨rfl, rfl⟩
    walk_at "rd"
    refine ⟨rfl, ?_⟩
    walk_at "rd"
    refine br_t ?_
    walk_at "rd"
    rw [ek]
    have := mul t ht
    refine thing_go (by omega) u3 (by omega) fun H5 v d cs5 i5 x5 u5 hi5 sm r => ?_
    have x13 := (x1.trans x2).trans x3
    refine ⟨cs5, i5, ds ++ [d], x3.trans x5, u5, ?_, by simp [hl], Reps.snoc (rs.mono (px_grow u x5)) (r.mono (px_fresh x13 u3)), ?_⟩
    · rw [Nat.add_mul, Nat.one_mul]
      omega
    · intro e he
      rcases List.mem_append.mp he with he | he
      · exact hs e he
      · rw [List.mem_singleton.mp he]
        exact sm
  · rintro H3 acc ⟨cs3, i3, ds, x3, u3, hi3, hl, rs, hs⟩ D hD
    have hds : ds.length ≤ 3 := by rw [← rs.len]; omega
    have hmm : m * bT k ≤ 3 * bT k := Nat.mul_le_mul_right _ hm'
    have x13 := (x1.trans x2).trans x3
    have hD0 := px_none x13 u3 hD
    walk_at "rd"
    have u4 := u3.ext (.new (o := .lst acc) hD)
    have x4 : PX p c H3 (upd H3 D (.lst acc)) := .of (.new hD)
    have rs4 := rs.mono (px_grow u x4)
    have hD4 : upd H3 D (.lst acc) D = some (.lst acc) := upd_same
    generalize upd H3 D (.lst acc) = H4 at *
    have x14 := x13.trans x4
    refine br_c (fun h3 => ?_) (fun h3 => ?_)
    · walk_at "rd"
      refine tupR_l (SqL.of hD4) fun t ht => ?_
      walk_at "rd"
      have x5 : PX p c H4 (upd H4 t (.tup acc)) := .of (.new ht)
      refine q _ _ (.con .tup [] ds) _ _ (x14.trans x5) (u4.ext (.new ht)) (by omega) (sm_seq (by decide) hs hds) ?_
      exact .tup (by rw [fresh_at (px_none x14 u4 ht), upd_same]) (rs4.mono (px_grow u x5))
    · walk_at "rd"
      refine br_c (fun h4 => ?_) (fun h4 => ?_)
      · walk_at "rd"
        exact q _ _ (.con .lst [] ds) _ _ x14 u4 (by omega) (sm_seq (by decide) hs hds) (.lst (by rw [fresh_at hD0]; exact hD4) rs4)
      · walk_at "rd"
        intro b hb
        walk_at "rd"
        have x5 : PX p c H4 (upd H4 b (.dK [])) := .of (.new hb)
        have hb0 := px_none x14 u4 hb
        have hbD : D ≠ b := fun z => by rw [z, hb] at hD4; cases hD4
        have hD5 : upd H4 b (.dK []) D = some (.lst acc) := by rw [upd_ne hbD]; exact hD4
        refine itR_l (SqL.of hD5) ?_
        have hDp : D ≠ p := fun z => by rw [z, u3.hp] at hD; cases hD
        have hDc : D ≠ c := fun z => by rw [z, u3.hc] at hD; cases hD
        have hbp : b ≠ p := fun z => by rw [z, u4.hp] at hb; cases hb
        have hbc : b ≠ c := fun z => by rw [z, u4.hc] at hb; cases hb
        refine for_w walk_list (fun t σ H' => ∃ cs' i' kvs o, σ = [some (.ref p), some (.int ((k + 1 : Nat) : Nat)), some (.int (way : Nat)), some (.ref D), some (.ref b), o, none] ∧ PX p c H4 H' ∧ Pu p c cs' i' H' ∧ i' ≤ i + 2 + m * bT k + t * 20 ∧
            H' D = some (.lst acc) ∧ H' b = some (.dK kvs) ∧ (kvs.map (·.1)).Nodup ∧ kvs.length ≤ t ∧ ∀ kv ∈ kvs, ∃ x d, kv.1 = keyS x ∧ tx9 x ∧ Rep (fresh H H4) kv.2 d ∧ Sm k d)
          ⟨cs3, i3, [], none, rfl, x5, u4.ext (.new hb), by omega, hD5, upd_same, .nil, Nat.le_refl _, by simp⟩ (fun t σ H' ht ⟨_, _, _, _, _, _, _, _, h, _⟩ => SqL.of h) ?_ ?_
        · rintro t x σ H6 H7 ht ⟨cs6, i6, kvs, o, rfl, x6, u6, hi6, hD6, hb6, hnd, hlen, hkv⟩ ⟨rfl, hx⟩
          obtain ⟨d, hd, rd⟩ := rs4.at hx
          walk_at "rd"
          refine sp1_go ⟨p, c, cs6, i6, rfl, u6, by omega, fun H8 z cs8 i8 x8 u8 hi8 hz => ?_⟩
          have hb8 := x8 _ _ hbp hbc hb6
          refine putR_d (k := keyS z) rfl hb8 (Nat.lt_of_le_of_lt (show kvs.length ≤ 3 by omega) (by rw [sizeLine_eq]; omega)) ?_
          walk_at "rd"
          refine ⟨cs8, i8, putK kvs (keyS z) x, _, rfl, fun a' o' n1 n2 he => ?_, ⟨by rw [upd_ne (Ne.symm hbp)]; exact u8.hp, by rw [upd_ne (Ne.symm hbc)]; exact u8.hc, u8.pos, u8.len⟩, by omega, by rw [upd_ne hbD]; exact x8 _ _ hDp hDc hD6, upd_same, putK_nodup hnd,
            Nat.le_trans (length_putK ..) (by omega), fun kv hkv2 => ?_⟩
          · rw [upd_ne (fun z => by rw [z, hb] at he; cases he)]
            exact x8 _ _ n1 n2 (x6 _ _ n1 n2 he)
          · rcases putK_mem hkv2 with rfl | h
            · exact ⟨z, d, rfl, hz, rd, hs d (List.mem_of_getElem? hd)⟩
            · exact hkv kv h
        · rintro σ H6 ⟨cs6, i6, kvs, o, rfl, x6, u6, hi6, hD6, hb6, hnd, hlen, hkv⟩
          walk_at "rd"
          obtain ⟨ks, es, g1, g2, g3, g4, g5⟩ := dct_of (G := fresh H H4) (P := Sm k) (B := fun x => tx9 x) hnd hkv
          have hle : es.length ≤ 3 := by
            rw [← g3.len]
            have := g2.length_eq
            rw [List.length_map, List.length_map] at this
            omega
          refine q _ _ (.con .dct ks es) _ _ (x14.trans x6) u6 (by omega) (sm_dct g1 g4 g3.len g5 hle) ?_
          exact .dct (.inl (by rw [fresh_at hb0]; exact hb6)) g2 (g3.mono (px_grow u x6))
end
end K96
end

section
set_option Elab.async false
set_option linter.all false
set_option maxRecDepth 100000
set_option maxHeartbeats 4000000
open PySem PySem.Spec PyProof.Rows L2 CL
local macro_rules | `(tactic| walk_at "rd1") => `(tactic| first
  | (with_reducible refine g_seq ?_) | ((with_reducible apply g_var); rfl) | (with_reducible refine g_c ?_) | (with_reducible refine g_op ?_) | (with_reducible refine g_cons ?_) | (with_reducible refine g_nil ?_)
  | (with_reducible refine g_if ?_) | (with_reducible refine g_ct ?_) | (with_reducible refine g_tr ?_) | (with_reducible refine g_and ?_) | (with_reducible refine g_or ?_) | (with_reducible refine g_not ?_)
  | (with_reducible refine asB_bl ?_) | (with_reducible refine tru_bl ?_) | (with_reducible refine g_ret ?_) | (with_reducible refine g_set ?_) | (with_reducible refine g_fn ?_) | (with_reducible refine g_call ?_)
  | (with_reducible refine g_meth ?_) | (with_reducible refine g_fld ?_) | (with_reducible refine nx_seq ?_) | (with_reducible refine nx_loop ?_) | (with_reducible refine nx_top ?_) | (with_reducible refine rt_seq ?_)
  | (with_reducible refine rt_loop ?_) | (with_reducible refine rt_top ?_) | (with_reducible refine bk_seq ?_) | (with_reducible refine bk_loop ?_) | (with_reducible refine ct_seq ?_) | (with_reducible refine ct_loop ?_)
  | (with_reducible refine g_end ?_) | (with_reducible refine uAdd_i ?_) | (with_reducible refine uSub_i ?_) | (with_reducible refine uEq_i ?_) | (with_reducible refine uEq_s ?_) | (with_reducible refine uNe_i ?_) | (with_reducible refine uNe_s ?_)
  | (with_reducible refine uLt_i ?_) | (with_reducible refine uLe_i ?_) | (with_reducible refine uGt_i ?_) | (with_reducible refine uGe_i ?_) | (with_reducible refine uIs_n ?_) | (with_reducible refine uIsNot_n ?_)
  | (with_reducible refine g_tup ?_) | (with_reducible refine g_lst ?_) | (with_reducible refine g_sl ?_) | (with_reducible refine g_no ?_) | (with_reducible refine g_part ?_) | (with_reducible refine g_ifE ?_) | (with_reducible refine g_ofT ?_)
  | (with_reducible refine g_unp2 ?_) | (with_reducible refine g_put ?_) | (with_reducible refine g_retN ?_) | (with_reducible refine g_drop ?_) | (with_reducible refine g_brk ?_) | (with_reducible refine g_cnt ?_) | (with_reducible refine iAdd_i ?_)
  | ((with_reducible apply g_aug); rfl) | (with_reducible refine g_sto ?_) | (with_reducible refine g_stoA ?_) | (with_reducible refine g_for ?_) | (with_reducible refine g_wh ?_) | (with_reducible refine g_rs ?_) | (with_reducible refine g_rsX ?_)
  | (with_reducible refine g_g ?_) | (with_reducible refine g_g2 ?_) | (with_reducible refine g_callN ?_) | (with_reducible refine g_app ?_) | (with_reducible refine g_join ?_) | (with_reducible refine strA_i ?_) | (with_reducible refine g_it ?_)
  | (with_reducible refine itR_s ?_) | (with_reducible refine g_rng ?_) | (with_reducible refine g_vals ?_) | (with_reducible refine g_zip ?_) | (with_reducible refine g_rep ?_) | (with_reducible refine g_new ?_) | (with_reducible refine g_disp ?_)
  | (with_reducible refine g_andV ?_) | (with_reducible refine g_orV ?_) | (with_reducible refine g_notV ?_) | (with_reducible refine g_un ?_) | (with_reducible refine uNeg_i ?_) | (with_reducible refine g_yes ?_) | (with_reducible refine g_make ?_)
  | (with_reducible refine g_try ?_) | (with_reducible refine g_lc ?_) | (with_reducible refine intR_b ?_) | (with_reducible refine minR_i ?_) | (with_reducible refine tru_int ?_))
local macro_rules | `(tactic| walk_at "rd") => `(tactic| repeat (walk_at "rd1"))
namespace K96
open PySem PySem.Spec PyProof.Rows L2 CL
def sp__law_nested : Sp := sp2 fun v y H Q _ => ∃ p c cs i n, v = .ref p ∧ y = .int (n : Nat) ∧ n ≤ 40 ∧ Pu p c cs i H ∧ i ≤ 700000 ∧
      ∀ (H' : Hp) (v : V) (d : D) (cs' : List Int) (i' : Nat), PX p c H H' → Pu p c cs' i' H' → i' ≤ i + 100 → okD d → cpD d → dep d ≤ n → (spell d).length ≤ 1700 → Rep (fresh H H') v d → Q v H'
theorem jn1 (a : List Nat) : jn [a] = a := rfl
theorem jn2 (a b : List Nat) : jn [a, b] = a ++ 32 :: b := rfl
section
variable {K : PySem.W.Frag} {w : World}
theorem w__law_nested {H : Hp} {vs : List V} {Q : VK} {E : XK} (h : sp__law_nested vs H Q E) : t__law_nested K w sp__law_plain sp__law_draw (fun cls d _ H' => E cls d H') (topE Q) (start N__law_nested vs) H := by
  obtain ⟨v, y, rfl, p, c, cs, i, n, rfl, rfl, hn, u, hi, q⟩ := h
  unfold t__law_nested
  walk_at "rd"
  refine sp1_go ⟨p, c, cs, i, rfl, u, by omega, fun H1 d v cs1 i1 x1 u1 hi1 hf ok hl hr => ?_⟩
  walk_at "rd"
  refine rngR_i (by omega) (by omega) ?_
  have e0 : ((n : Nat) : Int).toNat = n := by omega
  rw [e0]
  refine for_w walk_range (fun t σ H' => ∃ cs' i' v d o1 o2, σ = [some (.ref p), some (.int (n : Nat)), some v, o1, o2] ∧ PX p c H H' ∧ Pu p c cs' i' H' ∧ i' ≤ i + 31 + t ∧ okD d ∧ cpD d ∧ dep d ≤ t ∧ (spell d).length ≤ 40 + 40 * t ∧ Rep (fresh H H') v d)
    ⟨cs1, i1, v, d, none, none, rfl, x1, u1, by omega, ok, (flat_sm hf ok hl 0).cp, (flat_sm hf ok hl 0).dp, by omega, hr _⟩ (fun _ _ _ _ _ => trivial) ?_ ?_
  · rintro t x σ H2 H3 ht ⟨cs2, i2, v, d, o1, o2, rfl, x2, u2, hi2, ok, cp, hd, hl, r⟩ ⟨rfl, rfl⟩
    walk_at "rd"
    refine draw_go u2 (by omega) (by decide) (by decide) fun H3 cs3 way x3 u3 hway => ?_
    have x23 := x2.trans x3
    have r3 := r.mono (px_grow u x3)
    have hnum : (num (0 + ((t : Nat) : Int))).length ≤ 31 := num_len (by omega)
    walk_at "rd"
    refine br_c (fun h => ?_) (fun h => ?_)
    · walk_at "rd"
      intro b hb
      walk_at "rd"
      refine dispR_i upd_same ?_
      walk_at "rd"
      have eu : upd (upd H3 b (.dK [])) b (.dK [(.inr (S [107]), v)]) = upd H3 b (.dK [(.inr (S [107]), v)]) := upd_upd
      rw [eu]
      have x4 : PX p c H3 (upd H3 b (.dK [(.inr (S [107]), v)])) := .of (.new hb)
      refine ⟨cs3, i2 + 1, _, .con .dct [[107]] [d], _, _, rfl, x23.trans x4, u3.ext (.new hb), by omega, ⟨List.pairwise_singleton _ _, rfl, by simp, ok, trivial⟩, ⟨by simp, cp, trivial⟩, ?_, ?_, ?_⟩
      · rw [dep, deps, deps]; omega
      · have hb7 : word [107] = [107] := by decide
        have : spell (.con .dct [[107]] [d]) = 123 :: (jn [[107] ++ 32 :: spell d] ++ [125]) := by
          rw [spell]
          simp only [spells, List.zipWith_cons_cons, List.zipWith_nil_left, hb7]
        rw [this, jn1]
        simp only [List.length_cons, List.length_append, List.length_nil]
        omega
      · exact .dct (.inl (by rw [fresh_at (px_none x23 u3 hb), upd_same])) (.refl _) (.cons (valV_pos (p := ((Sum.inr (S [107]) : Key), v)) (k := keyS [107]) rfl) (r3.mono (px_grow u x4)) .nil)
    · walk_at "rd"
      refine br_c (fun h2 => ?_) (fun h2 => ?_)
      · walk_at "rd"
        refine ⟨sb (by simp), fun b hb => ?_⟩
        walk_at "rd"
        have x4 : PX p c H3 (upd H3 b (.tup [v, .int (0 + (t : Nat))])) := .of (.new hb)
        refine ⟨cs3, i2 + 1, _, .con .tup [] [d, .int (0 + (t : Nat))], _, _, rfl, x23.trans x4, u3.ext (.new hb), by omega, ⟨rfl, ok, Nat.lt_of_lt_of_le (show (0 + ((t : Nat) : Int)).natAbs < 10 ^ 30 by omega) (Nat.pow_le_pow_right (by decide) (by decide)), trivial⟩, ⟨by simp, cp, trivial, trivial⟩, ?_, ?_, ?_⟩
        · simp only [dep, deps]; omega
        · have : spell (.con .tup [] [d, .int (0 + (t : Nat))]) = 40 :: (jn [spell d, num (0 + (t : Nat))] ++ [41]) := rfl
          rw [this, jn2]
          simp only [List.length_cons, List.length_append, List.length_nil]
          omega
        · exact .tup (by rw [fresh_at (px_none x23 u3 hb), upd_same]) (.cons (r3.mono (px_grow u x4)) (.cons (.int _) .nil))
      · walk_at "rd"
        refine ⟨sb (by simp), fun b1 hb1 => ?_⟩
        walk_at "rd"
        refine ⟨sb (by simp), fun b2 hb2 => ?_⟩
        walk_at "rd"
        refine ⟨sb (by simp), fun b3 hb3 => ?_⟩
        walk_at "rd"
        have h0 : way ≠ 0 := by
          intro z
          subst z
          simp at h
        have h1 : way ≠ 1 := by
          intro z
          subst z
          simp at h2
        have xa : Ext H3 (upd H3 b1 (.lst [v])) := .new hb1
        have xb : Ext (upd H3 b1 (.lst [v])) (upd (upd H3 b1 (.lst [v])) b2 (.lst [.int (0 + (t : Nat)), v])) := .new hb2
        have xc := Ext.new (o := .lst [.ref b1, .ref b2]) hb3
        have e1 := xc _ _ (xb _ _ (upd_same (H := H3) (a := b1) (o := .lst [v])))
        have e2 := xc _ _ (upd_same (H := upd H3 b1 (.lst [v])) (a := b2) (o := .lst [.int (0 + (t : Nat)), v]))
        have e3 : upd (upd (upd H3 b1 (.lst [v])) b2 (.lst [.int (0 + (t : Nat)), v])) b3 (.lst [.ref b1, .ref b2]) b3 = some (.lst [.ref b1, .ref b2]) := upd_same
        have xx := (xa.trans xb).trans xc
        generalize upd (upd (upd H3 b1 (.lst [v])) b2 (.lst [.int (0 + (t : Nat)), v])) b3 (.lst [.ref b1, .ref b2]) = H4 at *
        have x4 : PX p c H3 H4 := .of xx
        have r4 := r3.mono (px_grow u x4)
        have f1 : H b1 = none := px_none x23 u3 hb1
        have f2 : H b2 = none := px_none x23 u3 (xa.none hb2)
        have hw : way = 2 ∨ way = 3 := by omega
        rcases hw with rfl | rfl
        · refine uIx_l (SqL.of e3) (v := .ref b1) (by rfl) ?_
          walk_at "rd"
          refine ⟨cs3, i2 + 1, _, .con .lst [] [d], _, _, rfl, x23.trans x4, u3.ext xx, by omega, ⟨rfl, ok, trivial⟩, ⟨by simp, cp, trivial⟩, ?_, ?_, ?_⟩
          · simp only [dep, deps]; omega
          · have : spell (.con .lst [] [d]) = 91 :: (jn [spell d] ++ [93]) := rfl
            rw [this, jn1]
            simp only [List.length_cons, List.length_append, List.length_nil]
            omega
          · exact .lst (by rw [fresh_at f1]; exact e1) (.cons r4 .nil)
        · refine uIx_l (SqL.of e3) (v := .ref b2) (by rfl) ?_
          walk_at "rd"
          refine ⟨cs3, i2 + 1, _, .con .lst [] [.int (0 + (t : Nat)), d], _, _, rfl, x23.trans x4, u3.ext xx, by omega, ⟨rfl, Nat.lt_of_lt_of_le (show (0 + ((t : Nat) : Int)).natAbs < 10 ^ 30 by omega) (Nat.pow_le_pow_right (by decide) (by decide)), ok, trivial⟩, ⟨by simp, trivial, cp, trivial⟩, ?_, ?_, ?_⟩
          · simp only [dep, deps]; omega
          · have : spell (.con .lst [] [.int (0 + (t : Nat)), d]) = 91 :: (jn [num (0 + (t : Nat)), spell d] ++ [93]) := rfl
            rw [this, jn2]
            simp only [List.length_cons, List.length_append, List.length_nil]
            omega
          · exact .lst (by rw [fresh_at f2]; exact e2) (.cons (.int _) (.cons r4 .nil))
  · rintro σ H2 ⟨cs2, i2, v, d, o1, o2, rfl, x2, u2, hi2, ok, cp, hd, hl, r⟩
    walk_at "rd"
    exact q H2 v d cs2 i2 x2 u2 (by omega) ok cp hd (by omega) r
end
end K96
end

section
set_option Elab.async false
set_option linter.all false
set_option maxRecDepth 100000
set_option maxHeartbeats 4000000
open PySem PySem.Spec PyProof.Rows L2 CL
local macro_rules | `(tactic| walk_at "rd1") => `(tactic| first
  | (with_reducible refine g_seq ?_) | ((with_reducible apply g_var); rfl) | (with_reducible refine g_c ?_) | (with_reducible refine g_op ?_) | (with_reducible refine g_cons ?_) | (with_reducible refine g_nil ?_)
  | (with_reducible refine g_if ?_) | (with_reducible refine g_ct ?_) | (with_reducible refine g_tr ?_) | (with_reducible refine g_and ?_) | (with_reducible refine g_or ?_) | (with_reducible refine g_not ?_)
  | (with_reducible refine asB_bl ?_) | (with_reducible refine tru_bl ?_) | (with_reducible refine g_ret ?_) | (with_reducible refine g_set ?_) | (with_reducible refine g_fn ?_) | (with_reducible refine g_call ?_)
  | (with_reducible refine g_meth ?_) | (with_reducible refine g_fld ?_) | (with_reducible refine nx_seq ?_) | (with_reducible refine nx_loop ?_) | (with_reducible refine nx_top ?_) | (with_reducible refine rt_seq ?_)
  | (with_reducible refine rt_loop ?_) | (with_reducible refine rt_top ?_) | (with_reducible refine bk_seq ?_) | (with_reducible refine bk_loop ?_) | (with_reducible refine ct_seq ?_) | (with_reducible refine ct_loop ?_)
  | (with_reducible refine g_end ?_) | (with_reducible refine uAdd_i ?_) | (with_reducible refine uSub_i ?_) | (with_reducible refine uEq_i ?_) | (with_reducible refine uEq_s ?_) | (with_reducible refine uNe_i ?_) | (with_reducible refine uNe_s ?_)
  | (with_reducible refine uLt_i ?_) | (with_reducible refine uLe_i ?_) | (with_reducible refine uGt_i ?_) | (with_reducible refine uGe_i ?_) | (with_reducible refine uIs_n ?_) | (with_reducible refine uIsNot_n ?_)
  | (with_reducible refine g_tup ?_) | (with_reducible refine g_lst ?_) | (with_reducible refine g_sl ?_) | (with_reducible refine g_no ?_) | (with_reducible refine g_part ?_) | (with_reducible refine g_ifE ?_) | (with_reducible refine g_ofT ?_)
  | (with_reducible refine g_unp2 ?_) | (with_reducible refine g_put ?_) | (with_reducible refine g_retN ?_) | (with_reducible refine g_drop ?_) | (with_reducible refine g_brk ?_) | (with_reducible refine g_cnt ?_) | (with_reducible refine iAdd_i ?_)
  | ((with_reducible apply g_aug); rfl) | (with_reducible refine g_sto ?_) | (with_reducible refine g_stoA ?_) | (with_reducible refine g_for ?_) | (with_reducible refine g_wh ?_) | (with_reducible refine g_rs ?_) | (with_reducible refine g_rsX ?_)
  | (with_reducible refine g_g ?_) | (with_reducible refine g_g2 ?_) | (with_reducible refine g_callN ?_) | (with_reducible refine g_app ?_) | (with_reducible refine g_join ?_) | (with_reducible refine strA_i ?_) | (with_reducible refine g_it ?_)
  | (with_reducible refine itR_s ?_) | (with_reducible refine g_rng ?_) | (with_reducible refine g_vals ?_) | (with_reducible refine g_zip ?_) | (with_reducible refine g_rep ?_) | (with_reducible refine g_new ?_) | (with_reducible refine g_disp ?_)
  | (with_reducible refine g_andV ?_) | (with_reducible refine g_orV ?_) | (with_reducible refine g_notV ?_) | (with_reducible refine g_un ?_) | (with_reducible refine uNeg_i ?_) | (with_reducible refine g_yes ?_) | (with_reducible refine g_make ?_)
  | (with_reducible refine g_try ?_) | (with_reducible refine g_lc ?_) | (with_reducible refine intR_b ?_) | (with_reducible refine minR_i ?_) | (with_reducible refine tru_int ?_))
local macro_rules | `(tactic| walk_at "rd") => `(tactic| repeat (walk_at "rd1"))
namespace K96
open PySem PySem.Spec PyProof.Rows L2 CL
def rp1 (c : Nat) (z : List Nat) (d : Nat) : List Nat := if d = c then z else [d]
theorem replL_one (c : Nat) (z : List Nat) : ∀ l : List Nat, StrLaws.replL [c] z l = l.flatMap (rp1 c z)
  | [] => by rw [StrLaws.replL_nil]; rfl
  | d :: l => by
    have ih := replL_one c z l
    unfold StrLaws.replL at ih ⊢
    rw [StrLaws.replS, List.flatMap_cons]
    have e : (([c] : List Nat).length - 1) = 0 := rfl
    rw [e, ih]
    by_cases h : d = c
    · subst h
      rw [if_pos (by simp)]
      simp [rp1]
    · rw [if_neg (by simp [h])]
      simp [rp1, h]
theorem repl_S (c : Nat) (z l : List Nat) : Txt.replace (S l) (S [c]) (S z) = S (l.flatMap (rp1 c z)) := by
  refine TL.ext_tl ?_
  have h := StrLaws.replace_list (x := S l) (y := S [c]) (z := S z) (by rw [SX.S_len]; simp)
  have e : (S l).cps.toList = l := by simp
  have e2 : (S [c]).cps.toList = [c] := by simp
  have e3 : (S z).cps.toList = z := by simp
  rw [e, e2, e3, replL_one] at h
  show (Txt.replace (S l) (S [c]) (S z)).cps.toList = (S _).cps.toList
  rw [h]
theorem all_filter : ∀ x : List Nat, x.all isSm = ((x.filter fun c => !isSm c).isEmpty)
  | [] => rfl
  | c :: x => by
    rw [List.all_cons, List.filter_cons, all_filter x]
    cases h : isSm c with
    | true => simp
    | false => simp
theorem rep3 (x : List Nat) : ((x.flatMap (rp1 94 [94, 94])).flatMap (rp1 39 [94, 39])).flatMap (rp1 10 [94, 110]) = x.flatMap sg := by
  induction x with
  | nil => rfl
  | cons c x ih =>
    rw [List.flatMap_cons, List.flatMap_append, List.flatMap_append, ih, List.flatMap_cons]
    congr 1
    unfold rp1 sg
    by_cases h1 : c = 94
    · subst h1; rfl
    by_cases h2 : c = 39
    · subst h2; rfl
    by_cases h3 : c = 10
    · subst h3; rfl
    simp [h1, h2, h3]
theorem fm3 {f : Nat → List Nat} (h : ∀ c, (f c).length ≤ 2) : ∀ l : List Nat, (l.flatMap f).length ≤ 2 * l.length
  | [] => by simp
  | c :: l => by
    have h1 := h c
    have h2 := fm3 h l
    rw [List.flatMap_cons, List.length_append, List.length_cons]
    omega
theorem rp1_len {c d : Nat} {z : List Nat} (h : z.length ≤ 2) : (rp1 c z d).length ≤ 2 := by
  unfold rp1
  split
  · exact h
  · simp
def sp__law_word : Sp := sp1 fun v H Q _ => ∃ x, v = .str (S x) ∧ x.length ≤ 60000 ∧ ∀ H', Ext H H' → Q (.str (S (word x))) H'
section
variable {K : PySem.W.Frag} {w : World}
theorem w__law_is_bare {H : Hp} {vs : List V} {Q : VK} {E : XK} (h : sp_is_bare vs H Q E) : t__law_is_bare K w (fun cls d _ H' => E cls d H') (topE Q) (start N__law_is_bare vs) H := by
  obtain ⟨v, rfl, x, rfl, hl, q⟩ := h
  unfold t__law_is_bare
  walk_at "rd"
  refine ⟨sb (by simp), fun b hb => ?_⟩
  walk_at "rd"
  have e : inV (.str (S x)) [V.str (S []), .str (S [110, 111, 110, 101]), .str (S [121, 101, 115]), .str (S [110, 111])] = decide (x = [] ∨ x = wNone ∨ x = wYes ∨ x = wNo) := by
    have q : ∀ a : List Nat, (S a == S x) = decide (x = a) := fun a => by rw [SX.S_beq_eq]; exact decide_eq_decide.mpr eq_comm
    show ((S [] == S x) || ((S [110, 111, 110, 101] == S x) || ((S [121, 101, 115] == S x) || ((S [110, 111] == S x) || false)))) = _
    rw [q, q, q, q, Bool.or_false, ← Bool.decide_or, ← Bool.decide_or, ← Bool.decide_or]
    rfl
  refine uIn_q (.inl (SqL.of upd_same)) rfl rfl ?_
  rw [e]
  walk_at "rd"
  refine br_c (fun h => ?_) (fun h => ?_)
  · walk_at "rd"
    have h : x = [] ∨ x = wNone ∨ x = wYes ∨ x = wNo := by simpa using h
    have eb : bare x = false := by
      rcases h with rfl | rfl | rfl | rfl <;> rfl
    rw [← eb]
    exact q _ (.new hb)
  · walk_at "rd"
    have h : ¬ (x = [] ∨ x = wNone ∨ x = wYes ∨ x = wNo) := by simpa using h
    have h0 : x ≠ [] := fun z => h (.inl z)
    have hk : kept x = none := by
      unfold kept
      rw [if_neg fun z => h (.inr (.inl z)), if_neg fun z => h (.inr (.inr (.inl z))), if_neg fun z => h (.inr (.inr (.inr z)))]
    have x1 := Ext.new (o := .lst [.str (S []), .str (S [110, 111, 110, 101]), .str (S [121, 101, 115]), .str (S [110, 111])]) hb
    generalize upd H b (.lst [.str (S []), .str (S [110, 111, 110, 101]), .str (S [121, 101, 115]), .str (S [110, 111])]) = H1 at x1
    refine lc_w walk_str (fun i H' acc => H' = H1 ∧ acc = (((x.take i).filter fun c => !isSm c).map fun c => V.str (S [c]))) ⟨rfl, rfl⟩ (fun i H' acc hi p => ⟨trivial, by
      rw [p.2, List.length_map]
      exact Nat.le_trans (List.length_filter_le ..) (by rw [List.length_take]; exact Nat.min_le_left ..)⟩) (sl (by simpa using (show x.length ≤ 4000000 by omega))) ?_ ?_
    · rintro i y H2 H3 acc hi ⟨rfl, rfl⟩ ⟨rfl, c, hc, rfl⟩
      walk_at "rd"
      refine ⟨rfl, ?_⟩
      walk_at "rd"
      refine uNotIn_c (c := c) ?_
      walk_at "rd"
      have hs : decide (c ∈ (S [97, 98, 99, 100, 101, 102, 103, 104, 105, 106, 107, 108, 109, 110, 111, 112, 113, 114, 115, 116, 117, 118, 119, 120, 121, 122]).cps.toList) = isSm c := smalls_dec c
      rw [hs]
      have hc' : x[i]? = some c := by simpa using hc
      refine br_c (fun h => ?_) (fun h => ?_)
      · walk_at "rd"
        refine ⟨rfl, ?_⟩
        rw [tkw hc', List.filter_append, List.map_append]
        simp [h]
      · refine ⟨rfl, ?_⟩
        rw [tkw hc', List.filter_append, List.map_append]
        simp [h]
    · rintro H2 acc ⟨rfl, rfl⟩ D hD
      have hx : x.take (S x).cps.size = x := List.take_of_length_le (by simp)
      rw [hx]
      walk_at "rd"
      refine ⟨sb (by simp), fun e he => ?_⟩
      walk_at "rd"
      refine uEq_e (SqL.of ((Ext.new he) _ _ upd_same)) upd_same ?_
      walk_at "rd"
      have eb : bare x = (((x.filter fun c => !isSm c).map fun c => V.str (S [c])).isEmpty) := by
        unfold bare
        rw [hk]
        simp only [h0, decide_false, Bool.not_false, Option.isNone_none, Bool.true_and, List.isEmpty_map]
        exact all_filter x
      rw [← eb]
      exact q _ ((x1.on hD).on he)
theorem w__law_word {H : Hp} {vs : List V} {Q : VK} {E : XK} (h : sp__law_word vs H Q E) : t__law_word K w sp_is_bare (fun cls d _ H' => E cls d H') (topE Q) (start N__law_word vs) H := by
  obtain ⟨v, rfl, x, rfl, hl, q⟩ := h
  unfold t__law_word
  walk_at "rd"
  refine sp1_go ⟨x, rfl, by omega, fun H1 e1 => ?_⟩
  walk_at "rd"
  refine br_c (fun h => ?_) (fun h => ?_)
  · walk_at "rd"
    have e2 : word x = x := by simp [word, h]
    have q := q H1 e1
    rw [e2] at q
    exact q
  walk_at "rd"
  have l1 := fm3 (f := rp1 94 [94, 94]) (fun c => rp1_len (by decide)) x
  have l2 := fm3 (f := rp1 39 [94, 39]) (fun c => rp1_len (by decide)) (x.flatMap (rp1 94 [94, 94]))
  have l3 := fm3 (f := rp1 10 [94, 110]) (fun c => rp1_len (by decide)) ((x.flatMap (rp1 94 [94, 94])).flatMap (rp1 39 [94, 39]))
  refine repR_i (u := S x) (by rw [SX.S_len, SX.S_len]; simp only [List.length_cons, List.length_nil]; omega) ?_
  rw [repl_S]
  refine repR_i (u := S (x.flatMap (rp1 94 [94, 94]))) (by rw [SX.S_len, SX.S_len]; simp only [List.length_cons, List.length_nil]; omega) ?_
  rw [repl_S]
  refine repR_i (u := S ((x.flatMap (rp1 94 [94, 94])).flatMap (rp1 39 [94, 39]))) (by rw [SX.S_len, SX.S_len]; simp only [List.length_cons, List.length_nil]; omega) ?_
  rw [repl_S, rep3]
  rw [rep3] at l3
  refine uAdd_S (by simp only [List.length_cons, List.length_nil]; omega) ?_
  walk_at "rd"
  refine uAdd_S (by simp only [List.length_append, List.length_cons, List.length_nil]; omega) ?_
  walk_at "rd"
  have e2 : word x = [39] ++ x.flatMap sg ++ [39] := by simp [word, h]
  rw [← e2]
  exact q _ e1
end
end K96
end

section
set_option Elab.async false
set_option linter.all false
set_option maxRecDepth 100000
set_option maxHeartbeats 4000000
open PySem PySem.Spec PyProof.Rows L2 CL
local macro_rules | `(tactic| walk_at "rd1") => `(tactic| first
  | (with_reducible refine g_seq ?_) | ((with_reducible apply g_var); rfl) | (with_reducible refine g_c ?_) | (with_reducible refine g_op ?_) | (with_reducible refine g_cons ?_) | (with_reducible refine g_nil ?_)
  | (with_reducible refine g_if ?_) | (with_reducible refine g_ct ?_) | (with_reducible refine g_tr ?_) | (with_reducible refine g_and ?_) | (with_reducible refine g_or ?_) | (with_reducible refine g_not ?_)
  | (with_reducible refine asB_bl ?_) | (with_reducible refine tru_bl ?_) | (with_reducible refine g_ret ?_) | (with_reducible refine g_set ?_) | (with_reducible refine g_fn ?_) | (with_reducible refine g_call ?_)
  | (with_reducible refine g_meth ?_) | (with_reducible refine g_fld ?_) | (with_reducible refine nx_seq ?_) | (with_reducible refine nx_loop ?_) | (with_reducible refine nx_top ?_) | (with_reducible refine rt_seq ?_)
  | (with_reducible refine rt_loop ?_) | (with_reducible refine rt_top ?_) | (with_reducible refine bk_seq ?_) | (with_reducible refine bk_loop ?_) | (with_reducible refine ct_seq ?_) | (with_reducible refine ct_loop ?_)
  | (with_reducible refine g_end ?_) | (with_reducible refine uAdd_i ?_) | (with_reducible refine uSub_i ?_) | (with_reducible refine uEq_i ?_) | (with_reducible refine uEq_s ?_) | (with_reducible refine uNe_i ?_) | (with_reducible refine uNe_s ?_)
  | (with_reducible refine uLt_i ?_) | (with_reducible refine uLe_i ?_) | (with_reducible refine uGt_i ?_) | (with_reducible refine uGe_i ?_) | (with_reducible refine uIs_n ?_) | (with_reducible refine uIsNot_n ?_)
  | (with_reducible refine g_tup ?_) | (with_reducible refine g_lst ?_) | (with_reducible refine g_sl ?_) | (with_reducible refine g_no ?_) | (with_reducible refine g_part ?_) | (with_reducible refine g_ifE ?_) | (with_reducible refine g_ofT ?_)
  | (with_reducible refine g_unp2 ?_) | (with_reducible refine g_put ?_) | (with_reducible refine g_retN ?_) | (with_reducible refine g_drop ?_) | (with_reducible refine g_brk ?_) | (with_reducible refine g_cnt ?_) | (with_reducible refine iAdd_i ?_)
  | ((with_reducible apply g_aug); rfl) | (with_reducible refine g_sto ?_) | (with_reducible refine g_stoA ?_) | (with_reducible refine g_for ?_) | (with_reducible refine g_wh ?_) | (with_reducible refine g_rs ?_) | (with_reducible refine g_rsX ?_)
  | (with_reducible refine g_g ?_) | (with_reducible refine g_g2 ?_) | (with_reducible refine g_callN ?_) | (with_reducible refine g_app ?_) | (with_reducible refine g_join ?_) | (with_reducible refine strA_i ?_) | (with_reducible refine g_it ?_)
  | (with_reducible refine itR_s ?_) | (with_reducible refine g_rng ?_) | (with_reducible refine g_vals ?_) | (with_reducible refine g_zip ?_) | (with_reducible refine g_rep ?_) | (with_reducible refine g_new ?_) | (with_reducible refine g_disp ?_)
  | (with_reducible refine g_andV ?_) | (with_reducible refine g_orV ?_) | (with_reducible refine g_notV ?_) | (with_reducible refine g_un ?_) | (with_reducible refine uNeg_i ?_) | (with_reducible refine g_yes ?_) | (with_reducible refine g_make ?_)
  | (with_reducible refine g_try ?_) | (with_reducible refine g_lc ?_) | (with_reducible refine intR_b ?_) | (with_reducible refine minR_i ?_) | (with_reducible refine tru_int ?_))
local macro_rules | `(tactic| walk_at "rd") => `(tactic| repeat (walk_at "rd1"))
namespace K96
open PySem PySem.Spec PyProof.Rows L2 CL
def sp__law_spelt : Nat → Sp
  | 0 => fun _ _ _ _ => False
  | n + 1 => sp1 fun v H Q _ => ∃ d, Rep H v d ∧ okD d ∧ dep d ≤ n ∧ (spell d).length ≤ 50000 ∧ ∀ H', Ext H H' → Q (.str (S (spell d))) H'
theorem spelt_go {n : Nat} {v : V} {d : D} {H : Hp} {Q : VK} {E : XK} (r : Rep H v d) (ok : okD d) (hn : dep d ≤ n) (hl : (spell d).length ≤ 50000) (q : ∀ H', Ext H H' → Q (.str (S (spell d))) H') : sp__law_spelt (n + 1) [v] H Q E := ⟨v, rfl, d, r, ok, hn, hl, q⟩
section
variable {K : PySem.W.Frag} {w : World}
theorem w__law_spelt {n : Nat} {H : Hp} {vs : List V} {Q : VK} {E : XK} (h : sp__law_spelt (n + 1) vs H Q E) :
    t__law_spelt K w sp__law_word (sp__law_spelt n) (fun cls d _ H' => E cls d H') (topE Q) (start N__law_spelt vs) H := by
  obtain ⟨v, rfl, d, r, ok, hn, hl, q⟩ := h
  unfold t__law_spelt
  walk_at "rd"
  cases d with
  | non =>
    cases r
    refine br_t ?_
    walk_at "rd"
    exact q H .refl
  | bl b =>
    cases r
    refine br_f ?_
    walk_at "rd"
    refine isiA "bool" true (.bl b) rfl (by decide +kernel) ?_
    walk_at "rd"
    refine br_t ?_
    walk_at "rd"
    refine ⟨sb (by simp), fun a ha => ?_⟩
    walk_at "rd"
    cases b with
    | true =>
      refine uIx_l (SqL.of upd_same) (v := .str (S [121, 101, 115])) (by rfl) ?_
      walk_at "rd"
      exact q _ (.new ha)
    | false =>
      refine uIx_l (SqL.of upd_same) (v := .str (S [110, 111])) (by rfl) ?_
      walk_at "rd"
      exact q _ (.new ha)
  | int i =>
    cases r
    refine br_f ?_
    walk_at "rd"
    refine isiA "int" false (.int i) rfl (by decide +kernel) ?_
    walk_at "rd"
    refine br_f ?_
    walk_at "rd"
    refine isiA "int" true (.int i) rfl (by decide +kernel) ?_
    walk_at "rd"
    refine br_t ?_
    walk_at "rd"
    refine strR_i (log_ok ok) ?_
    walk_at "rd"
    have q := q H .refl
    have e : S (spell (.int i)) = Str.ofString (toString i) := SX.S_tl _
    rw [e] at q
    exact q
  | str x =>
    cases r
    refine br_f ?_
    walk_at "rd"
    refine isiA "str" false (.str x) rfl (by decide +kernel) ?_
    walk_at "rd"
    refine br_f ?_
    walk_at "rd"
    refine isiA "str" false (.str x) rfl (by decide +kernel) ?_
    walk_at "rd"
    refine br_f ?_
    walk_at "rd"
    refine isiA "str" true (.str x) rfl (by decide +kernel) ?_
    walk_at "rd"
    refine br_t ?_
    walk_at "rd"
    have := word_ge x
    have hl : (word x).length ≤ 50000 := hl
    refine sp1_go ⟨x, rfl, by omega, fun H1 e1 => ?_⟩
    walk_at "rd"
    exact q H1 e1
  | con kd ks ds =>
  rw [dep] at hn
  obtain ⟨n, rfl⟩ : ∃ m, n = m + 1 := ⟨n - 1, by omega⟩
  have hv : ∃ a, v = .ref a := by cases r <;> exact ⟨_, rfl⟩
  obtain ⟨a, rfl⟩ := hv
  refine br_f ?_
  walk_at "rd"
  have notb : ∀ m, (m = "tuple" ∨ m = "list" ∨ m = "dict") → kitB m "bool" = some false ∧ kitB m "int" = some false ∧ kitB m "str" = some false := by
    rintro m (rfl | rfl | rfl) <;> decide +kernel
  obtain ⟨k1, k2, k3⟩ := notb (tyN (.con kd ks ds)) (by cases kd <;> simp [tyN])
  refine isiA _ false r rfl k1 ?_
  walk_at "rd"
  refine br_f ?_
  walk_at "rd"
  refine isiA _ false r rfl k2 ?_
  walk_at "rd"
  refine br_f ?_
  walk_at "rd"
  refine isiA _ false r rfl k3 ?_
  walk_at "rd"
  refine br_f ?_
  walk_at "rd"
  by_cases hd : kd = .dct
  · subst hd
    cases r with
    | @dct a kvs _ _ ha perm rk =>
    obtain ⟨rise, hlen, h64, ok⟩ := ok
    generalize hzs : List.zipWith (fun k t => word k ++ 32 :: t) ks (spells ds) = zs at *
    have hl : (123 :: (jn zs ++ [125])).length ≤ 50000 := by rw [← hzs]; exact hl
    have q : ∀ H', Ext H H' → Q (.str (S (123 :: (jn zs ++ [125])))) H' := by rw [← hzs]; exact q
    rw [List.length_cons, List.length_append] at hl
    refine isiA "dict" true (.dct ha perm rk) rfl (by decide +kernel) ?_
    walk_at "rd"
    refine br_t ?_
    walk_at "rd"
    obtain ⟨k1, k2⟩ := keys_of perm
    refine srtR_d ha k1 ?_ fun ys p2 hy hs hp2 => ?_
    · rw [k2.length_eq, List.length_map]
      omega
    have hys := sorted_is rise (hy.trans k2) hs
    subst hys
    have eX := Ext.new (o := .lst ((ks.map S).map V.str)) hp2
    refine itR_l (SqL.of upd_same) ?_
    have hzl : ∀ i : Nat, ∀ kk d, ks[i]? = some kk → ds[i]? = some d → zs[i]? = some (word kk ++ 32 :: spell d) := by
      intro i kk d h1 h2
      rw [← hzs, spells_map, List.getElem?_zipWith, h1, List.getElem?_map, h2]
      rfl
    refine lc_w walk_list (fun i H' acc => Ext (upd H p2 (.lst ((ks.map S).map V.str))) H' ∧ acc = ((zs.take i).map fun z => V.str (S z))) ⟨.refl, rfl⟩
      (fun i H' acc hi p => ⟨SqL.of (p.1 _ _ upd_same), by rw [p.2, List.length_map, List.length_take]; exact Nat.min_le_left ..⟩) (by rw [List.length_map, List.length_map]; exact sl (by omega)) ?_ ?_
    · rintro i x H2 H3 acc hi ⟨e2, rfl⟩ ⟨rfl, hx⟩
      rw [List.length_map, List.length_map] at hi
      have hk0 : ks[i]? = some ks[i] := List.getElem?_eq_getElem hi
      have hx : x = .str (S ks[i]) := by
        rw [List.getElem?_map, List.getElem?_map, hk0] at hx
        exact (Option.some.inj hx).symm
      subst hx
      obtain ⟨v0, d, hd, hv0, rd⟩ := rk.at hk0
      have hz := hzl i _ _ hk0 hd
      have hzm := jn_mem (List.mem_of_getElem? hz)
      rw [List.length_append, List.length_cons] at hzm
      have hge := word_ge ks[i]
      walk_at "rd"
      refine ⟨rfl, ?_⟩
      walk_at "rd"
      refine br_t ?_
      walk_at "rd"
      refine sp1_go ⟨ks[i], rfl, by omega, fun H4 e4 => ?_⟩
      walk_at "rd"
      refine uAdd_S (by simp only [List.length_cons, List.length_nil]; omega) ?_
      walk_at "rd"
      have e5 := (eX.trans e2).trans e4
      refine uIx_d (.inl ⟨kvs, keyS ks[i], e5.keep.d _ _ ha, rfl, hv0.symm⟩) ?_
      walk_at "rd"
      have hm := deps_mem (List.mem_of_getElem? hd)
      refine spelt_go (rd.ext e5) (okDs_at ok hd) (by omega) (by omega) fun H5 e6 => ?_
      refine uAdd_S (by simp only [List.length_append, List.length_cons, List.length_nil]; omega) ?_
      refine ⟨(e2.trans e4).trans e6, ?_⟩
      rw [tkw hz, List.map_append]
      simp
    · rintro H2 acc ⟨e2, rfl⟩ D hD
      rw [List.length_map, List.length_map]
      have hz : zs.take ks.length = zs := List.take_of_length_le (by rw [← hzs, List.length_zipWith]; exact Nat.min_le_left ..)
      rw [hz]
      have ez : (zs.map fun z => V.str (S z)) = (zs.map S).map V.str := by rw [List.map_map]; rfl
      have h1 := jn_len zs
      refine joinR_l (zs := zs.map S) (SqL.of (by rw [upd_same, ez])) ?_ ?_
      · rw [sum_S, List.length_map]
        show _ + _ * ([32] : List Nat).toArray.size ≤ _
        simp only [List.size_toArray, List.length_cons, List.length_nil]
        omega
      · rw [join_jn]
        refine uAdd_S (by simp only [List.length_cons, List.length_nil]; omega) ?_
        walk_at "rd"
        refine uAdd_S (by simp only [List.length_append, List.length_cons, List.length_nil]; omega) ?_
        walk_at "rd"
        exact q _ ((eX.trans e2).on hD)
  · have h1 : kitB (tyN (.con kd ks ds)) "dict" = some false := by
      cases kd with
      | tup => show kitB "tuple" "dict" = _; decide +kernel
      | lst => show kitB "list" "dict" = _; decide +kernel
      | dct => exact (hd rfl).elim
    have h2 : kitB (tyN (.con kd ks ds)) "tuple" = some (decide (kd = .tup)) := by
      cases kd with
      | tup => show kitB "tuple" "tuple" = some true; decide +kernel
      | lst => show kitB "list" "tuple" = some false; decide +kernel
      | dct => exact (hd rfl).elim
    have hin : spell (.con kd ks ds) = (if kd = .tup then 40 else 91) :: (jn (spells ds) ++ [if kd = .tup then 41 else 93]) := by
      cases kd with
      | tup => rfl
      | lst => rfl
      | dct => exact (hd rfl).elim
    rw [hin] at hl q
    rw [List.length_cons, List.length_append] at hl
    have okd : okDs ds := by
      cases kd with
      | tup => exact ok.2
      | lst => exact ok.2
      | dct => exact (hd rfl).elim
    refine isiA _ false r rfl h1 ?_
    walk_at "rd"
    refine br_f ?_
    walk_at "rd"
    have body : ∀ (us : List V) (J : It) (Gd : Hp → Prop) (QQ : VK), Reps H us ds → Walk J us.length Gd (YAt us) → (∀ H', Ext H H' → Gd H') → (∀ H' D, Ext H H' → H' D = none → QQ (.ref D) (upd H' D (.lst (ds.map fun d => V.str (S (spell d)))))) →
        lcR J (xG 3) tYes (xCall (sp__law_spelt (n + 1)) [] (fun cls d _ H' => E cls d H') (xCons (xVar 3) xNil)) [3] (start N__law_spelt [.ref a]) H QQ := by
      intro us J Gd QQ rs wk hG hQ
      have hz : us.length ≤ sizeLine := by
        have h1 := jn_len (spells ds)
        have h2 := rs.len
        rw [spells_map, List.length_map] at h1
        rw [spells_map] at hl
        exact sl (by omega)
      refine lc_w wk (fun i H' acc => Ext H H' ∧ acc = ((ds.take i).map fun d => V.str (S (spell d)))) ⟨.refl, rfl⟩ (fun i H' acc hi p => ⟨hG _ p.1, by rw [p.2, List.length_map, List.length_take]; exact Nat.min_le_left ..⟩) hz ?_ ?_
      · rintro i x H2 H3 acc hi ⟨e2, rfl⟩ ⟨rfl, hx⟩
        obtain ⟨d, hd, rd⟩ := rs.at hx
        walk_at "rd"
        refine ⟨rfl, ?_⟩
        walk_at "rd"
        refine br_t ?_
        walk_at "rd"
        have hm := deps_mem (List.mem_of_getElem? hd)
        refine spelt_go (rd.ext e2) (okDs_at okd hd) (by omega) (sp_le (n := 50000) (by omega) hd) fun H4 e4 => ⟨e2.trans e4, ?_⟩
        rw [tkw hd, List.map_append]
        rfl
      · rintro H2 acc ⟨e2, rfl⟩ D hD
        have hx : ds.take us.length = ds := List.take_of_length_le (by rw [rs.len]; exact Nat.le_refl _)
        rw [hx]
        exact hQ H2 D e2 hD
    have fin : ∀ H' D, Ext H H' → H' D = none → joinR K (.str (S [32])) (.ref D) (upd H' D (.lst (ds.map fun d => V.str (S (spell d))))) fun x H1 => dNx (seqE (topE Q) (xRet (xOp (uIx K w) (xLst (xCons (xOp (uAdd K) (xOp (uAdd K) (xC (.str (S [91]))) (xVar 1)) (xC (.str (S [93])))) (xCons (xOp (uAdd K) (xOp (uAdd K) (xC (.str (S [40]))) (xVar 1)) (xC (.str (S [41])))) xNil))) (xFn intR (xCons (xFn (isiR K) (xCons (xVar 0) (xCons (xC (.ty "tuple")) xNil))) xNil)))))
        ((start N__law_spelt [.ref a]).set 1 (some x)) H1 := by
      intro H' D e hD
      refine joinR_l (zs := (spells ds).map S) (SqL.of (by rw [upd_same, strs_of])) ?_ ?_
      · rw [sum_S]
        have h1 := jn_len (spells ds)
        rw [List.length_map]
        show _ + _ * ([32] : List Nat).toArray.size ≤ _
        simp only [List.size_toArray, List.length_cons, List.length_nil]
        omega
      · rw [join_jn]
        walk_at "rd"
        refine uAdd_S (by simp only [List.length_cons, List.length_nil]; omega) ?_
        walk_at "rd"
        refine uAdd_S (by simp only [List.length_append, List.length_cons, List.length_nil]; omega) ?_
        walk_at "rd"
        refine uAdd_S (by simp only [List.length_cons, List.length_nil]; omega) ?_
        walk_at "rd"
        refine uAdd_S (by simp only [List.length_append, List.length_cons, List.length_nil]; omega) ?_
        walk_at "rd"
        refine ⟨sb (by simp), fun b hb => ?_⟩
        walk_at "rd"
        have eb := (e.on (o := .lst (ds.map fun d => V.str (S (spell d)))) hD).on (o := .lst [.str (S ([91] ++ jn (spells ds) ++ [93])), .str (S ([40] ++ jn (spells ds) ++ [41]))]) hb
        refine isiA _ _ (r.ext eb) rfl h2 ?_
        walk_at "rd"
        cases kd with
        | tup =>
          refine uIx_l (SqL.of upd_same) (v := .str (S ([40] ++ jn (spells ds) ++ [41]))) (by rfl) ?_
          walk_at "rd"
          exact q _ eb
        | lst =>
          refine uIx_l (SqL.of upd_same) (v := .str (S ([91] ++ jn (spells ds) ++ [93]))) (by rfl) ?_
          walk_at "rd"
          exact q _ eb
        | dct => exact (hd rfl).elim
    cases r with
    | @tup a us _ ha rs => exact itR_t (SqT.of ha) (body us _ _ _ rs walk_tup (fun H' e => SqT.of (e _ _ ha)) fin)
    | @lst a us _ ha rs => exact itR_l (SqL.of ha) (body us _ _ _ rs walk_list (fun H' e => SqL.of (e _ _ ha)) fin)
    | dct => exact (hd rfl).elim
end
end K96
end

section
set_option Elab.async false
set_option linter.all false
set_option maxRecDepth 100000
set_option maxHeartbeats 4000000
open PySem PySem.Spec PyProof.Rows L2 CL
local macro_rules | `(tactic| walk_at "rd1") => `(tactic| first
  | (with_reducible refine g_seq ?_) | ((with_reducible apply g_var); rfl) | (with_reducible refine g_c ?_) | (with_reducible refine g_op ?_) | (with_reducible refine g_cons ?_) | (with_reducible refine g_nil ?_)
  | (with_reducible refine g_if ?_) | (with_reducible refine g_ct ?_) | (with_reducible refine g_tr ?_) | (with_reducible refine g_and ?_) | (with_reducible refine g_or ?_) | (with_reducible refine g_not ?_)
  | (with_reducible refine asB_bl ?_) | (with_reducible refine tru_bl ?_) | (with_reducible refine g_ret ?_) | (with_reducible refine g_set ?_) | (with_reducible refine g_fn ?_) | (with_reducible refine g_call ?_)
  | (with_reducible refine g_meth ?_) | (with_reducible refine g_fld ?_) | (with_reducible refine nx_seq ?_) | (with_reducible refine nx_loop ?_) | (with_reducible refine nx_top ?_) | (with_reducible refine rt_seq ?_)
  | (with_reducible refine rt_loop ?_) | (with_reducible refine rt_top ?_) | (with_reducible refine bk_seq ?_) | (with_reducible refine bk_loop ?_) | (with_reducible refine ct_seq ?_) | (with_reducible refine ct_loop ?_)
  | (with_reducible refine g_end ?_) | (with_reducible refine uAdd_i ?_) | (with_reducible refine uSub_i ?_) | (with_reducible refine uEq_i ?_) | (with_reducible refine uEq_s ?_) | (with_reducible refine uNe_i ?_) | (with_reducible refine uNe_s ?_)
  | (with_reducible refine uLt_i ?_) | (with_reducible refine uLe_i ?_) | (with_reducible refine uGt_i ?_) | (with_reducible refine uGe_i ?_) | (with_reducible refine uIs_n ?_) | (with_reducible refine uIsNot_n ?_)
  | (with_reducible refine g_tup ?_) | (with_reducible refine g_lst ?_) | (with_reducible refine g_sl ?_) | (with_reducible refine g_no ?_) | (with_reducible refine g_part ?_) | (with_reducible refine g_ifE ?_) | (with_reducible refine g_ofT ?_)
  | (with_reducible refine g_unp2 ?_) | (with_reducible refine g_put ?_) | (with_reducible refine g_retN ?_) | (with_reducible refine g_drop ?_) | (with_reducible refine g_brk ?_) | (with_reducible refine g_cnt ?_) | (with_reducible refine iAdd_i ?_)
  | ((with_reducible apply g_aug); rfl) | (with_reducible refine g_sto ?_) | (with_reducible refine g_stoA ?_) | (with_reducible refine g_for ?_) | (with_reducible refine g_wh ?_) | (with_reducible refine g_rs ?_) | (with_reducible refine g_rsX ?_)
  | (with_reducible refine g_g ?_) | (with_reducible refine g_g2 ?_) | (with_reducible refine g_callN ?_) | (with_reducible refine g_app ?_) | (with_reducible refine g_join ?_) | (with_reducible refine strA_i ?_) | (with_reducible refine g_it ?_)
  | (with_reducible refine itR_s ?_) | (with_reducible refine g_rng ?_) | (with_reducible refine g_vals ?_) | (with_reducible refine g_zip ?_) | (with_reducible refine g_rep ?_) | (with_reducible refine g_new ?_) | (with_reducible refine g_disp ?_)
  | (with_reducible refine g_andV ?_) | (with_reducible refine g_orV ?_) | (with_reducible refine g_notV ?_) | (with_reducible refine g_un ?_) | (with_reducible refine uNeg_i ?_) | (with_reducible refine g_yes ?_) | (with_reducible refine g_make ?_)
  | (with_reducible refine g_try ?_) | (with_reducible refine g_lc ?_) | (with_reducible refine intR_b ?_) | (with_reducible refine minR_i ?_) | (with_reducible refine tru_int ?_))
local macro_rules | `(tactic| walk_at "rd") => `(tactic| repeat (walk_at "rd1"))
namespace K96
open PySem PySem.Spec PyProof.Rows L2 CL
theorem valV_at {kvs : List (Key × V)} (nd : (kvs.map (·.1)).Nodup) : ∀ {i : Nat} {k : Key} {v : V}, kvs[i]? = some (k, v) → valV kvs k = some v := by
  induction kvs with
  | nil => intro i k v h; simp at h
  | cons p r ih =>
    intro i k v h
    rw [List.map_cons, List.nodup_cons] at nd
    cases i with
    | zero =>
      rw [List.getElem?_cons_zero] at h
      cases h
      exact valV_pos rfl
    | succ i =>
      rw [List.getElem?_cons_succ] at h
      rw [valV_neg]
      · exact ih nd.2 h
      · intro e
        exact nd.1 (e ▸ List.mem_map.mpr ⟨_, List.mem_of_getElem? h, rfl⟩)
theorem rises_nd {ks : List (List Nat)} (h : Rises ks) : ks.Nodup := h.imp fun {a b} q e => by
  subst e
  exact List.lt_irrefl a q
theorem kvs_nd {kvs : List (Key × V)} {ks : List (List Nat)} (p : (kvs.map (·.1)).Perm (ks.map keyS)) (r : Rises ks) : (kvs.map (·.1)).Nodup := by
  refine p.nodup_iff.mpr (List.pairwise_map.mpr ((rises_nd r).imp fun {a b} q e => q (keyS_inj e)))
/-- a dict's values, in its own order -/
theorem vals_of {H : Hp} {kvs : List (Key × V)} {ks : List (List Nat)} {ds : List D} (p : (kvs.map (·.1)).Perm (ks.map keyS)) (r : Rises ks) (rk : RepK H kvs ks ds) :
    ∃ es : List D, Reps H (kvs.map (·.2)) es ∧ (∀ d, d ∈ es → d ∈ ds) ∧ ∀ d, d ∈ ds → d ∈ es := by
  have nd := kvs_nd p r
  have go : ∀ l : List (Key × V), (∀ kv, kv ∈ l → kv ∈ kvs) → ∃ es : List D, Reps H (l.map (·.2)) es ∧ (∀ d, d ∈ es → d ∈ ds) ∧ ∀ (j : Nat) k, ks[j]? = some k → keyS k ∈ l.map (·.1) → ∀ d, ds[j]? = some d → d ∈ es := by
    intro l
    induction l with
    | nil => exact fun _ => ⟨[], .nil, fun d h => by simp at h, fun j k _ h => by simp at h⟩
    | cons kv l ih =>
      intro hm
      obtain ⟨es, h1, h2, h3⟩ := ih fun q hq => hm q (List.mem_cons_of_mem _ hq)
      have hkv := hm kv (List.mem_cons_self ..)
      have hk : kv.1 ∈ ks.map keyS := p.mem_iff.mp (List.mem_map.mpr ⟨kv, hkv, rfl⟩)
      obtain ⟨x, hx, ex⟩ := List.mem_map.mp hk
      obtain ⟨j, hj⟩ := List.mem_iff_getElem?.mp hx
      obtain ⟨v, d, e1, e2, e3⟩ := rk.at hj
      obtain ⟨i, hi⟩ := List.mem_iff_getElem?.mp hkv
      have e4 := valV_at nd (k := kv.1) (v := kv.2) hi
      rw [← ex, e2] at e4
      cases e4
      refine ⟨d :: es, .cons e3 h1, fun q hq => ?_, fun j' k' hj' hk' d' hd' => ?_⟩
      · rcases List.mem_cons.mp hq with rfl | hq
        · exact List.mem_of_getElem? e1
        · exact h2 q hq
      · by_cases hkk : keyS k' = kv.1
        · rw [← ex] at hkk
          have := keyS_inj hkk
          subst this
          have hjj : j' = j := by
            obtain ⟨l1, g1⟩ := List.getElem?_eq_some_iff.mp hj'
            obtain ⟨l2, g2⟩ := List.getElem?_eq_some_iff.mp hj
            have z := List.pairwise_iff_getElem.mp (rises_nd r)
            rcases Nat.lt_trichotomy j' j with c | c | c
            · exact (z _ _ l1 l2 c (g1.trans g2.symm)).elim
            · exact c
            · exact (z _ _ l2 l1 c (g2.trans g1.symm)).elim
          subst hjj
          rw [e1] at hd'
          cases hd'
          exact List.mem_cons_self ..
        · rw [List.map_cons] at hk'
          rcases List.mem_cons.mp hk' with h | h
          · exact (hkk h).elim
          · exact List.mem_cons_of_mem _ (h3 j' k' hj' h d' hd')
  obtain ⟨es, h1, h2, h3⟩ := go kvs fun _ h => h
  refine ⟨es, h1, h2, fun d hd => ?_⟩
  obtain ⟨j, hj⟩ := List.mem_iff_getElem?.mp hd
  have hl : j < ks.length := by
    rw [rk.len]
    exact (List.getElem?_eq_some_iff.mp hj).1
  exact h3 j ks[j] (List.getElem?_eq_getElem hl) (p.mem_iff.mpr (List.mem_map.mpr ⟨_, List.getElem_mem hl, rfl⟩)) d hj
def sp__law_depth : Nat → Sp
  | 0 => fun _ _ _ _ => False
  | n + 1 => sp1 fun v H Q _ => ∃ d, Rep H v d ∧ okD d ∧ dep d ≤ n ∧ (spell d).length ≤ 50000 ∧ ∀ H', Ext H H' → Q (.int (dep d : Nat)) H'
theorem depth_go {n : Nat} {v : V} {d : D} {H : Hp} {Q : VK} {E : XK} (r : Rep H v d) (ok : okD d) (hn : dep d ≤ n) (hl : (spell d).length ≤ 50000) (q : ∀ H', Ext H H' → Q (.int (dep d : Nat)) H') : sp__law_depth (n + 1) [v] H Q E := ⟨v, rfl, d, r, ok, hn, hl, q⟩
theorem upd_cm {H : Hp} {a b : Addr} {x y : HO} (h : a ≠ b) : upd (upd H a x) b y = upd (upd H b y) a x := by
  funext c
  by_cases h1 : c = a
  · subst h1; rw [upd_ne h, upd_same, upd_same]
  · by_cases h2 : c = b
    · subst h2; rw [upd_same, upd_ne h1, upd_same]
    · rw [upd_ne h2, upd_ne h1, upd_ne h1, upd_ne h2]
theorem deps_max {ds es : List D} (h1 : ∀ d, d ∈ es → d ∈ ds) (h2 : ∀ d, d ∈ ds → d ∈ es) {m : Int} (hm : m ∈ (es.map fun d => ((dep d : Nat) : Int)) ++ [0]) (hu : ∀ y, y ∈ (es.map fun d => ((dep d : Nat) : Int)) ++ [0] → y ≤ m) : m = (deps ds : Nat) := by
  have u0 := hu 0 (by simp)
  have a : deps ds ≤ m.toNat := deps_le fun d hd => by
    have := hu (dep d : Nat) (List.mem_append_left _ (List.mem_map.mpr ⟨d, h2 d hd, rfl⟩))
    omega
  have b : m ≤ (deps ds : Nat) := by
    rcases List.mem_append.mp hm with h | h
    · obtain ⟨d, hd, rfl⟩ := List.mem_map.mp h
      have := deps_mem (h1 d hd)
      omega
    · have : m = 0 := by simpa using h
      omega
  omega
section
variable {K : PySem.W.Frag} {w : World}
theorem w__law_depth {n : Nat} {H : Hp} {vs : List V} {Q : VK} {E : XK} (h : sp__law_depth (n + 1) vs H Q E) :
    t__law_depth K w (sp__law_depth n) (fun cls d _ H' => E cls d H') (topE Q) (start N__law_depth vs) H := by
  obtain ⟨v, rfl, d, r, ok, hn, hl, q⟩ := h
  have atom : ∀ m, tyN d = m → kitB m "dict" = some false → kitB m "list" = some false → kitB m "tuple" = some false → dep d = 0 → t__law_depth K w (sp__law_depth n) (fun cls d _ H' => E cls d H') (topE Q) (start N__law_depth [v]) H := by
    intro m hm k1 k2 k3 h0
    unfold t__law_depth
    walk_at "rd"
    refine isiA _ false r hm k1 ?_
    walk_at "rd"
    refine br_f ?_
    walk_at "rd"
    refine ⟨sb (by simp), fun tp htp => ?_⟩
    walk_at "rd"
    refine isi_2 upd_same ((r.ext (.new htp)).ty) (by rw [hm]; exact k2) (by rw [hm]; exact k3) ?_
    walk_at "rd"
    refine br_f ?_
    walk_at "rd"
    rw [h0] at q
    exact q _ (.new htp)
  have lst : ∀ (us : List V) (es : List D) (J : It) (Gd : Hp → Prop) (H0 : Hp) (QQ : VK), Reps H0 us es → us.length ≤ sizeLine → (∀ d, d ∈ es → okD d ∧ dep d + 1 ≤ n ∧ (spell d).length ≤ 50000) → Walk J us.length Gd (fun i H x H' => H' = H ∧ us[i]? = some x) → (∀ H', Ext H0 H' → Gd H') →
      (∀ H' D, Ext H0 H' → H' D = none → QQ (.ref D) (upd H' D (.lst (es.map fun d => V.int (dep d : Nat))))) →
        lcR J (xG 1) tYes (xCall (sp__law_depth n) [] (fun cls d _ H' => E cls d H') (xCons (xVar 1) xNil)) [1] (start N__law_depth [v]) H0 QQ := by
    intro us es J Gd H0 QQ rs hz hes wk hG hQ
    refine lc_w wk (fun i H' acc => Ext H0 H' ∧ acc = ((es.take i).map fun d => V.int (dep d : Nat))) ⟨.refl, rfl⟩ (fun i H' acc hi p => ⟨hG _ p.1, by rw [p.2, List.length_map, List.length_take]; exact Nat.min_le_left ..⟩) hz ?_ ?_
    · rintro i x H2 H3 acc hi ⟨e2, rfl⟩ ⟨rfl, hx⟩
      obtain ⟨d, hd, rd⟩ := rs.at hx
      obtain ⟨o1, o2, o3⟩ := hes d (List.mem_of_getElem? hd)
      obtain ⟨n, rfl⟩ : ∃ m, n = m + 1 := ⟨n - 1, by omega⟩
      walk_at "rd"
      refine ⟨rfl, ?_⟩
      walk_at "rd"
      refine br_t ?_
      walk_at "rd"
      refine depth_go (rd.ext e2) o1 (by omega) o3 fun H4 e4 => ⟨e2.trans e4, ?_⟩
      rw [tkw hd, List.map_append]
      rfl
    · rintro H2 acc ⟨e2, rfl⟩ D hD
      have hx : es.take us.length = es := List.take_of_length_le (by rw [rs.len]; exact Nat.le_refl _)
      rw [hx]
      exact hQ H2 D e2 hD
  cases d with
  | non => exact atom "NoneType" rfl (by decide +kernel) (by decide +kernel) (by decide +kernel) rfl
  | bl b => exact atom "bool" rfl (by decide +kernel) (by decide +kernel) (by decide +kernel) rfl
  | int i => exact atom "int" rfl (by decide +kernel) (by decide +kernel) (by decide +kernel) rfl
  | str x => exact atom "str" rfl (by decide +kernel) (by decide +kernel) (by decide +kernel) rfl
  | con kd ks ds =>
  rw [dep] at hn q
  have fin : ∀ (T : TS) (es : List D) (H' : Hp) (D : Addr), (∀ d, d ∈ es → d ∈ ds) → (∀ d, d ∈ ds → d ∈ es) → es.length ≤ 50000 → Ext H (upd H' D (.lst (es.map fun d => V.int (dep d : Nat)))) →
      xLst (xCons (xC (.int 0)) xNil) (start N__law_depth [v]) (upd H' D (.lst (es.map fun d => V.int (dep d : Nat)))) fun y H2 => uAdd K (.ref D) y H2 fun x H1 => xNil (start N__law_depth [v]) H1 fun xs H2 => maxR K (x :: xs) H2 fun z H3 => uAdd K (.int 1) z H3 fun x H4 => dRt (seqE (topE Q) T) x H4 := by
    intro T es H' D h1 h2 hl' e
    walk_at "rd"
    refine ⟨sb (by simp), fun b hb => ?_⟩
    walk_at "rd"
    have ne : D ≠ b := fun z => by rw [← z, upd_same] at hb; cases hb
    refine uAdd_l (by rw [upd_ne ne]; exact upd_same) upd_same (sl (by rw [List.length_map]; simp only [List.length_cons, List.length_nil]; omega)) fun p hp => ?_
    walk_at "rd"
    refine maxR_i (ns := (es.map fun d => ((dep d : Nat) : Int)) ++ [0]) (SqL.of (by rw [upd_same, List.map_append, List.map_map]; rfl)) (by simp) fun m hm hu => ?_
    walk_at "rd"
    rw [deps_max h1 h2 hm hu, show (1 : Int) + (deps ds : Nat) = ((1 + deps ds : Nat) : Int) from by omega]
    exact q _ ((e.on hb).on hp)
  cases r with
  | @dct a kvs _ _ ha perm rk =>
    obtain ⟨rise, hlen, h64, ok⟩ := ok
    obtain ⟨es, re, e1, e2⟩ := vals_of perm rise rk
    unfold t__law_depth
    walk_at "rd"
    refine isiA "dict" true (.dct ha perm rk) rfl (by decide +kernel) ?_
    walk_at "rd"
    refine br_t ?_
    walk_at "rd"
    have hkl : kvs.length = ks.length := by
      have := perm.length_eq
      rw [List.length_map, List.length_map] at this
      exact this
    have hel : es.length = kvs.length := by
      have := re.len
      rw [List.length_map] at this
      exact this.symm
    have hes : ∀ d, d ∈ es → okD d ∧ dep d + 1 ≤ n ∧ (spell d).length ≤ 50000 := fun d hd => by
      obtain ⟨i, hi⟩ := List.mem_iff_getElem?.mp (e1 d hd)
      have hm := deps_mem (e1 d hd)
      have hli : i < ks.length := by
        rw [rk.len]
        exact (List.getElem?_eq_some_iff.mp hi).1
      have hz : (List.zipWith (fun k t => word k ++ 32 :: t) ks (spells ds))[i]? = some (word ks[i] ++ 32 :: spell d) := by
        rw [spells_map, List.getElem?_zipWith, List.getElem?_eq_getElem hli, List.getElem?_map, hi]
        rfl
      have hzm := jn_mem (List.mem_of_getElem? hz)
      have hl : (123 :: (jn (List.zipWith (fun k t => word k ++ 32 :: t) ks (spells ds)) ++ [125])).length ≤ 50000 := hl
      rw [List.length_append, List.length_cons] at hzm
      rw [List.length_cons, List.length_append] at hl
      exact ⟨okDs_at ok hi, by omega, by omega⟩
    have wk : ∀ od, Walk (Itd a od kvs) (kvs.map (·.2)).length (fun H => H a = some (.frz od (.dK kvs))) (fun i H' x H'' => H'' = H' ∧ (kvs.map (·.2))[i]? = some x) := fun od => by
      rw [List.length_map]
      refine walk_values.mono (fun _ h => h) fun i H' x H'' _ _ ⟨y1, k, y2⟩ => ⟨y1, ?_⟩
      rw [List.getElem?_map, y2]
      rfl
    rcases ha with ha | ⟨od, ha⟩
    · refine g_lk ha fun od => ?_
      walk_at "rd"
      refine valR_i upd_same ?_
      refine lst _ es _ _ _ _ (re.mono (Keep.lock ha)) (by rw [List.length_map]; exact sl (by omega)) hes (wk od) (fun H' e => e _ _ upd_same) fun H' D e hD => ?_
      have hne : a ≠ D := fun z => by rw [← z, e _ _ upd_same] at hD; cases hD
      refine ⟨by rw [upd_ne hne]; exact e _ _ upd_same, ?_⟩
      have ee := Ext.unlock (H' := upd H' D (.lst (es.map fun d => V.int (dep d : Nat)))) ha (e.on hD)
      rw [upd_cm hne.symm] at ee ⊢
      exact fin _ es _ D e1 e2 (by omega) ee
    · refine g_lk0 ?_
      walk_at "rd"
      refine valR_i ha ?_
      refine lst _ es _ _ _ _ re (by rw [List.length_map]; exact sl (by omega)) hes (wk od) (fun H' e => e _ _ ha) fun H' D e hD => ?_
      exact fin _ es _ D e1 e2 (by omega) (e.on hD)
  | @tup a us _ ha rs =>
    have hl : (40 :: (jn (spells ds) ++ [41])).length ≤ 50000 := hl
    rw [List.length_cons, List.length_append] at hl
    have hll : us.length ≤ 50000 := by
      have := jn_len (spells ds)
      rw [spells_map, List.length_map, ← rs.len] at this
      rw [spells_map] at hl
      omega
    unfold t__law_depth
    walk_at "rd"
    refine isiA "tuple" false (.tup ha rs) rfl (by decide +kernel) ?_
    walk_at "rd"
    refine br_f ?_
    walk_at "rd"
    refine ⟨sb (by simp), fun tp htp => ?_⟩
    walk_at "rd"
    have eX := Ext.new (o := .tup [.ty "list", .ty "tuple"]) htp
    refine isi_2 upd_same (m := "tuple") (b1 := false) (b2 := true) (((Rep.tup ha rs).ext eX).ty) (by decide +kernel) (by decide +kernel) ?_
    walk_at "rd"
    refine br_t ?_
    walk_at "rd"
    refine itR_t (SqT.of (eX _ _ ha)) ?_
    refine lst us ds _ _ _ _ (rs.ext eX) (sl (by omega)) (fun d hd => ?_) walk_tup (fun H' e => SqT.of (e _ _ (eX _ _ ha))) fun H' D e hD => ?_
    · obtain ⟨i, hi⟩ := List.mem_iff_getElem?.mp hd
      have hm := deps_mem hd
      exact ⟨okDs_at ok.2 hi, by omega, sp_le (by omega) hi⟩
    · exact fin _ ds _ D (fun _ h => h) (fun _ h => h) (by rw [← rs.len]; omega) ((eX.trans e).on hD)
  | @lst a us _ ha rs =>
    have hl : (91 :: (jn (spells ds) ++ [93])).length ≤ 50000 := hl
    rw [List.length_cons, List.length_append] at hl
    have hll : us.length ≤ 50000 := by
      have := jn_len (spells ds)
      rw [spells_map, List.length_map, ← rs.len] at this
      rw [spells_map] at hl
      omega
    unfold t__law_depth
    walk_at "rd"
    refine isiA "list" false (.lst ha rs) rfl (by decide +kernel) ?_
    walk_at "rd"
    refine br_f ?_
    walk_at "rd"
    refine ⟨sb (by simp), fun tp htp => ?_⟩
    walk_at "rd"
    have eX := Ext.new (o := .tup [.ty "list", .ty "tuple"]) htp
    refine isi_2 upd_same (m := "list") (b1 := true) (b2 := false) (((Rep.lst ha rs).ext eX).ty) (by decide +kernel) (by decide +kernel) ?_
    walk_at "rd"
    refine br_t ?_
    walk_at "rd"
    refine itR_l (SqL.of (eX _ _ ha)) ?_
    refine lst us ds _ _ _ _ (rs.ext eX) (sl (by omega)) (fun d hd => ?_) walk_list (fun H' e => SqL.of (e _ _ (eX _ _ ha))) fun H' D e hD => ?_
    · obtain ⟨i, hi⟩ := List.mem_iff_getElem?.mp hd
      have hm := deps_mem hd
      exact ⟨okDs_at ok.2 hi, by omega, sp_le (by omega) hi⟩
    · exact fin _ ds _ D (fun _ h => h) (fun _ h => h) (by rw [← rs.len]; omega) ((eX.trans e).on hD)
end
end K96
end

section
set_option Elab.async false
set_option linter.all false
set_option maxRecDepth 100000
set_option maxHeartbeats 4000000
open PySem PySem.Spec PyProof.Rows L2 CL
local macro_rules | `(tactic| walk_at "rd1") => `(tactic| first
  | (with_reducible refine g_seq ?_) | ((with_reducible apply g_var); rfl) | (with_reducible refine g_c ?_) | (with_reducible refine g_op ?_) | (with_reducible refine g_cons ?_) | (with_reducible refine g_nil ?_)
  | (with_reducible refine g_if ?_) | (with_reducible refine g_ct ?_) | (with_reducible refine g_tr ?_) | (with_reducible refine g_and ?_) | (with_reducible refine g_or ?_) | (with_reducible refine g_not ?_)
  | (with_reducible refine asB_bl ?_) | (with_reducible refine tru_bl ?_) | (with_reducible refine g_ret ?_) | (with_reducible refine g_set ?_) | (with_reducible refine g_fn ?_) | (with_reducible refine g_call ?_)
  | (with_reducible refine g_meth ?_) | (with_reducible refine g_fld ?_) | (with_reducible refine nx_seq ?_) | (with_reducible refine nx_loop ?_) | (with_reducible refine nx_top ?_) | (with_reducible refine rt_seq ?_)
  | (with_reducible refine rt_loop ?_) | (with_reducible refine rt_top ?_) | (with_reducible refine bk_seq ?_) | (with_reducible refine bk_loop ?_) | (with_reducible refine ct_seq ?_) | (with_reducible refine ct_loop ?_)
  | (with_reducible refine g_end ?_) | (with_reducible refine uAdd_i ?_) | (with_reducible refine uSub_i ?_) | (with_reducible refine uEq_i ?_) | (with_reducible refine uEq_s ?_) | (with_reducible refine uNe_i ?_) | (with_reducible refine uNe_s ?_)
  | (with_reducible refine uLt_i ?_) | (with_reducible refine uLe_i ?_) | (with_reducible refine uGt_i ?_) | (with_reducible refine uGe_i ?_) | (with_reducible refine uIs_n ?_) | (with_reducible refine uIsNot_n ?_)
  | (with_reducible refine g_tup ?_) | (with_reducible refine g_lst ?_) | (with_reducible refine g_sl ?_) | (with_reducible refine g_no ?_) | (with_reducible refine g_part ?_) | (with_reducible refine g_ifE ?_) | (with_reducible refine g_ofT ?_)
  | (with_reducible refine g_unp2 ?_) | (with_reducible refine g_put ?_) | (with_reducible refine g_retN ?_) | (with_reducible refine g_drop ?_) | (with_reducible refine g_brk ?_) | (with_reducible refine g_cnt ?_) | (with_reducible refine iAdd_i ?_)
  | ((with_reducible apply g_aug); rfl) | (with_reducible refine g_sto ?_) | (with_reducible refine g_stoA ?_) | (with_reducible refine g_for ?_) | (with_reducible refine g_wh ?_) | (with_reducible refine g_rs ?_) | (with_reducible refine g_rsX ?_)
  | (with_reducible refine g_g ?_) | (with_reducible refine g_g2 ?_) | (with_reducible refine g_callN ?_) | (with_reducible refine g_app ?_) | (with_reducible refine g_join ?_) | (with_reducible refine strA_i ?_) | (with_reducible refine g_it ?_)
  | (with_reducible refine itR_s ?_) | (with_reducible refine g_rng ?_) | (with_reducible refine g_vals ?_) | (with_reducible refine g_zip ?_) | (with_reducible refine g_rep ?_) | (with_reducible refine g_new ?_) | (with_reducible refine g_disp ?_)
  | (with_reducible refine g_andV ?_) | (with_reducible refine g_orV ?_) | (with_reducible refine g_notV ?_) | (with_reducible refine g_un ?_) | (with_reducible refine uNeg_i ?_) | (with_reducible refine g_yes ?_) | (with_reducible refine g_make ?_)
  | (with_reducible refine g_try ?_) | (with_reducible refine g_lc ?_) | (with_reducible refine intR_b ?_) | (with_reducible refine minR_i ?_) | (with_reducible refine tru_int ?_))
local macro_rules | `(tactic| walk_at "rd") => `(tactic| repeat (walk_at "rd1"))
namespace K96
open PySem PySem.Spec PyProof.Rows L2 CL
def knd : D → List Nat
  | .non => [110, 111, 110, 101] | .bl _ => [116, 114, 117, 116, 104] | .int _ => [110, 117, 109, 98, 101, 114] | .str _ => [116, 101, 120, 116]
  | .con .dct _ _ => [100, 105, 99, 116] | .con .lst _ _ => [108, 105, 115, 116] | .con .tup _ _ => [116, 117, 112, 108, 101]
def sp__law_kind : Sp := sp1 fun v H Q _ => ∃ d, Rep H v d ∧ ∀ H', Ext H H' → Q (.str (S (knd d))) H'
theorem kind_go {v : V} {d : D} {H : Hp} {Q : VK} {E : XK} (r : Rep H v d) (q : ∀ H', Ext H H' → Q (.str (S (knd d))) H') : sp__law_kind [v] H Q E := ⟨v, rfl, d, r, q⟩
def sp__law_like : Nat → Sp
  | 0 => fun _ _ _ _ => False
  | n + 1 => sp2 fun v u H Q _ => ∃ d, Rep H v d ∧ Rep H u d ∧ okD d ∧ cpD d ∧ dep d ≤ n ∧ (spell d).length ≤ 50000 ∧ ∀ H', Ext H H' → Q (.bl true) H'
theorem like_go {n : Nat} {v u : V} {d : D} {H : Hp} {Q : VK} {E : XK} (r : Rep H v d) (r2 : Rep H u d) (ok : okD d) (cp : cpD d) (hn : dep d ≤ n) (hl : (spell d).length ≤ 50000) (q : ∀ H', Ext H H' → Q (.bl true) H') : sp__law_like (n + 1) [v, u] H Q E := ⟨v, u, rfl, d, r, r2, ok, cp, hn, hl, q⟩
theorem strs_dp {K : PySem.W.Frag} {H : Hp} : ∀ l : List Str, DpAll K H (l.map V.str) (l.map PyData.str)
  | [] => .nil
  | x :: l => .cons (.str x) (strs_dp l)
theorem strs_lay : ∀ l : List (List Nat), (∀ k, k ∈ l → ∀ c, c ∈ k → c < 0x110000) → PyData.canLayAll0 ((l.map S).map PyData.str) = true
  | [], _ => rfl
  | x :: l, h => by
    have := strs_lay l fun k hk => h k (List.mem_cons_of_mem _ hk)
    have h1 : PyData.strOk (S x) = true := by
      show x.toArray.all (· < 0x110000) = true
      rw [List.all_toArray, List.all_eq_true]
      exact fun c hc => decide_eq_true (h x (List.mem_cons_self ..) c hc)
    simp only [List.map_cons, PyData.canLayAll0, PyData.canLay0, this, h1, Bool.and_true, Bool.true_and]
theorem strs_dep : ∀ l : List Str, PyData.depthAll (l.map PyData.str) ≤ 1
  | [] => by simp [PyData.depthAll]
  | x :: l => by
    have := strs_dep l
    simp only [List.map_cons, PyData.depthAll, PyData.depth]
    omega
theorem walk_zipT {K : PySem.W.Frag} {a b : Addr} {xs ys : List V} {n : Nat} (hn : n = min xs.length ys.length) : Walk (RZ.ItzT K a b) n (fun H => SqT K H a xs ∧ SqT K H b ys) (YPair (fun i => xs[i]?) (fun i => ys[i]?)) := by
  subst hn
  refine ⟨fun i _ hi q => ?_, fun _ q => ⟨xs, ys, q.1, q.2, by omega⟩, fun i H v H' _ q y => ?_⟩
  · have h1 : i < xs.length := by omega
    have h2 : i < ys.length := by omega
    exact ⟨xs, ys, xs[i], ys[i], q.1, q.2, by simp [h1], by simp [h2]⟩
  · obtain ⟨T, x, z, h1, h2, h3, h4, h5⟩ := y
    exact ⟨T, x, z, h1, h2, h3, h4 xs q.1, h5 ys q.2⟩
section
variable {K : PySem.W.Frag} {w : World}
theorem w__law_kind {H : Hp} {vs : List V} {Q : VK} {E : XK} (h : sp__law_kind vs H Q E) :
    t__law_kind K w (fun cls d _ H' => E cls d H') (topE Q) (start N__law_kind vs) H := by
  obtain ⟨v, rfl, d, r, q⟩ := h
  unfold t__law_kind
  walk_at "rd"
  cases d with
  | non =>
    cases r
    refine br_t ?_
    walk_at "rd"
    exact q H .refl
  | bl b =>
    cases r
    refine br_f ?_
    walk_at "rd"
    refine isiA "bool" true (.bl b) rfl (by decide +kernel) ?_
    walk_at "rd"
    refine br_t ?_
    walk_at "rd"
    exact q H .refl
  | int i =>
    cases r
    refine br_f ?_
    walk_at "rd"
    refine isiA "int" false (.int i) rfl (by decide +kernel) ?_
    walk_at "rd"
    refine br_f ?_
    walk_at "rd"
    refine isiA "int" true (.int i) rfl (by decide +kernel) ?_
    walk_at "rd"
    refine br_t ?_
    walk_at "rd"
    exact q H .refl
  | str x =>
    cases r
    refine br_f ?_
    walk_at "rd"
    refine isiA "str" false (.str x) rfl (by decide +kernel) ?_
    walk_at "rd"
    refine br_f ?_
    walk_at "rd"
    refine isiA "str" false (.str x) rfl (by decide +kernel) ?_
    walk_at "rd"
    refine br_f ?_
    walk_at "rd"
    refine isiA "str" true (.str x) rfl (by decide +kernel) ?_
    walk_at "rd"
    refine br_t ?_
    walk_at "rd"
    exact q H .refl
  | con kd ks ds =>
  have hv : ∃ a, v = .ref a := by cases r <;> exact ⟨_, rfl⟩
  obtain ⟨a, rfl⟩ := hv
  refine br_f ?_
  walk_at "rd"
  have notb : ∀ m, (m = "tuple" ∨ m = "list" ∨ m = "dict") → kitB m "bool" = some false ∧ kitB m "int" = some false ∧ kitB m "str" = some false := by
    rintro m (rfl | rfl | rfl) <;> decide +kernel
  obtain ⟨k1, k2, k3⟩ := notb (tyN (.con kd ks ds)) (by cases kd <;> simp [tyN])
  refine isiA _ false r rfl k1 ?_
  walk_at "rd"
  refine br_f ?_
  walk_at "rd"
  refine isiA _ false r rfl k2 ?_
  walk_at "rd"
  refine br_f ?_
  walk_at "rd"
  refine isiA _ false r rfl k3 ?_
  walk_at "rd"
  refine br_f ?_
  walk_at "rd"
  cases kd with
  | dct =>
    refine isiA "dict" true r rfl (by decide +kernel) ?_
    walk_at "rd"
    refine br_t ?_
    walk_at "rd"
    exact q H .refl
  | lst =>
    refine isiA "list" false r rfl (by decide +kernel) ?_
    walk_at "rd"
    refine br_f ?_
    walk_at "rd"
    refine ⟨sb (by simp), fun a ha => ?_⟩
    walk_at "rd"
    refine isiA "list" false (r.ext (.new ha)) rfl (by decide +kernel) ?_
    walk_at "rd"
    refine uIx_l (SqL.of upd_same) (v := .str (S [108, 105, 115, 116])) (by rfl) ?_
    walk_at "rd"
    exact q _ (.new ha)
  | tup =>
    refine isiA "tuple" false r rfl (by decide +kernel) ?_
    walk_at "rd"
    refine br_f ?_
    walk_at "rd"
    refine ⟨sb (by simp), fun a ha => ?_⟩
    walk_at "rd"
    refine isiA "tuple" true (r.ext (.new ha)) rfl (by decide +kernel) ?_
    walk_at "rd"
    refine uIx_l (SqL.of upd_same) (v := .str (S [116, 117, 112, 108, 101])) (by rfl) ?_
    walk_at "rd"
    exact q _ (.new ha)
theorem w__law_like {n : Nat} {H : Hp} {vs : List V} {Q : VK} {E : XK} (h : sp__law_like (n + 1) vs H Q E) :
    t__law_like K w sp__law_kind (sp__law_like n) (fun cls d _ H' => E cls d H') (topE Q) (start N__law_like vs) H := by
  obtain ⟨v, u, rfl, d, r, r2, ok, cp, hn, hl, q⟩ := h
  unfold t__law_like
  walk_at "rd"
  refine kind_go r fun H1 e1 => ?_
  walk_at "rd"
  refine kind_go (r2.ext e1) fun Hc e2 => ?_
  walk_at "rd"
  rw [show (!decide (S (knd d) = S (knd d))) = false from by simp]
  refine br_f ?_
  walk_at "rd"
  have e12 := e1.trans e2
  have q : ∀ H', Ext Hc H' → Q (.bl true) H' := fun H' e => q H' (e12.trans e)
  have r := r.ext e12
  have r2 := r2.ext e12
  clear e12 e1 e2
  cases d with
  | non =>
    cases r; cases r2
    refine br_f ?_
    walk_at "rd"
    refine ⟨sb (by simp), fun a ha => ?_⟩
    walk_at "rd"
    refine uIn_q (.inl (SqL.of upd_same)) rfl rfl ?_
    walk_at "rd"
    refine br_f ?_
    walk_at "rd"
    refine uEq_v rfl ?_
    walk_at "rd"
    exact q _ (.new ha)
  | bl b =>
    cases r; cases r2
    refine br_f ?_
    walk_at "rd"
    refine ⟨sb (by simp), fun a ha => ?_⟩
    walk_at "rd"
    refine uIn_q (.inl (SqL.of upd_same)) rfl rfl ?_
    walk_at "rd"
    refine br_f ?_
    walk_at "rd"
    refine uEq_v rfl ?_
    walk_at "rd"
    rw [decide_eq_true rfl]
    exact q _ (.new ha)
  | int i =>
    cases r; cases r2
    refine br_f ?_
    walk_at "rd"
    refine ⟨sb (by simp), fun a ha => ?_⟩
    walk_at "rd"
    refine uIn_q (.inl (SqL.of upd_same)) rfl rfl ?_
    walk_at "rd"
    refine br_f ?_
    walk_at "rd"
    rw [decide_eq_true rfl]
    exact q _ (.new ha)
  | str x =>
    cases r; cases r2
    refine br_f ?_
    walk_at "rd"
    refine ⟨sb (by simp), fun a ha => ?_⟩
    walk_at "rd"
    refine uIn_q (.inl (SqL.of upd_same)) rfl rfl ?_
    walk_at "rd"
    refine br_f ?_
    walk_at "rd"
    rw [decide_eq_true rfl]
    exact q _ (.new ha)
  | con kd ks ds =>
  rw [dep] at hn
  rw [cpD] at cp
  have zcore : ∀ (kd : Kd) (a b : Addr) (us us2 : List V) (J : It) (Gd : Hp → Prop) (H0 : Hp) QQ, Reps H0 us ds → Reps H0 us2 ds → okDs ds → (jn (spells ds)).length ≤ 50000 → us.length ≤ 50000 → Walk J us.length Gd (YPair (fun i => us[i]?) (fun i => us2[i]?)) → (∀ H', Ext H0 H' → Gd H') → (∀ H' D, Ext H0 H' → H' D = none → QQ (.ref D) (upd H' D (.lst (ds.map fun _ => V.bl true)))) →
      lcR J (xG2 K 4 5) tYes (xCall (sp__law_like n) [] (fun cls d _ H' => E cls d H') (xCons (xVar 4) (xCons (xVar 5) xNil))) [4, 5] ((start N__law_like [.ref a, .ref b]).set 2 (some (.str (S (knd (.con kd ks ds)))))) H0 QQ := by
    intro kd a b us us2 J Gd H0 QQ rs rs2 ok hl hll wk hG hQ
    refine lc_w wk (fun i H' acc => Ext H0 H' ∧ acc = ((ds.take i).map fun _ => V.bl true)) ⟨.refl, rfl⟩ (fun i H' acc hi p => ⟨hG _ p.1, by rw [p.2, List.length_map, List.length_take]; exact Nat.min_le_left ..⟩) (sl (by omega)) ?_ ?_
    · rintro i x H2 H3 acc hi ⟨e2, rfl⟩ ⟨T, y, z, rfl, hT, rfl, hy, hz⟩
      obtain ⟨d, hd, rd1⟩ := rs.at hy
      obtain ⟨d2, hd2, rd2⟩ := rs2.at hz
      rw [hd] at hd2
      cases hd2
      have hm := deps_mem (List.mem_of_getElem? hd)
      obtain ⟨n, rfl⟩ : ∃ m, n = m + 1 := ⟨n - 1, by omega⟩
      have x3 := e2.on (o := .tup [y, z]) hT
      walk_at "rd"
      refine unp2_t (SqT.of upd_same) ⟨y, z, rfl, ?_⟩
      refine ⟨rfl, ?_⟩
      walk_at "rd"
      refine br_t ?_
      walk_at "rd"
      refine like_go (rd1.ext x3) (rd2.ext x3) (okDs_at ok hd) (cpDs_mem cp.2 (List.mem_of_getElem? hd)) (by omega) (sp_le hl hd) fun H4 e4 => ⟨x3.trans e4, ?_⟩
      rw [tkw hd, List.map_append]
      rfl
    · rintro H2 acc ⟨e2, rfl⟩ D hD
      have hx : ds.take us.length = ds := List.take_of_length_le (by rw [rs.len]; exact Nat.le_refl _)
      rw [hx]
      exact hQ H2 D e2 hD
  have all : ∀ (H' : Hp) (D : Addr) QQ, QQ (.bl true) (upd H' D (.lst (ds.map fun _ => V.bl true))) → allR K [.ref D] (upd H' D (.lst (ds.map fun _ => V.bl true))) QQ := by
    intro H' D QQ hq
    refine allR_i (bs := ds.map fun _ => true) (SqL.of (by rw [upd_same, List.map_map]; rfl)) ?_
    rw [show (ds.map fun _ => true).all id = true from by simp]
    exact hq
  cases r with
  | @dct a kvs _ _ ha perm rk =>
    cases r2 with
    | @dct b kvs2 _ _ hb perm2 rk2 =>
    obtain ⟨rise, hlen, h64, ok⟩ := ok
    refine br_t ?_
    walk_at "rd"
    obtain ⟨k1, k2⟩ := keys_of perm
    obtain ⟨k3, k4⟩ := keys_of perm2
    refine srtR_d ha k1 ?_ fun ys p2 hy hs hp2 => ?_
    · rw [k2.length_eq, List.length_map]
      omega
    have hys := sorted_is rise (hy.trans k2) hs
    subst hys
    walk_at "rd"
    have x1 := Ext.new (o := .lst ((ks.map S).map V.str)) hp2
    refine srtR_d (x1.keep.d _ _ hb) k3 ?_ fun ys p3 hy3 hs3 hp3 => ?_
    · rw [k4.length_eq, List.length_map]
      omega
    have hys := sorted_is rise (hy3.trans k4) hs3
    subst hys
    walk_at "rd"
    have x2 := x1.on (o := .lst ((ks.map S).map V.str)) hp3
    have hsh : SeqAt.shaped (.list ((ks.map S).map PyData.str)) = true := by
      unfold SeqAt.shaped
      rw [Bool.and_eq_true]
      refine ⟨strs_lay ks cp.1, decide_eq_true ?_⟩
      have := strs_dep (ks.map S)
      simp only [PyData.depth]
      omega
    have np : p2 ≠ p3 := fun z => by rw [← z, upd_same] at hp3; cases hp3
    refine uEq_d (.lst (SqL.of (by rw [upd_ne np]; exact upd_same)) (strs_dp _)) (.lst (SqL.of upd_same) (strs_dp _)) hsh hsh ?_
    rw [SeqAt.eqv_refl _ (by exact strs_lay ks cp.1)]
    walk_at "rd"
    refine br_t ?_
    walk_at "rd"
    have hkl : kvs.length = ks.length := by
      have := perm.length_eq
      rw [List.length_map, List.length_map] at this
      exact this
    have core : ∀ od (H0 : Hp) QQ, Keep Hc H0 → H0 a = some (.frz od (.dK kvs)) → (∀ H' D, Ext H0 H' → H' D = none → QQ (.ref D) (upd H' D (.lst ((ks.map fun _ => V.bl true))))) →
        lcR (Itk a od kvs) (xG 3) tYes (xCall (sp__law_like n) [] (fun cls d _ H' => E cls d H') (xCons (xOp (uIx K w) (xVar 0) (xVar 3)) (xCons (xOp (uIx K w) (xVar 1) (xVar 3)) xNil))) [3] ((start N__law_like [.ref a, .ref b]).set 2 (some (.str (S [100, 105, 99, 116])))) H0 QQ := by
      intro od H0 QQ kp hz hQ
      refine lc_w walk_keys (fun i H' acc => Ext H0 H' ∧ acc = ((ks.take i).map fun _ => V.bl true)) ⟨.refl, rfl⟩ (fun i H' acc hi p => ⟨p.1 _ _ hz, by rw [p.2, List.length_map, List.length_take]; exact Nat.min_le_left ..⟩) (sl (by omega)) ?_ ?_
      · rintro i x H2 H3 acc hi ⟨e2, rfl⟩ ⟨rfl, k, v0, hk, rfl⟩
        have hkm : k ∈ ks.map keyS := perm.mem_iff.mp (List.mem_map.mpr ⟨_, List.mem_of_getElem? hk, rfl⟩)
        obtain ⟨kk, hkk, rfl⟩ := List.mem_map.mp hkm
        obtain ⟨j, hj⟩ := List.mem_iff_getElem?.mp hkk
        obtain ⟨u1, d, hd, hu1, rd1⟩ := rk.at hj
        obtain ⟨u2, d2, hd2, hu2, rd2⟩ := rk2.at hj
        rw [hd] at hd2
        cases hd2
        have hm := deps_mem (List.mem_of_getElem? hd)
        obtain ⟨n, rfl⟩ : ∃ m, n = m + 1 := ⟨n - 1, by omega⟩
        have kp2 := kp.trans e2.keep
        have hzz : (List.zipWith (fun k t => word k ++ 32 :: t) ks (spells ds))[j]? = some (word kk ++ 32 :: spell d) := by
          rw [spells_map, List.getElem?_zipWith, hj, List.getElem?_map, hd]
          rfl
        have hzm := jn_mem (List.mem_of_getElem? hzz)
        have hl : (123 :: (jn (List.zipWith (fun k t => word k ++ 32 :: t) ks (spells ds)) ++ [125])).length ≤ 50000 := hl
        rw [List.length_append, List.length_cons] at hzm
        rw [List.length_cons, List.length_append] at hl
        walk_at "rd"
        refine ⟨rfl, ?_⟩
        walk_at "rd"
        refine br_t ?_
        walk_at "rd"
        refine uIx_d (.inl ⟨kvs, keyS kk, kp2.d _ _ ha, rfl, hu1.symm⟩) ?_
        walk_at "rd"
        refine uIx_d (.inl ⟨kvs2, keyS kk, kp2.d _ _ hb, rfl, hu2.symm⟩) ?_
        walk_at "rd"
        refine like_go (rd1.mono kp2) (rd2.mono kp2) (okDs_at ok hd) (cpDs_mem cp.2 (List.mem_of_getElem? hd)) (by omega) (by omega) fun H4 e4 => ⟨e2.trans e4, ?_⟩
        have hik : i < ks.length := by omega
        rw [tkw (List.getElem?_eq_getElem hik), List.map_append]
        rfl
      · rintro H2 acc ⟨e2, rfl⟩ D hD
        have hx : ks.take kvs.length = ks := List.take_of_length_le (by omega)
        rw [hx]
        exact hQ H2 D e2 hD
    have all : ∀ (H' : Hp) (D : Addr) QQ, QQ (.bl true) (upd H' D (.lst (ks.map fun _ => V.bl true))) → allR K [.ref D] (upd H' D (.lst (ks.map fun _ => V.bl true))) QQ := by
      intro H' D QQ hq
      refine allR_i (bs := ks.map fun _ => true) (SqL.of (by rw [upd_same, List.map_map]; rfl)) ?_
      rw [show (ks.map fun _ => true).all id = true from by simp]
      exact hq
    rcases ha with ha | ⟨od, ha⟩
    · refine g_lk (x2 _ _ ha) fun od => ?_
      walk_at "rd"
      refine itR_k upd_same ?_
      refine core od _ _ (x2.keep.trans (Keep.lock (x2 _ _ ha))) upd_same fun H' D e hD => ?_
      have hne : a ≠ D := fun z => by rw [← z, e _ _ upd_same] at hD; cases hD
      refine ⟨by rw [upd_ne hne]; exact e _ _ upd_same, ?_⟩
      have ee := Ext.unlock (H' := upd H' D (.lst (ks.map fun _ => V.bl true))) (x2 _ _ ha) (e.on hD)
      rw [upd_cm hne.symm] at ee ⊢
      walk_at "rd"
      refine all _ _ _ ?_
      walk_at "rd"
      exact q _ (x2.trans ee)
    · refine g_lk0 ?_
      walk_at "rd"
      refine itR_k (x2 _ _ ha) ?_
      refine core od _ _ x2.keep (x2 _ _ ha) fun H' D e hD => ?_
      walk_at "rd"
      refine all _ _ _ ?_
      walk_at "rd"
      exact q _ (x2.trans (e.on hD))
  | @tup a us _ ha rs =>
    cases r2 with
    | @tup b us2 _ hb rs2 =>
    have hl : (40 :: (jn (spells ds) ++ [41])).length ≤ 50000 := hl
    rw [List.length_cons, List.length_append] at hl
    have hll : us.length ≤ 50000 := by
      have := jn_len (spells ds)
      rw [spells_map, List.length_map, ← rs.len] at this
      rw [spells_map] at hl
      omega
    have h12 : us.length = us2.length := by rw [rs.len, rs2.len]
    refine br_f ?_
    walk_at "rd"
    refine ⟨sb (by simp), fun p hp => ?_⟩
    walk_at "rd"
    have x1 := Ext.new (o := .lst [.str (S [108, 105, 115, 116]), .str (S [116, 117, 112, 108, 101])]) hp
    refine uIn_q (.inl (SqL.of upd_same)) rfl rfl ?_
    walk_at "rd"
    rw [show inV (.str (S (knd (.con .tup [] ds)))) [.str (S [108, 105, 115, 116]), .str (S [116, 117, 112, 108, 101])] = true from rfl]
    refine br_t ?_
    walk_at "rd"
    refine lenR_t (SqT.of (x1 _ _ ha)) ?_
    walk_at "rd"
    refine lenR_t (SqT.of (x1 _ _ hb)) ?_
    walk_at "rd"
    rw [h12, decide_eq_true rfl]
    refine br_t ?_
    walk_at "rd"
    refine zipR_t (SqT.of (x1 _ _ ha)) (SqT.of (x1 _ _ hb)) ?_
    refine zcore .tup a b us us2 _ _ _ _ (rs.ext x1) (rs2.ext x1) ok.2 (by omega) hll (walk_zipT (by omega)) (fun H' e => ⟨SqT.of (e _ _ (x1 _ _ ha)), SqT.of (e _ _ (x1 _ _ hb))⟩) fun H' D e hD => ?_
    walk_at "rd"
    refine all _ _ _ ?_
    walk_at "rd"
    exact q _ ((x1.trans e).on hD)
  | @lst a us _ ha rs =>
    cases r2 with
    | @lst b us2 _ hb rs2 =>
    have hl : (91 :: (jn (spells ds) ++ [93])).length ≤ 50000 := hl
    rw [List.length_cons, List.length_append] at hl
    have hll : us.length ≤ 50000 := by
      have := jn_len (spells ds)
      rw [spells_map, List.length_map, ← rs.len] at this
      rw [spells_map] at hl
      omega
    have h12 : us.length = us2.length := by rw [rs.len, rs2.len]
    refine br_f ?_
    walk_at "rd"
    refine ⟨sb (by simp), fun p hp => ?_⟩
    walk_at "rd"
    have x1 := Ext.new (o := .lst [.str (S [108, 105, 115, 116]), .str (S [116, 117, 112, 108, 101])]) hp
    refine uIn_q (.inl (SqL.of upd_same)) rfl rfl ?_
    walk_at "rd"
    rw [show inV (.str (S (knd (.con .lst [] ds)))) [.str (S [108, 105, 115, 116]), .str (S [116, 117, 112, 108, 101])] = true from rfl]
    refine br_t ?_
    walk_at "rd"
    refine lenR_l (SqL.of (x1 _ _ ha)) ?_
    walk_at "rd"
    refine lenR_l (SqL.of (x1 _ _ hb)) ?_
    walk_at "rd"
    rw [h12, decide_eq_true rfl]
    refine br_t ?_
    walk_at "rd"
    refine zipR_l (SqL.of (x1 _ _ ha)) (SqL.of (x1 _ _ hb)) ?_
    refine zcore .lst a b us us2 _ _ _ _ (rs.ext x1) (rs2.ext x1) ok.2 (by omega) hll (walk_zip (by omega)) (fun H' e => ⟨SqL.of (e _ _ (x1 _ _ ha)), SqL.of (e _ _ (x1 _ _ hb))⟩) fun H' D e hD => ?_
    walk_at "rd"
    refine all _ _ _ ?_
    walk_at "rd"
    exact q _ ((x1.trans e).on hD)
end
end K96
end

section
set_option Elab.async false
set_option linter.all false
set_option maxRecDepth 100000
set_option maxHeartbeats 4000000
open PySem PySem.Spec PyProof.Rows L2 CL
local macro_rules | `(tactic| walk_at "rd1") => `(tactic| first
  | (with_reducible refine g_seq ?_) | ((with_reducible apply g_var); rfl) | (with_reducible refine g_c ?_) | (with_reducible refine g_op ?_) | (with_reducible refine g_cons ?_) | (with_reducible refine g_nil ?_)
  | (with_reducible refine g_if ?_) | (with_reducible refine g_ct ?_) | (with_reducible refine g_tr ?_) | (with_reducible refine g_and ?_) | (with_reducible refine g_or ?_) | (with_reducible refine g_not ?_)
  | (with_reducible refine asB_bl ?_) | (with_reducible refine tru_bl ?_) | (with_reducible refine g_ret ?_) | (with_reducible refine g_set ?_) | (with_reducible refine g_fn ?_) | (with_reducible refine g_call ?_)
  | (with_reducible refine g_meth ?_) | (with_reducible refine g_fld ?_) | (with_reducible refine nx_seq ?_) | (with_reducible refine nx_loop ?_) | (with_reducible refine nx_top ?_) | (with_reducible refine rt_seq ?_)
  | (with_reducible refine rt_loop ?_) | (with_reducible refine rt_top ?_) | (with_reducible refine bk_seq ?_) | (with_reducible refine bk_loop ?_) | (with_reducible refine ct_seq ?_) | (with_reducible refine ct_loop ?_)
  | (with_reducible refine g_end ?_) | (with_reducible refine uAdd_i ?_) | (with_reducible refine uSub_i ?_) | (with_reducible refine uEq_i ?_) | (with_reducible refine uEq_s ?_) | (with_reducible refine uNe_i ?_) | (with_reducible refine uNe_s ?_)
  | (with_reducible refine uLt_i ?_) | (with_reducible refine uLe_i ?_) | (with_reducible refine uGt_i ?_) | (with_reducible refine uGe_i ?_) | (with_reducible refine uIs_n ?_) | (with_reducible refine uIsNot_n ?_)
  | (with_reducible refine g_tup ?_) | (with_reducible refine g_lst ?_) | (with_reducible refine g_sl ?_) | (with_reducible refine g_no ?_) | (with_reducible refine g_part ?_) | (with_reducible refine g_ifE ?_) | (with_reducible refine g_ofT ?_)
  | (with_reducible refine g_unp2 ?_) | (with_reducible refine g_put ?_) | (with_reducible refine g_retN ?_) | (with_reducible refine g_drop ?_) | (with_reducible refine g_brk ?_) | (with_reducible refine g_cnt ?_) | (with_reducible refine iAdd_i ?_)
  | ((with_reducible apply g_aug); rfl) | (with_reducible refine g_sto ?_) | (with_reducible refine g_stoA ?_) | (with_reducible refine g_for ?_) | (with_reducible refine g_wh ?_) | (with_reducible refine g_rs ?_) | (with_reducible refine g_rsX ?_)
  | (with_reducible refine g_g ?_) | (with_reducible refine g_g2 ?_) | (with_reducible refine g_callN ?_) | (with_reducible refine g_app ?_) | (with_reducible refine g_join ?_) | (with_reducible refine strA_i ?_) | (with_reducible refine g_it ?_)
  | (with_reducible refine itR_s ?_) | (with_reducible refine g_rng ?_) | (with_reducible refine g_vals ?_) | (with_reducible refine g_zip ?_) | (with_reducible refine g_rep ?_) | (with_reducible refine g_new ?_) | (with_reducible refine g_disp ?_)
  | (with_reducible refine g_andV ?_) | (with_reducible refine g_orV ?_) | (with_reducible refine g_notV ?_) | (with_reducible refine g_un ?_) | (with_reducible refine uNeg_i ?_) | (with_reducible refine g_yes ?_) | (with_reducible refine g_make ?_)
  | (with_reducible refine g_try ?_) | (with_reducible refine g_lc ?_) | (with_reducible refine intR_b ?_) | (with_reducible refine minR_i ?_) | (with_reducible refine tru_int ?_))
local macro_rules | `(tactic| walk_at "rd") => `(tactic| repeat (walk_at "rd1"))
namespace K96
open PySem PySem.Spec PyProof.Rows L2 CL
/-- how many carets stand at the end of l -/
def car (l : List Nat) : Nat := (l.reverse.takeWhile fun c => decide (c = 94)).length
def sp__law_plain_end : Sp := sp2 fun v u H Q _ => ∃ (l : List Nat) (n : Nat), v = .str (S l) ∧ u = .int (n : Nat) ∧ n < l.length ∧ l.length ≤ 50000 ∧ Q (.bl (decide (car (l.take n) % 2 = 0))) H
theorem car_run (l : List Nat) (n : Nat) (hn : n < l.length) (m : Nat) (h : ∀ j, j < m → n > j ∧ l[n - 1 - j]? = some 94) (hs : ¬ (n > m ∧ l[n - 1 - m]? = some 94)) : car (l.take n) = m := by
  unfold car
  have hl : (l.take n).reverse.length = n := by rw [List.length_reverse, List.length_take]; omega
  have hg : ∀ j, j < n → (l.take n).reverse[j]? = l[n - 1 - j]? := fun j hj => by
    have h1 : (l.take n).length = n := by rw [List.length_take]; omega
    rw [List.getElem?_reverse (by omega), h1, List.getElem?_take_of_lt (by omega)]
  generalize (l.take n).reverse = r at *
  have key : ∀ (r : List Nat) (m : Nat), (∀ j, j < m → r[j]? = some 94) → r[m]? ≠ some 94 → (r.takeWhile fun c => decide (c = 94)).length = m := by
    intro r
    induction r with
    | nil =>
      intro m h1 _
      cases m with
      | zero => rfl
      | succ m => have := h1 0 (by omega); simp at this
    | cons c r ih =>
      intro m h1 h2
      cases m with
      | zero =>
        rw [List.takeWhile_cons_of_neg]
        · rfl
        · intro z
          have : c = 94 := of_decide_eq_true z
          subst this
          exact h2 (by simp)
      | succ m =>
        have := h1 0 (by omega)
        rw [List.getElem?_cons_zero] at this
        cases this
        rw [List.takeWhile_cons_of_pos (by rfl), List.length_cons, ih m (fun j hj => by have := h1 (j + 1) (by omega); simpa using this) (by simpa using h2)]
  refine key r m (fun j hj => ?_) fun z => hs ?_
  · obtain ⟨a, b⟩ := h j hj
    rw [hg j a]
    exact b
  · have hm : m < n := by
      have := (List.getElem?_eq_some_iff.mp z).1
      omega
    exact ⟨hm, by rw [← hg m hm]; exact z⟩
section
variable {K : PySem.W.Frag} {w : World}
theorem w__law_plain_end {H : Hp} {vs : List V} {Q : VK} {E : XK} (h : sp__law_plain_end vs H Q E) :
    t__law_plain_end K w (fun cls d _ H' => E cls d H') (topE Q) (start N__law_plain_end vs) H := by
  obtain ⟨v, u, rfl, l, n, rfl, rfl, hn, hl, q⟩ := h
  unfold t__law_plain_end
  walk_at "rd"
  refine wh_m (fun k σ H' => ∃ m, k = n - m ∧ m ≤ n ∧ H' = H ∧ σ = (start N__law_plain_end [.str (S l), .int (n : Nat)]).set 2 (some (.int (m : Nat))) ∧ ∀ j, j < m → n > j ∧ l[n - 1 - j]? = some 94) n ⟨0, by omega, by omega, rfl, rfl, fun j hj => by omega⟩ ?_
  rintro k σ H' ⟨m, rfl, hm, rfl, rfl, hj⟩
  walk_at "rd"
  have fin : ¬ (n > m ∧ l[n - 1 - m]? = some 94) → dNx (seqE (topE Q) (xRet (xOp (uEq K) (xOp uMod (xVar 2) (xC (.int 2))) (xC (.int 0))))) ((start N__law_plain_end [.str (S l), .int (n : Nat)]).set 2 (some (.int (m : Nat)))) H' := by
    intro hs
    rw [car_run l n hn m hj hs] at q
    walk_at "rd"
    refine uMod_i (by omega) ?_
    walk_at "rd"
    have e : decide (((m : Nat) : Int) % 2 = 0) = decide (m % 2 = 0) := by
      apply decide_eq_decide.mpr
      omega
    rw [e]
    exact q
  refine br_c (fun hb => ?_) fun hb => ?_
  · have hlt : m < n := by have := of_decide_eq_true hb; omega
    have hi : n - 1 - m < l.length := by omega
    walk_at "rd"
    refine uIx_s (z := S l) (c := l[n - 1 - m]) (by show l.toArray.size ≤ _; exact sl (by simp; omega)) ?_ ?_
    · rw [show (n : Int) - 1 - (m : Nat) = ((n - 1 - m : Nat) : Int) from by omega]
      exact atI_nat (by simp [hi])
    walk_at "rd"
    refine br_c (fun hb => ?_) fun hb => ?_
    · have this : l[n - 1 - m] = 94 := by
        have z : S [l[n - 1 - m]] = S [94] := of_decide_eq_true hb
        simpa using SX.S_inj z
      walk_at "rd"
      refine ⟨n - (m + 1), by omega, m + 1, rfl, by omega, rfl, by rw [show ((m + 1 : Nat) : Int) = (m : Nat) + 1 from by omega]; rfl, fun j hj' => ?_⟩
      by_cases hjm : j = m
      · subst hjm
        exact ⟨hlt, by rw [List.getElem?_eq_getElem hi, this]⟩
      · exact hj j (by omega)
    · refine fin fun z => ?_
      have z2 := z.2
      rw [List.getElem?_eq_getElem hi] at z2
      have z3 := of_decide_eq_false hb
      rw [Option.some.inj z2] at z3
      exact z3 rfl
  · refine br_f ?_
    exact fin fun z => by have := of_decide_eq_false hb; omega
end
end K96
end

section
set_option Elab.async false
set_option linter.all false
set_option maxRecDepth 100000
set_option maxHeartbeats 4000000
/-! CLe: enumerate over a text. -/
namespace CL
open PySem PySem.Spec PyProof.Rows L2
/-- the signs of x, each in a new pair behind its number -/
def Ites (x : Str) : It :=
  ⟨fun i _ => i < x.cps.size, fun i H v H' => ∃ T c, v = .ref T ∧ H T = none ∧ H' = upd H T (.tup [.int (i : Nat), .str ⟨#[c]⟩]) ∧ x.cps[i]? = some c, fun i _ => x.cps.size ≤ i⟩
theorem turn_ens {P : Program} {w : World} {K : PySem.W.Frag} {elts : List Expr} {kk : Nat} {tpos : Pos} (x : Str) (t : Tok) (ty : String) (hty : ty = "str_ascii_iterator" ∨ ty = "str_iterator") (e it : Addr) :
    Turn P w K (.Tuple elts kk tpos) (Ites x) [e, it] e (fun i h => (∃ old, IsEnum h e it ((i : Nat) : Int) old) ∧ h.IsStrIter it ty x t i ∧ e ≠ it ∧ i ≤ x.cps.size) where
  mem := by simp
  obj := fun i h st b hb => by
    obtain ⟨⟨old, he⟩, ⟨o, ho, hc, hd⟩, _⟩ := st
    have e' : b = e ∨ b = it := by simpa using hb
    rcases e' with z | z
    · rw [z]; exact ⟨_, he, fun v q => nomatch q⟩
    · rw [z]; exact ⟨o, ho, fun v q => by rw [hd] at q; cases q⟩
  keep := fun i h h' st k => by
    obtain ⟨⟨old, he⟩, ⟨o, ho, r⟩, hne, hi⟩ := st
    exact ⟨⟨old, k e (by simp) _ he⟩, ⟨o, k it (by simp) o ho, r⟩, hne, hi⟩
  item := by
    intro X hP hw hK hc i pins s σ H E I hf st hg
    subst hP hw hK
    obtain ⟨⟨old, he⟩, hit, hne, hi⟩ := st
    have hh : X.A.in1.handled = none := I.ok.hd hc
    have D : PySem.Draws X.prog X.w X.A.in1 it [it] x.cps.size (fun i v => ∃ c u, x.cps[i]? = some c ∧ v = .str ⟨#[c]⟩ u) (fun i h => h.IsStrIter it ty x t i) := by
      rcases hty with q | q
      · rw [q]; exact PySem.Draws.strAscii hh it x t
      · rw [q]; exact PySem.Draws.strWide hh it x t
    have hel : e < s.heap.objs.size := Heap.lt_size he
    have hil : it < s.heap.objs.size := by obtain ⟨_, q, _⟩ := hit; exact Heap.lt_size q
    refine PySem.wpAny_pyNext_enum_itemD D he hit hg hne (by simpa using hne) fun v h' tk hv ho hit' hT hsz hk => ?_
    obtain ⟨c, u, hcx, rfl⟩ := hv
    refine ⟨_, rfl, wpAny_letOwnedTupleGo_enum (s := { s with heap := h', toks := tk + 1 }) ho fun h'' he' sb => ?_⟩
    have hT2 : h''.get? s.heap.objs.size = some { cls := .type "tuple", data := .seq #[.int i tk, .str ⟨#[c]⟩ u] } := (sb.2 _ (Nat.ne_of_gt hel)).trans hT
    have new : ObjOk X.prog X.w (upd H s.heap.objs.size (.tup [.int (i : Nat), .str ⟨#[c]⟩])) h'' s.heap.objs.size (.tup [.int (i : Nat), .str ⟨#[c]⟩]) :=
      ⟨by show 2 ≤ sizeLine; decide, [.int i tk, .str ⟨#[c]⟩ u], .cons ⟨_, rfl⟩ (.cons ⟨_, rfl⟩ .nil), ⟨_, hT2, rfl, _, rfl⟩⟩
    have I1 : Inv X pins σ (upd H s.heap.objs.size (.tup [.int (i : Nat), .str ⟨#[c]⟩])) { s with heap := h'', toks := tk + 1 } :=
      I.turnedNew (ch := [e, it]) (fun b ob hb q => (sb.2 b (fun z => hb (by simp [z]))).trans (hk b ob (fun z => hb (by simp [z])) (fun z => hb (by simp [z])) q)) hf (Nat.le_refl _) new
    refine ⟨.ref s.heap.objs.size, _, I1, rfl, ⟨_, c, rfl, I.hok.fresh (Nat.le_refl _), rfl, hcx⟩, ⟨⟨.str ⟨#[c]⟩ u, ?_⟩, ?_, hne, hg⟩, fun b hb => ?_⟩
    · have e1 : ((i + 1 : Nat) : Int) = (i : Int) + 1 := by omega
      rw [e1]; exact he'
    · obtain ⟨o, ho2, r⟩ := hit'
      exact ⟨o, (sb.2 it (Ne.symm hne)).trans ho2, r⟩
    · have hb' : b < s.heap.objs.size := by
        have e' : b = e ∨ b = it := by simpa using hb
        rcases e' with z | z
        · rw [z]; exact hel
        · rw [z]; exact hil
      rw [upd_ne (Nat.ne_of_lt hb')]
      exact (hf b hb).1
  done := by
    intro X hP hw hK hc i pins s σ H E I hf st hg
    subst hP hw hK
    obtain ⟨⟨old, he⟩, hit, hne, hi⟩ := st
    have hh : X.A.in1.handled = none := I.ok.hd hc
    have D : PySem.Draws X.prog X.w X.A.in1 it [it] x.cps.size (fun i v => ∃ c u, x.cps[i]? = some c ∧ v = .str ⟨#[c]⟩ u) (fun i h => h.IsStrIter it ty x t i) := by
      rcases hty with q | q
      · rw [q]; exact PySem.Draws.strAscii hh it x t
      · rw [q]; exact PySem.Draws.strWide hh it x t
    obtain ⟨f0, f1, f2, f3, f4, f5⟩ := hf it (by simp)
    have hin : i = x.cps.size := Nat.le_antisymm hi hg
    subst hin
    exact PySem.wpAny_pyNext_enum_endD D he hit fun h' eb => ⟨rfl, I.turned (t' := s.toks) (fun b o hb q => eb b o hb q) f0 f1 f3 f4 f5⟩
  self := fun A i s Q E st h => let ⟨⟨_, he⟩, _⟩ := st; wpAny_pyIter_enum he h
theorem walk_ens {x : Str} : Walk (Ites x) x.cps.size (fun _ => True) (fun i H v H' => ∃ T c, v = .ref T ∧ H T = none ∧ H' = upd H T (.tup [.int (i : Nat), .str ⟨#[c]⟩]) ∧ x.cps[i]? = some c) :=
  ⟨fun _ _ hi _ => hi, fun _ _ => Nat.le_refl _, fun _ _ _ _ _ _ y => y⟩
@[irreducible] def ensR (v : V) (H : Hp) (R : It → Hp → Prop) : Prop := ∃ x, v = .str x ∧ R (Ites x) H
@[irreducible] def xEnS (te : TE) : TI := fun σ H R => te σ H fun v H1 => ensR v H1 R
section
variable {σ : L2.St} {H : Hp} {te : TE} {R : It → Hp → Prop} {x : Str}
theorem g_ens (q : te σ H fun v H1 => ensR v H1 R) : xEnS te σ H R := by unfold xEnS; exact q
theorem ensR_i (q : R (Ites x) H) : ensR (.str x) H R := by unfold ensR; exact ⟨x, rfl, q⟩
end
theorem qi_ens {X : Cx} {e : Expr} {te : TE} {p pos tpos : Pos} {elts : List Expr} {kk : Nat} (hm : X.mg "enumerate" = none) (he : PE X e te) (hg : Gl X "enumerate" := by rfl) (hs : starEach [e] X.env = [(false, eval e X.env)] := by rfl) (hs1 : starEach [e] X.env = (false, eval e X.env) :: starEach [] X.env := by rfl) :
    PI X (.Tuple elts kk tpos) (.Call (.Name "enumerate" p) [e] [] pos) (xEnS te) := by
  have ha := pa_cons he pa_nil hs1
  refine ⟨fun pins s σ H R I h => ?_⟩
  unfold xEnS ensR at h
  have e0 : ∀ (v : V) (H1 : Hp), (∃ x, v = .str x ∧ R (Ites x) H1) = ∃ x, [v] = [V.str x] ∧ R (Ites x) H1 := fun v H1 => propext
    ⟨fun ⟨x, a, b⟩ => ⟨x, by rw [a], b⟩, fun ⟨x, a, b⟩ => ⟨x, (List.cons.inj a).1, b⟩⟩
  simp only [e0] at h
  refine Call_ (ld_blt I hg hm boot_enumerate (PyProof.Rows.callWith_type1 (thn (ha.run pos pins s σ H (fun vs H1 => ∃ x, vs = [.str x] ∧ R (Ites x) H1) I h) fun us s1 ⟨vs, H1, I1, r1, q1⟩ => ?_) hs rfl))
  obtain ⟨x, ex, q⟩ := q1
  subst ex
  cases r1 with
  | cons r rr =>
    cases rr
    obtain ⟨t, rfl⟩ := r
    have hty : strIterType x = "str_ascii_iterator" ∨ strIterType x = "str_iterator" := by unfold strIterType; split <;> simp
    refine call_enumerate_str fun h' he hit hsz hk => wpAny_pyIter_enum he ?_
    have I2 : Inv X pins σ H1 { s1 with heap := h' } := I1.kept (t' := s1.toks) hk
    refine ⟨s1.heap.objs.size + 1, [s1.heap.objs.size + 1, s1.heap.objs.size], _, _, H1, rfl, I2, turn_ens x t _ hty (s1.heap.objs.size + 1) s1.heap.objs.size, ⟨⟨.none, he⟩, hit, Nat.succ_ne_self _, Nat.zero_le _⟩, fun b hb => ?_, q⟩
    have e' : b = s1.heap.objs.size + 1 ∨ b = s1.heap.objs.size := by simpa using hb
    have hle : s1.heap.objs.size ≤ b := by
      rcases e' with z | z
      · rw [z]; exact Nat.le_add_right _ _
      · rw [z]; exact Nat.le_refl _
    exact I1.fpOk hle (I1.hok.fresh hle)
end CL
end

section
set_option Elab.async false
set_option linter.all false
set_option maxRecDepth 100000
set_option maxHeartbeats 4000000
namespace K96
open PySem PySem.Spec PyProof.Rows L2 CL
/-! _law_too_deep -/
def N__law_too_deep : List Str := ["_law_piece", "_law_line", "_law_many", "_law_caught", "err", "_law_high", "_law_quoted", "_law_at", "_law_sign", "_law_one"]
theorem sc__law_too_deep : FnScope N__law_too_deep ["_law_piece", "_law_line", "_law_many"] (defScope s__law_too_deep) := ⟨rfl, rfl, rfl, by decide +kernel, rfl, by decide +kernel, by decide +kernel⟩
def t__law_too_deep (K : PySem.W.Frag) (w : World) (sp_paper_text sp_read_paper sp__law_plain_end : Sp) (W : WX) : TS :=
    (xSeq (xSet 3 (xLst xNil))
    (xSeq (xTry K (.ref (He.ga K "LoomError")) 4 (fun W => (xDrop (xCallN 1 1 sp_paper_text (fun vs zs => [vs.getD 0 .non, zs.getD 0 .non]) W (xCons (xVar 0) xNil) (xCons (xVar 2) xNil)))) (fun _ _ _ => (xDrop (xApp K (xVar 3) (xVar 4)))))
    (xSeq (xTry K (.ref (He.ga K "LoomError")) 4 (fun W => (xDrop (xCallN 1 1 sp_read_paper (fun vs zs => [vs.getD 0 .non, zs.getD 0 .non]) W (xCons (xVar 1) xNil) (xCons (xVar 2) xNil)))) (fun _ _ _ => (xDrop (xApp K (xVar 3) (xVar 4)))))
    (xSeq (xIf (xOr (xCt (xOp (uNe K) (xFn (lenR K) (xCons (xVar 3) xNil)) (xC (.int 2)))) (xOr (xNot (xTr K (xFn (isiR K) (xCons (xOp (uIx K w) (xVar 3) (xC (.int 0))) (xCons (xC (.ref (He.ga K "TooDeep"))) xNil))))) (xNot (xTr K (xFn (isiR K) (xCons (xOp (uIx K w) (xVar 3) (xC (.int 1))) (xCons (xC (.ref (He.ga K "NoText"))) xNil)))))))
    (xRet (xC (.bl false)))
    xEnd)
    (xSeq (xIf (xOr (xNot (xTr K (xFn (allR K) (xCons (xLc W (xIt K (xVar 3)) (xG 9) (fun W => tYes) (fun W => (xFn (isiR K) (xCons (xVar 9) (xCons (xC (.ty "ValueError")) xNil)))) [9]) xNil)))) (xTr K (xFn (isiR K) (xCons (xOp (uIx K w) (xVar 3) (xC (.int 0))) (xCons (xC (.ref (He.ga K "NoText"))) xNil)))))
    (xRet (xC (.bl false)))
    xEnd)
    (xSeq (xSet 5 (xC (.int 0)))
    (xSeq (xSet 6 (xC (.bl false)))
    (xSeq (xFor (xEnS (xVar 1)) (xG2 K 7 8)
    (xIf (xAnd (xCt (xOp (uEq K) (xVar 8) (xC (.str (S [39]))))) (xOr (xCt (xOp (uEq K) (xVar 7) (xC (.int 0)))) (xOr (xNot (xTr K (xVar 6))) (xTr K (xCall sp__law_plain_end [] W (xCons (xVar 1) (xCons (xVar 7) xNil)))))))
    (xSet 6 (xNotV (xVar 6)))
    (xIf (xAnd (xNot (xTr K (xVar 6))) (xCt (xOp (uIn K w) (xVar 8) (xC (.str (S [40, 91, 123]))))))
    (xSeq (xIf (xCt (xOp (uEq K) (xVar 5) (xVar 2)))
    (xRet (xOp (uEq K) (xLst (xCons (xFld K (xOp (uIx K w) (xVar 3) (xC (.int 1))) "row") (xCons (xFld K (xOp (uIx K w) (xVar 3) (xC (.int 1))) "at") xNil))) (xLst (xCons (xC (.int 0)) (xCons (xVar 7) xNil)))))
    xEnd)
    (xSet 5 (xOp (uAdd K) (xVar 5) (xC (.int 1)))))
    (xIf (xAnd (xNot (xTr K (xVar 6))) (xCt (xOp (uIn K w) (xVar 8) (xC (.str (S [41, 93, 125]))))))
    (xSet 5 (xOp uSub (xVar 5) (xC (.int 1))))
    xEnd))))
    (xRet (xC (.bl false)))))))))))
theorem pr__law_too_deep {P : Program} {w : World} {K : PySem.W.Frag} {mg : Str → Option Value} {base : Heap} {f : Addr} {cdv : Value} {A : Around} {outer : List Env} {s : Shared} {H : Hp} {E : XK} {j : Nat} {sp_paper_text sp_read_paper sp__law_plain_end : Sp} (M : MF K mg) (hr : Room j (A.deeper (envOfC "_law_too_deep" (defScope s__law_too_deep) s.heap.objs.size f cdv))) {kk1_paper_text : Nat} (ck1_paper_text : CalN P w K mg base kk1_paper_text "paper_text" sp_paper_text 1 ["deep"] (fun vs zs => [vs.getD 0 .non, zs.getD 0 .non])) (hk1_paper_text : kk1_paper_text ≤ j) {kk1_read_paper : Nat} (ck1_read_paper : CalN P w K mg base kk1_read_paper "read_paper" sp_read_paper 1 ["deep"] (fun vs zs => [vs.getD 0 .non, zs.getD 0 .non])) (hk1_read_paper : kk1_read_paper ≤ j) {k__law_plain_end : Nat} (c__law_plain_end : Cal P w K mg base k__law_plain_end "_law_plain_end" sp__law_plain_end []) (hk__law_plain_end : k__law_plain_end ≤ j) :
    PSs (cxOf (L2.CX P w) P w K mg base N__law_too_deep "_law_too_deep" (defScope s__law_too_deep) f cdv A outer s H E) (defBody s__law_too_deep) (t__law_too_deep K w sp_paper_text sp_read_paper sp__law_plain_end fun cls d _ H' => E cls d H') := by
  have hN : (cxOf (L2.CX P w) P w K mg base N__law_too_deep "_law_too_deep" (defScope s__law_too_deep) f cdv A outer s H E).N.Nodup := sc__law_too_deep.nd
  have tk := takesT (P := P) (w := w) (K := K) (mg := mg) (base := base) (N := N__law_too_deep) (qual := "_law_too_deep") (scope := defScope s__law_too_deep) (f := f) (cd := cdv) (A := A) (outer := outer) (s := s) (H := H) (E := E)
  have hu := hr.units
  have hu1 : (A.deeper (envOfC "_law_too_deep" (defScope s__law_too_deep) s.heap.objs.size f cdv)).units + 1 < cLine := by omega
  unfold t__law_too_deep
  exact (qs_cons (qs_set hN (px_lst pq_nil)) (qs_cons (qs_try hN ⟨rfl, by decide, Or.inl (M.glo "LoomError")⟩ (fun W _ _ tkt _ => (qs_one (qs_drop (px_callN ck1_paper_text hr hk1_paper_text tkt (pq_cons (px_var 0) pq_nil) (qk_cons (px_var 2) qk_nil))))) (fun _ _ _ _ _ _ _ => (qs_one (qs_drop (px_app (px_var 3) (px_var 4)))))) (qs_cons (qs_try hN ⟨rfl, by decide, Or.inl (M.glo "LoomError")⟩ (fun W _ _ tkt _ => (qs_one (qs_drop (px_callN ck1_read_paper hr hk1_read_paper tkt (pq_cons (px_var 1) pq_nil) (qk_cons (px_var 2) qk_nil))))) (fun _ _ _ _ _ _ _ => (qs_one (qs_drop (px_app (px_var 3) (px_var 4)))))) (qs_cons (qs_if (PW.pt (pw_any (pc_cmp (u_ne hu) (px_bi r_len (M.fre "len") (pq_cons (px_var 3) pq_nil)) px_int) (pw_any (pt_no (pt_tr (px_bi cr_isi (M.fre "isinstance") (pq_cons (px_ix (u_ix hu1) (px_var 3) px_int) (pq_cons (px_glob (M.ref "TooDeep")) pq_nil))))) (pw_one (pt_no (pt_tr (px_bi cr_isi (M.fre "isinstance") (pq_cons (px_ix (u_ix hu1) (px_var 3) px_int) (pq_cons (px_glob (M.ref "NoText")) pq_nil))))))))) (qs_one (qs_ret px_bl)) qs_nil) (qs_cons (qs_if (PW.pt (pw_any (pt_no (pt_tr (px_bi r_all (M.fre "all") (pq_cons (px_lc hN tk (qi_it (px_var 3)) (blkOk_by (N := N__law_too_deep) (sc := defScope s__law_too_deep) (own := [("_law_one", 9)]) (by decide +kernel)) (fun _ _ _ _ _ _ => (pg_g hN)) (fun _ _ _ _ _ _ W tkb => pts_nil) (fun _ _ _ _ _ _ W tkb => (px_bi cr_isi (M.fre "isinstance") (pq_cons (px_var 9) (pq_cons (px_ty (M.fre "ValueError")) pq_nil))))) pq_nil)))) (pw_one (pt_tr (px_bi cr_isi (M.fre "isinstance") (pq_cons (px_ix (u_ix hu1) (px_var 3) px_int) (pq_cons (px_glob (M.ref "NoText")) pq_nil))))))) (qs_one (qs_ret px_bl)) qs_nil) (qs_cons (qs_set hN px_int) (qs_cons (qs_set hN px_bl) (qs_cons (qs_for passesT (qi_ens (M.fre "enumerate") (px_var 1)) (pg_g2 hN) (qs_one (qs_if (PW.pt (pw_both (pc_cmp (u_eq hu) (px_var 8) px_str) (pw_one (PW.pt (pw_any (pc_cmp (u_eq hu) (px_var 7) px_int) (pw_any (pt_no (pt_tr (px_var 6))) (pw_one (pt_tr (px_call c__law_plain_end hr hk__law_plain_end tk (pq_cons (px_var 1) (pq_cons (px_var 7) pq_nil))))))))))) (qs_one (qs_set hN (px_notV (px_var 6)))) (qs_one (qs_if (PW.pt (pw_both (pt_no (pt_tr (px_var 6))) (pw_one (pc_cmp (u_in hu1) (px_var 8) px_str)))) (qs_cons (qs_if (pc_cmp (u_eq hu) (px_var 5) (px_var 2)) (qs_one (qs_ret (px_cmp (u_eq hu) (px_lst (pq_cons (px_fld (px_ix (u_ix hu1) (px_var 3) px_int)) (pq_cons (px_fld (px_ix (u_ix hu1) (px_var 3) px_int)) pq_nil))) (px_lst (pq_cons px_int (pq_cons (px_var 7) pq_nil)))))) qs_nil) (qs_one (qs_set hN (px_op u_add (px_var 5) px_int)))) (qs_one (qs_if (PW.pt (pw_both (pt_no (pt_tr (px_var 6))) (pw_one (pc_cmp (u_in hu1) (px_var 8) px_str)))) (qs_one (qs_set hN (px_op u_sub (px_var 5) px_int))) qs_nil))))))) (qs_one (qs_ret px_bl))))))))))
end K96
end

section
set_option Elab.async false
set_option linter.all false
set_option maxRecDepth 100000
set_option maxHeartbeats 4000000
open PySem PySem.Spec PyProof.Rows L2 CL
local macro_rules | `(tactic| walk_at "rd1") => `(tactic| first
  | (with_reducible refine g_seq ?_) | ((with_reducible apply g_var); rfl) | (with_reducible refine g_c ?_) | (with_reducible refine g_op ?_) | (with_reducible refine g_cons ?_) | (with_reducible refine g_nil ?_)
  | (with_reducible refine g_if ?_) | (with_reducible refine g_ct ?_) | (with_reducible refine g_tr ?_) | (with_reducible refine g_and ?_) | (with_reducible refine g_or ?_) | (with_reducible refine g_not ?_)
  | (with_reducible refine asB_bl ?_) | (with_reducible refine tru_bl ?_) | (with_reducible refine g_ret ?_) | (with_reducible refine g_set ?_) | (with_reducible refine g_fn ?_) | (with_reducible refine g_call ?_)
  | (with_reducible refine g_meth ?_) | (with_reducible refine g_fld ?_) | (with_reducible refine nx_seq ?_) | (with_reducible refine nx_loop ?_) | (with_reducible refine nx_top ?_) | (with_reducible refine rt_seq ?_)
  | (with_reducible refine rt_loop ?_) | (with_reducible refine rt_top ?_) | (with_reducible refine bk_seq ?_) | (with_reducible refine bk_loop ?_) | (with_reducible refine ct_seq ?_) | (with_reducible refine ct_loop ?_)
  | (with_reducible refine g_end ?_) | (with_reducible refine uAdd_i ?_) | (with_reducible refine uSub_i ?_) | (with_reducible refine uEq_i ?_) | (with_reducible refine uEq_s ?_) | (with_reducible refine uNe_i ?_) | (with_reducible refine uNe_s ?_)
  | (with_reducible refine uLt_i ?_) | (with_reducible refine uLe_i ?_) | (with_reducible refine uGt_i ?_) | (with_reducible refine uGe_i ?_) | (with_reducible refine uIs_n ?_) | (with_reducible refine uIsNot_n ?_)
  | (with_reducible refine g_tup ?_) | (with_reducible refine g_lst ?_) | (with_reducible refine g_sl ?_) | (with_reducible refine g_no ?_) | (with_reducible refine g_part ?_) | (with_reducible refine g_ifE ?_) | (with_reducible refine g_ofT ?_)
  | (with_reducible refine g_unp2 ?_) | (with_reducible refine g_put ?_) | (with_reducible refine g_retN ?_) | (with_reducible refine g_drop ?_) | (with_reducible refine g_brk ?_) | (with_reducible refine g_cnt ?_) | (with_reducible refine iAdd_i ?_)
  | ((with_reducible apply g_aug); rfl) | (with_reducible refine g_sto ?_) | (with_reducible refine g_stoA ?_) | (with_reducible refine g_for ?_) | (with_reducible refine g_wh ?_) | (with_reducible refine g_rs ?_) | (with_reducible refine g_rsX ?_)
  | (with_reducible refine g_g ?_) | (with_reducible refine g_g2 ?_) | (with_reducible refine g_callN ?_) | (with_reducible refine g_app ?_) | (with_reducible refine g_join ?_) | (with_reducible refine strA_i ?_) | (with_reducible refine g_it ?_)
  | (with_reducible refine itR_s ?_) | (with_reducible refine g_rng ?_) | (with_reducible refine g_vals ?_) | (with_reducible refine g_zip ?_) | (with_reducible refine g_rep ?_) | (with_reducible refine g_new ?_) | (with_reducible refine g_disp ?_)
  | (with_reducible refine g_andV ?_) | (with_reducible refine g_orV ?_) | (with_reducible refine g_notV ?_) | (with_reducible refine g_un ?_) | (with_reducible refine uNeg_i ?_) | (with_reducible refine g_yes ?_) | (with_reducible refine g_make ?_)
  | (with_reducible refine g_try ?_) | (with_reducible refine g_lc ?_) | (with_reducible refine intR_b ?_) | (with_reducible refine minR_i ?_) | (with_reducible refine tru_int ?_))
local macro_rules | `(tactic| walk_at "rd") => `(tactic| repeat (walk_at "rd1"))
local macro_rules | `(tactic| walk_at "rd1") => `(tactic| first | (with_reducible refine g_ens ?_) | (with_reducible refine ensR_i ?_))
namespace K96
open PySem PySem.Spec PyProof.Rows L2 CL
def sp_paper_text (K : PySem.W.Frag) : Sp := sp2 fun v y H Q E => ∃ d k, y = .int (k : Nat) ∧ Rep H v d ∧ okD d ∧ dep d ≤ 100 ∧ (spell d).length ≤ 50000 ∧ (dep d ≤ k → ∀ H', Ext H H' → Q (.str (S (spell d))) H') ∧ (k < dep d → ∀ H', Ext H H' → E (.ref (He.ga K "TooDeep")) none H')
section
variable {K : PySem.W.Frag} {w : World}
theorem w_paper_text {H : Hp} {vs : List V} {Q : VK} {E : XK} (h : sp_paper_text K vs H Q E) :
    t_paper_text K w (sp_text_of K 101) (fun cls d _ H' => E cls d H') (topE Q) (start N_paper_text vs) H := by
  obtain ⟨v, y, rfl, d, k, rfl, r, ok, hn, hl, q1, q2⟩ := h
  unfold t_paper_text
  walk_at "rd"
  have hk : (if (100 : Int) < (k : Nat) then (100 : Int) else (k : Nat)) = ((min k 100 : Nat) : Int) := by split <;> omega
  rw [hk]
  refine ⟨v, .int ((min k 100 : Nat) : Int), rfl, d, min k 100, rfl, r, ok, hn, hl, fun h H' e => ?_, fun h H' e => q2 (by omega) H' e⟩
  walk_at "rd"
  exact q1 (by omega) H' e
/-- the scan of a line: the place of the bracket that opens one too many; in l from i on -/
def scanD (line : List Nat) (many : Nat) : Nat → Int → Bool → List Nat → Option Nat
  | _, _, _, [] => none
  | i, high, quo, c :: r =>
    if c = 39 ∧ (i = 0 ∨ quo = false ∨ car (line.take i) % 2 = 0) then scanD line many (i + 1) high (!quo) r
    else if quo = false ∧ (c = 40 ∨ c = 91 ∨ c = 123) then (if high = (many : Nat) then some i else scanD line many (i + 1) (high + 1) quo r)
    else if quo = false ∧ (c = 41 ∨ c = 93 ∨ c = 125) then scanD line many (i + 1) (high - 1) quo r
    else scanD line many (i + 1) high quo r
theorem ext_put {H H' : Hp} {p : Addr} {o : HO} (x : Ext H H') (h : H p = none) : Ext H (upd H' p o) := fun a u e => by rw [upd_ne (ne_of_none e h)]; exact x a u e
theorem nx_of {D : Ends} {σ : L2.St} {H : Hp} (h : dNx D σ H) : D.nx σ H := by unfold dNx at h; exact h
theorem nx_to {D : Ends} {σ : L2.St} {H : Hp} (h : D.nx σ H) : dNx D σ H := by unfold dNx; exact h
/-- of a thing deeper than many, and its text: true -/
def sp__law_too_deep : Sp := fun xs H Q E => ∃ v u y d many, xs = [v, u, y] ∧ Rep H v d ∧ okD d ∧ dep d ≤ 100 ∧ (spell d).length ≤ 50000 ∧ u = .str (S (spell d)) ∧ y = .int (many : Nat) ∧ many < dep d ∧
  (∃ r, rdThing (min many 100) (spell d) = .bad r ∧ r.length ≤ (spell d).length ∧ scanD (spell d) many 0 0 false (spell d) = some ((spell d).length - r.length)) ∧ ∀ H', Ext H H' → Q (.bl true) H'
theorem w__law_too_deep {mg : Str → Option Value} (M : MF K mg) {H : Hp} {vs : List V} {Q : VK} {E : XK} (h : sp__law_too_deep vs H Q E) :
    t__law_too_deep K w (sp_paper_text K) (sp_read_paper K) sp__law_plain_end (fun cls d _ H' => E cls d H') (topE Q) (start N__law_too_deep vs) H := by
  obtain ⟨v, u, y, d, many, rfl, r, ok, hn, hl, rfl, rfl, hm, ⟨z, hz, hzl, hs⟩, q⟩ := h
  unfold t__law_too_deep
  walk_at "rd"
  refine ⟨sb (by simp), fun p hp => ?_⟩
  walk_at "rd"
  have e1 := Ext.new (o := .lst []) hp
  refine calN_i rfl rfl ⟨v, .int (many : Nat), rfl, d, many, rfl, r.ext e1, ok, hn, hl, fun h => by omega, fun _ H2 e2 => ?_⟩
  refine ⟨M.exm "TooDeep" "LoomError", fun a ha => ?_⟩
  have hp2 : H2 p = some (.lst []) := e2 _ _ upd_same
  walk_at "rd"
  refine lstA_i hp2 ?_
  walk_at "rd"
  refine appR_i hp2 (sb (by simp)) ?_
  have pa : p ≠ a := fun z => by rw [← z, hp2] at ha; cases ha
  have x3 : Ext H (upd (upd H2 p (.lst ([] ++ [V.ref a]))) a (exk a (.ref (He.ga K "TooDeep")) none)) := ext_put (ext_put (e1.trans e2) hp) (Ext.none (e1.trans e2) ha)
  refine nx_to fun ha2 => nx_of ?_
  walk_at "rd"
  refine calN_i rfl rfl ⟨.str (S (spell d)), .int (many : Nat), rfl, spell d, many, rfl, rfl, by omega, ?_⟩
  rw [hz]
  intro H4 dd e4 hd4 hx4
  refine ⟨M.exm "NoText" "LoomError", fun b hb => ?_⟩
  have hp4 : H4 p = some (.lst [.ref a]) := e4 _ _ (by rw [upd_ne pa]; exact upd_same)
  have ha4 : H4 a = some (exk a (.ref (He.ga K "TooDeep")) none) := e4 _ _ upd_same
  have pb : p ≠ b := fun z => by rw [← z, hp4] at hb; cases hb
  have ab : a ≠ b := fun z => by rw [← z, ha4] at hb; cases hb
  have pd : p ≠ dd := fun z => by rw [← z, upd_ne pa, upd_same] at hd4; cases hd4
  have db : dd ≠ b := fun z => by rw [← z, hx4] at hb; cases hb
  walk_at "rd"
  refine lstA_i hp4 ?_
  walk_at "rd"
  refine appR_i hp4 (sb (by simp)) ?_
  refine nx_to fun hb2 => nx_of ?_
  have x4 : Ext H (upd (upd H4 p (.lst ([V.ref a] ++ [V.ref b]))) b (exk b (.ref (He.ga K "NoText")) (some dd))) := ext_put (ext_put (x3.trans e4) hp) (Ext.none (x3.trans e4) hb)
  obtain ⟨H5, h5⟩ : ∃ H5, H5 = upd (upd H4 p (.lst ([V.ref a] ++ [V.ref b]))) b (exk b (.ref (He.ga K "NoText")) (some dd)) := ⟨_, rfl⟩
  rw [← h5] at x4 ⊢
  have gp : H5 p = some (.lst [.ref a, .ref b]) := by rw [h5, upd_ne pb]; exact upd_same
  have ga : H5 a = some (exk a (.ref (He.ga K "TooDeep")) none) := by rw [h5, upd_ne ab, upd_ne pa.symm]; exact ha4
  have gb : H5 b = some (exk b (.ref (He.ga K "NoText")) (some dd)) := by rw [h5]; exact upd_same
  have gd : H5 dd = some (.xd [("at", .int (((spell d).length - z.length : Nat) : Nat)), ("row", .int 0)]) := by rw [h5, upd_ne db, upd_ne pd.symm]; exact hx4
  clear h5 hp4 ha4 hx4 e4 hd4 x3 ha2 hb2 ha hb
  walk_at "rd"
  refine lenR_l (SqL.of gp) ?_
  walk_at "rd"
  refine br_f ?_
  walk_at "rd"
  refine uIx_l (SqL.of gp) (v := .ref a) (by rfl) ?_
  walk_at "rd"
  refine isi_x (.own _) ga trivial (M.err "TooDeep").ec (M.kit "TooDeep" "TooDeep" true) ?_
  walk_at "rd"
  refine br_f ?_
  walk_at "rd"
  refine uIx_l (SqL.of gp) (v := .ref b) (by rfl) ?_
  walk_at "rd"
  refine isi_x (.own _) gb ⟨_, gd⟩ (M.err "NoText").ec (M.kit "NoText" "NoText" true) ?_
  walk_at "rd"
  refine br_f ?_
  walk_at "rd"
  refine itR_l (SqL.of gp) ?_
  refine lc_w walk_list (fun i H' acc => H' = H5 ∧ acc = (([.ref a, .ref b].take i).map fun _ : V => V.bl true)) ⟨rfl, rfl⟩ (fun i H' acc hi q => ⟨SqL.of (by rw [q.1]; exact gp), by rw [q.2, List.length_map, List.length_take]; exact Nat.min_le_left ..⟩) (sb (by simp)) ?_ ?_
  · rintro i x H2' H3' acc hi ⟨rfl, rfl⟩ ⟨rfl, hx⟩
    walk_at "rd"
    refine ⟨rfl, ?_⟩
    walk_at "rd"
    refine br_t ?_
    walk_at "rd"
    have : i = 0 ∨ i = 1 := by simp at hi; omega
    rcases this with rfl | rfl
    · have hx : x = .ref a := (Option.some.inj hx).symm
      subst hx
      exact isi_x (.ty _) ga trivial (M.err "TooDeep").ec (M.kitv "TooDeep" "ValueError" true) ⟨rfl, rfl⟩
    · have hx : x = .ref b := (Option.some.inj hx).symm
      subst hx
      exact isi_x (.ty _) gb ⟨_, gd⟩ (M.err "NoText").ec (M.kitv "NoText" "ValueError" true) ⟨rfl, rfl⟩
  rintro H6 acc ⟨rfl, rfl⟩ D hD
  have hpD : p ≠ D := fun z => by rw [← z, gp] at hD; cases hD
  have haD : a ≠ D := fun z => by rw [← z, ga] at hD; cases hD
  have hbD : b ≠ D := fun z => by rw [← z, gb] at hD; cases hD
  have hdD : dd ≠ D := fun z => by rw [← z, gd] at hD; cases hD
  walk_at "rd"
  refine allR_i (bs := [true, true]) (SqL.of upd_same) ?_
  walk_at "rd"
  obtain ⟨H7, h7⟩ : ∃ H7, H7 = upd H6 D (.lst (([.ref a, .ref b].take [V.ref a, V.ref b].length).map fun _ : V => V.bl true)) := ⟨_, rfl⟩
  rw [← h7]
  have x7 : Ext H H7 := by rw [h7]; exact x4.on hD
  have gp : H7 p = some (.lst [.ref a, .ref b]) := by rw [h7, upd_ne hpD]; exact gp
  have ga : H7 a = some (exk a (.ref (He.ga K "TooDeep")) none) := by rw [h7, upd_ne haD]; exact ga
  have gb : H7 b = some (exk b (.ref (He.ga K "NoText")) (some dd)) := by rw [h7, upd_ne hbD]; exact gb
  have gd : H7 dd = some (.xd [("at", .int (((spell d).length - z.length : Nat) : Nat)), ("row", .int 0)]) := by rw [h7, upd_ne hdD]; exact gd
  clear h7 hpD haD hbD hdD hD x4
  refine br_f ?_
  walk_at "rd"
  refine uIx_l (SqL.of gp) (v := .ref a) (by rfl) ?_
  walk_at "rd"
  refine isi_x (.own _) ga trivial (M.err "TooDeep").ec (M.kit "TooDeep" "NoText" false) ?_
  walk_at "rd"
  refine br_f ?_
  walk_at "rd"
  have hsz : (S (spell d)).cps.size = (spell d).length := by show (spell d).toArray.size = _; simp
  refine for_w walk_ens (fun i σ H' => Ext H7 H' ∧ ∃ (high : Int) (quo : Bool) (s7 s8 : Option V), σ = [some v, some (.str (S (spell d))), some (.int (many : Nat)), some (.ref p), none, some (.int high), some (.bl quo), s7, s8, none] ∧
      scanD (spell d) many i high quo ((spell d).drop i) = some ((spell d).length - z.length)) ⟨.refl, 0, false, none, none, rfl, hs⟩ (fun _ _ _ _ _ => trivial) ?_ ?_
  · rintro i x σ H2' H3' hi ⟨e, high, quo, s7, s8, rfl, hsc⟩ ⟨T, c, rfl, hT, rfl, hc⟩
    have hi2 : i < (spell d).length := by omega
    have hci : (spell d)[i]? = some c := by
      have : (spell d).toArray[i]? = some c := hc
      simpa using this
    have hdr : (spell d).drop i = c :: (spell d).drop (i + 1) := by
      rw [List.drop_eq_getElem_cons hi2]
      congr 1
      rw [List.getElem?_eq_getElem hi2] at hci
      exact Option.some.inj hci
    rw [hdr, scanD] at hsc
    have e := e.on (o := .tup [.int (i : Nat), .str ⟨#[c]⟩]) hT
    walk_at "rd"
    refine unp2_t (SqT.of upd_same) ⟨_, _, rfl, ?_⟩
    walk_at "rd"
    have S1 : ∀ n, (({ cps := #[c] } : Str) = S [n]) ↔ c = n := fun n => ⟨fun h => by
      have h2 : S [c] = S [n] := h
      simpa using SX.S_inj h2, fun h => by subst h; rfl⟩
    refine br_c (fun hb => ?_) (fun hb => ?_)
    · have hc39 : c = 39 := (S1 39).mp (of_decide_eq_true hb)
      walk_at "rd"
      refine br_c (fun h0 => ?_) (fun h0 => ?_)
      · have h0 : i = 0 := by have := of_decide_eq_true h0; omega
        rw [if_pos ⟨hc39, .inl h0⟩] at hsc
        refine br_t ?_
        walk_at "rd"
        exact ⟨e, high, !quo, _, _, rfl, hsc⟩
      · walk_at "rd"
        cases quo with
        | false =>
          rw [if_pos ⟨hc39, .inr (.inl rfl)⟩] at hsc
          refine br_t ?_
          refine br_t ?_
          walk_at "rd"
          exact ⟨e, high, true, _, _, rfl, hsc⟩
        | true =>
          refine br_f ?_
          walk_at "rd"
          refine ⟨_, _, rfl, spell d, i, rfl, rfl, hi2, hl, ?_⟩
          walk_at "rd"
          refine br_c (fun h1 => ?_) (fun h1 => ?_)
          · rw [if_pos ⟨hc39, .inr (.inr (of_decide_eq_true h1))⟩] at hsc
            walk_at "rd"
            exact ⟨e, high, false, _, _, rfl, hsc⟩
          · rw [if_neg, if_neg (fun z => by cases z.1), if_neg (fun z => by cases z.1)] at hsc
            · walk_at "rd"
              refine br_f ?_
              refine br_f ?_
              walk_at "rd"
              refine br_f ?_
              refine br_f ?_
              walk_at "rd"
              exact ⟨e, high, true, _, _, rfl, hsc⟩
            · rintro ⟨_, z | z | z⟩
              · exact of_decide_eq_false h0 (by omega)
              · cases z
              · exact of_decide_eq_false h1 z
    · have hc39 : ¬ c = 39 := fun z => of_decide_eq_false hb ((S1 39).mpr z)
      rw [if_neg fun z => hc39 z.1] at hsc
      refine br_f ?_
      walk_at "rd"
      cases quo with
      | true =>
        rw [if_neg (fun z => by cases z.1), if_neg (fun z => by cases z.1)] at hsc
        refine br_f ?_
        refine br_f ?_
        walk_at "rd"
        refine br_f ?_
        refine br_f ?_
        walk_at "rd"
        exact ⟨e, high, true, _, _, rfl, hsc⟩
      | false =>
        refine br_t ?_
        walk_at "rd"
        refine uIn_c ?_
        walk_at "rd"
        refine br_c (fun h1 => ?_) (fun h1 => ?_)
        · have h1 : c = 40 ∨ c = 91 ∨ c = 123 := by have := of_decide_eq_true h1; simpa using this
          rw [if_pos ⟨rfl, h1⟩] at hsc
          walk_at "rd"
          refine br_c (fun h2 => ?_) (fun h2 => ?_)
          · rw [if_pos (of_decide_eq_true h2)] at hsc
            walk_at "rd"
            have hii : (spell d).length - z.length = i := (Option.some.inj hsc).symm
            refine uIx_l (SqL.of (e _ _ gp)) (v := .ref b) (by rfl) ?_
            refine fldR_e (e _ _ gb) (e _ _ gd) (M.err "NoText").xf (M.noat "NoText" "row") (by rfl) ?_
            walk_at "rd"
            refine uIx_l (SqL.of (e _ _ gp)) (v := .ref b) (by rfl) ?_
            refine fldR_e (e _ _ gb) (e _ _ gd) (M.err "NoText").xf (M.noat "NoText" "at") (by rfl) ?_
            walk_at "rd"
            refine ⟨sb (by simp), fun p1 hp1 => ?_⟩
            walk_at "rd"
            refine ⟨sb (by simp), fun p2 hp2 => ?_⟩
            walk_at "rd"
            have np : p1 ≠ p2 := fun z => by rw [← z, upd_same] at hp2; cases hp2
            rw [hii] at hp2 ⊢
            refine uEq_d (d := .list [.int 0, .int i]) (e := .list [.int 0, .int i]) (.lst (SqL.of (by rw [upd_ne np]; exact upd_same)) (.cons (.int _) (.cons (.int _) .nil))) (.lst (SqL.of upd_same) (.cons (.int _) (.cons (.int _) .nil))) (by rfl) (by rfl) ?_
            rw [SeqAt.eqv_refl _ (by rfl)]
            walk_at "rd"
            exact q _ (((x7.trans e).on hp1).on hp2)
          · rw [if_neg (of_decide_eq_false h2)] at hsc
            walk_at "rd"
            exact ⟨e, high + 1, false, _, _, rfl, hsc⟩
        · have h1 : ¬ (c = 40 ∨ c = 91 ∨ c = 123) := by have := of_decide_eq_false h1; simpa using this
          rw [if_neg (fun z => h1 z.2)] at hsc
          walk_at "rd"
          refine br_t ?_
          walk_at "rd"
          refine uIn_c ?_
          walk_at "rd"
          refine br_c (fun h2 => ?_) (fun h2 => ?_)
          · have h2 : c = 41 ∨ c = 93 ∨ c = 125 := by have := of_decide_eq_true h2; simpa using this
            rw [if_pos ⟨rfl, h2⟩] at hsc
            walk_at "rd"
            exact ⟨e, high - 1, false, _, _, rfl, hsc⟩
          · have h2 : ¬ (c = 41 ∨ c = 93 ∨ c = 125) := by have := of_decide_eq_false h2; simpa using this
            rw [if_neg (fun z => h2 z.2)] at hsc
            walk_at "rd"
            exact ⟨e, high, false, _, _, rfl, hsc⟩
  · rintro σ H' ⟨e, high, quo, s7, s8, rfl, hsc⟩
    rw [hsz, List.drop_length, scanD] at hsc
    cases hsc
end
end K96
end

section
set_option Elab.async false
set_option linter.all false
set_option maxRecDepth 100000
set_option maxHeartbeats 4000000
namespace K96
open PySem PySem.Spec PyProof.Rows L2 CL
/-! The plain law of k96: what is spelt is read back; where it is too deep, both stop at one place. -/
def clean : List Nat → Prop
  | [] => True
  | c :: _ => c = 32 ∨ c = 41 ∨ c = 93 ∨ c = 125
/-- a sign that the scan passes by -/
def dull (c : Nat) : Prop := c ≠ 39 ∧ c ≠ 40 ∧ c ≠ 41 ∧ c ≠ 91 ∧ c ≠ 93 ∧ c ≠ 123 ∧ c ≠ 125
theorem isSm_iff {c : Nat} : isSm c = true ↔ 97 ≤ c ∧ c ≤ 122 := by simp [isSm]
theorem sm_dull {c : Nat} (h : isSm c = true) : dull c := by
  have := isSm_iff.mp h
  unfold dull; omega
theorem clean_sm {r : List Nat} (h : clean r) : r.takeWhile isSm = [] ∧ r.dropWhile isSm = r := by
  cases r with
  | nil => exact ⟨rfl, rfl⟩
  | cons c r =>
    have hc : isSm c = false := by
      have h : c = 32 ∨ c = 41 ∨ c = 93 ∨ c = 125 := h
      rcases h with rfl | rfl | rfl | rfl <;> rfl
    exact ⟨List.takeWhile_cons_of_neg (by simp [hc]), List.dropWhile_cons_of_neg (by simp [hc])⟩
theorem clean_fig {r : List Nat} (h : clean r) : r.takeWhile isFig = [] ∧ r.dropWhile isFig = r := by
  cases r with
  | nil => exact ⟨rfl, rfl⟩
  | cons c r =>
    have hc : isFig c = false := by
      have h : c = 32 ∨ c = 41 ∨ c = 93 ∨ c = 125 := h
      rcases h with rfl | rfl | rfl | rfl <;> rfl
    exact ⟨List.takeWhile_cons_of_neg (by simp [hc]), List.dropWhile_cons_of_neg (by simp [hc])⟩
theorem tw_app {p : Nat → Bool} {x r : List Nat} (h : ∀ c ∈ x, p c = true) : (x ++ r).takeWhile p = x ++ r.takeWhile p ∧ (x ++ r).dropWhile p = r.dropWhile p := by
  induction x with
  | nil => exact ⟨rfl, rfl⟩
  | cons c x ih =>
    have hc := h c (by simp)
    obtain ⟨h1, h2⟩ := ih fun d hd => h d (by simp [hd])
    rw [List.cons_append, List.takeWhile_cons_of_pos hc, List.dropWhile_cons_of_pos hc, h1, h2]
    exact ⟨rfl, rfl⟩
theorem bare_facts {x : List Nat} (h : bare x = true) : x ≠ [] ∧ kept x = none ∧ ∀ c ∈ x, isSm c = true := by
  unfold bare at h
  simp only [Bool.and_eq_true, Bool.not_eq_true', decide_eq_false_iff_not, Option.isNone_iff_eq_none, List.all_eq_true] at h
  exact ⟨h.1, h.2.1, h.2.2⟩
/-! ### words -/
theorem q_other {acc r : List Nat} {c : Nat} (h1 : c ≠ 39) (h2 : c ≠ 10) (h3 : c ≠ 94) : qLoop acc (c :: r) = qLoop (acc ++ [c]) r := by
  rw [qLoop]
  · exact fun h => h1 h
  · exact fun h => h2 h
  · exact fun h _ => h3 h
  · exact fun _ _ h => (h3 h).elim
theorem q_word (r : List Nat) : ∀ (x acc : List Nat), qLoop acc (x.flatMap sg ++ 39 :: r) = .ok (acc ++ x) r
  | [], acc => by rw [List.append_nil]; rfl
  | c :: x, acc => by
    have ih := q_word r x (acc ++ [c])
    rw [List.append_assoc] at ih
    rw [List.flatMap_cons, List.append_assoc]
    by_cases h1 : c = 10
    · subst h1
      exact ih
    by_cases h2 : c = 39
    · subst h2
      exact ih
    by_cases h3 : c = 94
    · subst h3
      exact ih
    have e : sg c = [c] := by simp [sg, h1, h2, h3]
    rw [e, List.cons_append, List.nil_append, q_other h2 h1 h3]
    exact ih
theorem word_q {x : List Nat} (h : bare x = false) (r : List Nat) : word x ++ r = 39 :: (x.flatMap sg ++ 39 :: r) := by
  unfold word
  rw [h]
  simp
theorem word_b {x : List Nat} (h : bare x = true) : word x = x := by unfold word; rw [if_pos h]
theorem rdQuo_word {x : List Nat} (h : bare x = false) (r : List Nat) : rdQuo (word x ++ r) = .ok x r := by
  rw [word_q h]
  unfold rdQuo
  rw [List.tail_cons, q_word]
  simp [h]
theorem word_head (x : List Nat) : ∃ c t, word x = c :: t ∧ (c = 39 ∨ isSm c = true) ∧ (c = 39 ↔ bare x = false) := by
  cases h : bare x with
  | false => exact ⟨39, _, by have := word_q h []; rw [List.append_nil] at this; exact this, .inl rfl, by simp⟩
  | true =>
    obtain ⟨h0, _, h2⟩ := bare_facts h
    rw [word_b h]
    cases x with
    | nil => exact (h0 rfl).elim
    | cons c t =>
      have hc := h2 c (by simp)
      refine ⟨c, t, rfl, .inr hc, ⟨fun z => ?_, nofun⟩⟩
      subst z
      cases hc
theorem rdKey_word {x r : List Nat} {ah : Option (List Nat)} (h : ∀ a, ah = some a → a < x) : rdKey ah (word x ++ 32 :: r) = .ok x (32 :: r) := by
  unfold rdKey
  obtain ⟨c, t, e, _, hq⟩ := word_head x
  cases hb : bare x with
  | false =>
    have hc := hq.mpr hb
    have h39 : begins 39 (word x ++ 32 :: r) = true := by rw [e, hc]; rfl
    rw [if_pos h39, rdQuo_word hb]
    cases ah with
    | none => simp [h39]
    | some a => simp [h39, h a rfl]
  | true =>
    have hc : c ≠ 39 := fun z => by rw [hq.mp z] at hb; cases hb
    have h39 : begins 39 (word x ++ 32 :: r) = false := by rw [e]; exact decide_eq_false hc
    obtain ⟨_, _, h2⟩ := bare_facts hb
    obtain ⟨g1, g2⟩ := tw_app (p := isSm) (r := 32 :: r) h2
    rw [h39, word_b hb, g1, g2]
    have f1 : (32 :: r).takeWhile isSm = [] := List.takeWhile_cons_of_neg (by decide)
    have f2 : (32 :: r).dropWhile isSm = 32 :: r := List.dropWhile_cons_of_neg (by decide)
    rw [f1, f2, List.append_nil]
    cases ah with
    | none => simp [hb]
    | some a => simp [hb, h a rfl]
/-! ### numbers -/
theorem fig_iff {c : Nat} : isFig c = true ↔ 48 ≤ c ∧ c ≤ 57 := by simp [isFig]
theorem numL_fig {n : Nat} : ∀ c ∈ TL.numL n, isFig c = true := fun c hc => fig_iff.mpr (TL.numL_digits n c hc)
theorem numL_head : ∀ (n : Nat), n ≠ 0 → ∃ c t, TL.numL n = c :: t ∧ 49 ≤ c ∧ c ≤ 57 := by
  intro n
  induction n using Nat.strongRecOn with
  | ind n ih =>
    intro h0
    by_cases h : n < 10
    · exact ⟨48 + n, [], TL.numL_lt h, by omega, by omega⟩
    · obtain ⟨c, t, e, h1, h2⟩ := ih (n / 10) (by omega) (by omega)
      exact ⟨c, t ++ [48 + n % 10], by rw [TL.numL_step (by omega), e]; rfl, h1, h2⟩
theorem rdNum_num {i : Int} (hi : i.natAbs < 10 ^ 500) {r : List Nat} (hr : clean r) : rdNum (num i ++ r) = .ok i r := by
  obtain ⟨c1, c2⟩ := clean_fig hr
  have pos : ∀ (n : Nat), n ≠ 0 → n < 10 ^ 500 → ∃ c t, TL.numL n ++ r = c :: t ∧ (decide (49 ≤ c) && decide (c ≤ 57)) = true ∧ (TL.numL n ++ r).takeWhile isFig = TL.numL n ∧ (TL.numL n ++ r).dropWhile isFig = r ∧ (TL.numL n).length ≤ 600 ∧ c ≠ 45 ∧ c ≠ 48 := by
    intro n h0 hn
    obtain ⟨c, t, e, h1, h2⟩ := numL_head n h0
    obtain ⟨g1, g2⟩ := tw_app (p := isFig) (r := r) (numL_fig (n := n))
    refine ⟨c, t ++ r, by rw [e]; rfl, by simp [h1, h2], by rw [g1, c1, List.append_nil], by rw [g2, c2], ?_, by omega, by omega⟩
    have := TL.numL_len (n := n) (k := 500) (by decide) hn
    omega
  unfold rdNum
  cases i with
  | ofNat n =>
    have e0 : num (Int.ofNat n) = TL.numL n := num_nat n
    rw [e0]
    by_cases h0 : n = 0
    · subst h0
      have : TL.numL 0 = [48] := TL.numL_lt (by decide)
      rw [this]
      rfl
    · obtain ⟨c, t, e, h1, g1, g2, g3, g4, g5⟩ := pos n h0 hi
      have b45 : begins 45 (TL.numL n ++ r) = false := by rw [e]; exact decide_eq_false g4
      have b48 : begins 48 (TL.numL n ++ r) = false := by rw [e]; exact decide_eq_false g5
      have ee : eat 45 (TL.numL n ++ r) = TL.numL n ++ r := by unfold eat; rw [b45]; rfl
      rw [e] at b45 b48 ee g1 g2 ⊢
      simp only [b45, b48, ee, g1, g2, h1, g3, Bool.and_false, Bool.false_eq_true, if_false, if_true, TL.numL_val]
      rfl
  | negSucc n =>
    rw [num_neg]
    obtain ⟨c, t, e, h1, g1, g2, g3, g4, g5⟩ := pos (n + 1) (by omega) (by omega)
    have b45 : begins 45 (45 :: TL.numL (n + 1) ++ r) = true := rfl
    have ee : eat 45 (45 :: TL.numL (n + 1) ++ r) = TL.numL (n + 1) ++ r := rfl
    rw [e] at ee g1 g2
    simp only [b45, ee, g1, g2, h1, g3, Bool.not_true, Bool.false_and, Bool.false_eq_true, if_false, if_true, TL.numL_val]
    congr 1
theorem num_dull (i : Int) : ∀ c ∈ num i, dull c := by
  have h : ∀ n, ∀ c ∈ TL.numL n, dull c := fun n c hc => by
    have := fig_iff.mp (numL_fig c hc)
    unfold dull; omega
  cases i with
  | ofNat n => rw [show Int.ofNat n = ((n : Nat) : Int) from rfl, num_nat]; exact h n
  | negSucc n =>
    rw [num_neg]
    intro c hc
    rcases List.mem_cons.mp hc with rfl | hc
    · unfold dull; omega
    · exact h _ c hc
theorem num_head (i : Int) : ∃ c t, num i = c :: t ∧ (c = 45 ∨ 48 ≤ c ∧ c ≤ 57) := by
  have h : ∀ n, ∃ c t, TL.numL n = c :: t ∧ (c = 45 ∨ 48 ≤ c ∧ c ≤ 57) := fun n => by
    cases e : TL.numL n with
    | nil => exact (TL.numL_ne n e).elim
    | cons c t => exact ⟨c, t, rfl, .inr (fig_iff.mp (numL_fig (n := n) c (by rw [e]; simp)))⟩
  cases i with
  | ofNat n => rw [show Int.ofNat n = ((n : Nat) : Int) from rfl, num_nat]; exact h n
  | negSucc n => rw [num_neg]; exact ⟨45, _, rfl, .inl rfl⟩
/-! ### the scan -/
theorem scan_dull {line : List Nat} {many : Nat} {high : Int} {rest : List Nat} : ∀ (t : List Nat) (i : Nat), (∀ c ∈ t, dull c) → scanD line many i high false (t ++ rest) = scanD line many (i + t.length) high false rest
  | [], i, _ => rfl
  | c :: t, i, h => by
    obtain ⟨h1, h2, h3, h4, h5, h6, h7⟩ := h c (by simp)
    have ih := scan_dull (line := line) (many := many) (high := high) (rest := rest) t (i + 1) fun d hd => h d (by simp [hd])
    rw [List.cons_append, scanD, if_neg (fun z => h1 z.1), if_neg (by rintro ⟨_, z | z | z⟩ <;> contradiction), if_neg (by rintro ⟨_, z | z | z⟩ <;> contradiction), ih, List.length_cons]
    congr 1
    omega
theorem scan_q {line : List Nat} {many i c : Nat} {high : Int} {r : List Nat} (h : c = 39 → i ≠ 0 ∧ car (line.take i) % 2 ≠ 0) : scanD line many i high true (c :: r) = scanD line many (i + 1) high true r := by
  rw [scanD, if_neg, if_neg (fun z => by cases z.1), if_neg (fun z => by cases z.1)]
  rintro ⟨h1, z | z | z⟩
  · exact (h h1).1 z
  · cases z
  · exact (h h1).2 z
theorem car_snoc (l : List Nat) (c : Nat) : car (l ++ [c]) = if c = 94 then car l + 1 else 0 := by
  unfold car
  rw [List.reverse_append]
  show ((c :: l.reverse).takeWhile _).length = _
  by_cases h : c = 94
  · rw [List.takeWhile_cons_of_pos (by simp [h]), if_pos h]
    rfl
  · rw [List.takeWhile_cons_of_neg (by simp [h]), if_neg h]
    rfl
theorem drop_cons {line r : List Nat} {i c : Nat} (h : line.drop i = c :: r) : line.take (i + 1) = line.take i ++ [c] ∧ line.drop (i + 1) = r := by
  have hi : i < line.length := by
    rcases Nat.lt_or_ge i line.length with h1 | h1
    · exact h1
    · rw [List.drop_eq_nil_of_le h1] at h; cases h
  rw [List.drop_eq_getElem_cons hi] at h
  obtain ⟨h1, h2⟩ := List.cons.inj h
  exact ⟨by rw [List.take_add_one, List.getElem?_eq_getElem hi, h1]; rfl, h2⟩
theorem drop_app {line t r : List Nat} {i : Nat} (h : line.drop i = t ++ r) : line.drop (i + t.length) = r := by
  rw [← List.drop_drop, h, List.drop_left]
theorem scan_quo {line : List Nat} {many : Nat} {high : Int} {rest : List Nat} : ∀ (x : List Nat) (i : Nat), 0 < i → car (line.take i) % 2 = 0 → line.drop i = x.flatMap sg ++ 39 :: rest →
    scanD line many i high true (x.flatMap sg ++ 39 :: rest) = scanD line many (i + (x.flatMap sg).length + 1) high false rest
  | [], i, h0, hc, _ => by
    show scanD line many i high true (39 :: rest) = _
    rw [scanD, if_pos ⟨rfl, .inr (.inr hc)⟩]
    rfl
  | c :: x, i, h0, hc, hd => by
    rw [List.flatMap_cons, List.append_assoc] at hd ⊢
    have ih := scan_quo (line := line) (many := many) (high := high) (rest := rest) x
    have two : ∀ a, sg c = [94, a] → ((car (line.take i) + 1) % 2 ≠ 0) → scanD line many i high true (sg c ++ (x.flatMap sg ++ 39 :: rest)) = scanD line many (i + (sg c ++ x.flatMap sg).length + 1) high false rest := by
      intro a e hodd
      rw [e] at hd ⊢
      rw [List.cons_append, List.cons_append, List.nil_append] at hd ⊢
      obtain ⟨t1, d1⟩ := drop_cons hd
      obtain ⟨t2, d2⟩ := drop_cons d1
      have c1 : car (line.take (i + 1)) = car (line.take i) + 1 := by rw [t1, car_snoc, if_pos rfl]
      rw [scan_q (fun z => by cases z), scan_q (fun _ => ⟨by omega, by rw [c1]; exact hodd⟩), ih (i + 1 + 1) (by omega) ?_ d2]
      · congr 1
        simp only [List.length_cons, List.length_append, List.length_nil]
        omega
      · rw [t2, car_snoc]
        split
        · rw [c1]; omega
        · rfl
    have hodd : (car (line.take i) + 1) % 2 ≠ 0 := by omega
    by_cases h1 : c = 10
    · subst h1
      exact two 110 rfl hodd
    by_cases h2 : c = 39
    · subst h2
      exact two 39 rfl hodd
    by_cases h3 : c = 94
    · subst h3
      exact two 94 rfl hodd
    have e : sg c = [c] := by simp [sg, h1, h2, h3]
    rw [e] at hd ⊢
    rw [List.cons_append, List.nil_append] at hd ⊢
    obtain ⟨t1, d1⟩ := drop_cons hd
    rw [scan_q (fun z => (h2 z).elim), ih (i + 1) (by omega) (by rw [t1, car_snoc, if_neg h3]) d1]
    congr 1
    simp only [List.length_cons, List.length_append, List.length_nil]
    omega
theorem scan_word {line : List Nat} {many : Nat} {high : Int} {rest : List Nat} (x : List Nat) (i : Nat) (hd : line.drop i = word x ++ rest) :
    scanD line many i high false (word x ++ rest) = scanD line many (i + (word x).length) high false rest := by
  cases hb : bare x with
  | true =>
    rw [word_b hb]
    exact scan_dull x i fun c hc => sm_dull ((bare_facts hb).2.2 c hc)
  | false =>
    rw [word_q hb] at hd ⊢
    obtain ⟨t1, d1⟩ := drop_cons hd
    rw [scanD, if_pos ⟨rfl, .inr (.inl rfl)⟩]
    show scanD line many (i + 1) high true _ = _
    rw [scan_quo x (i + 1) (by omega) (by rw [t1, car_snoc]; rfl) d1]
    have hl := congrArg List.length (word_q hb [])
    simp only [List.append_nil, List.length_cons, List.length_append, List.length_nil] at hl
    congr 1
    omega
/-! ### the law -/
def tl (ds : List D) : List Nat := ds.flatMap fun d => 32 :: spell d
def tlP : List (List Nat) → List D → List Nat
  | k :: ks, d :: ds => 32 :: (word k ++ 32 :: (spell d ++ tlP ks ds))
  | _, _ => []
theorem jn_tl : ∀ (ds : List D) (d : D), jn (spells (d :: ds)) = spell d ++ tl ds
  | [], d => by simp [spells, jn, TL.joinL, tl]
  | e :: ds, d => by
    have ih := jn_tl ds e
    unfold jn at ih ⊢
    rw [spells] at ih ⊢
    rw [spells]
    show spell d ++ ([32] ++ TL.joinL [32] (spell e :: spells ds)) = _
    rw [ih]
    simp [tl]
theorem jn_tlP : ∀ (ks : List (List Nat)) (ds : List D) (k : List Nat) (d : D), jn (List.zipWith (fun k t => word k ++ 32 :: t) (k :: ks) (spells (d :: ds))) = word k ++ 32 :: (spell d ++ tlP ks ds)
  | [], ds, k, d => by simp [spells, jn, TL.joinL, tlP]
  | k2 :: ks, [], k, d => by simp [spells, jn, TL.joinL, tlP]
  | k2 :: ks, e :: ds, k, d => by
    have ih := jn_tlP ks ds k2 e
    unfold jn at ih ⊢
    rw [spells, List.zipWith_cons_cons] at ih ⊢
    rw [spells, List.zipWith_cons_cons]
    show (word k ++ 32 :: spell d) ++ ([32] ++ TL.joinL [32] ((word k2 ++ 32 :: spell e) :: List.zipWith _ ks (spells ds))) = _
    rw [ih]
    simp [tlP]
theorem spell_head (d : D) : ∃ c t, spell d = c :: t ∧ c ≠ 32 ∧ c ≠ 41 ∧ c ≠ 93 ∧ c ≠ 125 := by
  cases d with
  | non => exact ⟨110, _, rfl, by decide, by decide, by decide, by decide⟩
  | bl b => cases b <;> exact ⟨_, _, rfl, by decide, by decide, by decide, by decide⟩
  | int i =>
    obtain ⟨c, t, e, h⟩ := num_head i
    exact ⟨c, t, e, by omega, by omega, by omega, by omega⟩
  | str x =>
    obtain ⟨c, t, e, h, _⟩ := word_head x
    refine ⟨c, t, e, ?_⟩
    rcases h with rfl | h
    · exact ⟨by decide, by decide, by decide, by decide⟩
    · have := isSm_iff.mp h
      exact ⟨by omega, by omega, by omega, by omega⟩
  | con k ks ds => cases k <;> exact ⟨_, _, rfl, by decide, by decide, by decide, by decide⟩
def Good (d : D) : Prop := ∀ (many n : Nat) (line rest : List Nat) (i : Nat) (high : Int), clean rest → line.drop i = spell d ++ rest → high + n = many →
  (dep d ≤ n ∧ rdThing n (spell d ++ rest) = .ok d rest ∧ scanD line many i high false (spell d ++ rest) = scanD line many (i + (spell d).length) high false rest) ∨
  (n < dep d ∧ ∃ j, j < (spell d).length ∧ rdThing n (spell d ++ rest) = .bad ((spell d ++ rest).drop j) ∧ scanD line many i high false (spell d ++ rest) = some (i + j))
theorem tl_clean (ds : List D) {e : Nat} {rest : List Nat} (he : e = 41 ∨ e = 93 ∨ e = 125) : clean (tl ds ++ e :: rest) := by
  cases ds with
  | nil => exact .inr he
  | cons d ds => exact .inl rfl
theorem tlP_clean (ks : List (List Nat)) (ds : List D) {e : Nat} {rest : List Nat} (he : e = 41 ∨ e = 93 ∨ e = 125) : clean (tlP ks ds ++ e :: rest) := by
  cases ks with
  | nil => exact .inr he
  | cons k ks =>
    cases ds with
    | nil => exact .inr he
    | cons d ds => exact .inl rfl
theorem scan_shut {line : List Nat} {many i : Nat} {high : Int} {e : Nat} {rest : List Nat} (he : e = 41 ∨ e = 93 ∨ e = 125) : scanD line many i high false (e :: rest) = scanD line many (i + 1) (high - 1) false rest := by
  rw [scanD, if_neg (by rintro ⟨z, _⟩; omega), if_neg (by rintro ⟨_, z⟩; omega), if_pos ⟨rfl, he⟩]
theorem scan_blank {line : List Nat} {many i : Nat} {high : Int} {rest : List Nat} : scanD line many i high false (32 :: rest) = scanD line many (i + 1) high false rest :=
  scan_dull [32] i (by simp [dull])
/-- one thing and what stands behind it -/
theorem item_good {ds : List D} {e : Nat} (he : e = 41 ∨ e = 93) {many n : Nat} {line rest : List Nat} {d : D} (hd : Good d)
    (ih : ∀ (i : Nat) (high : Int) (f : Nat) (found : List D), found ≠ [] → ds.length < f → line.drop i = tl ds ++ e :: rest → high + n = many →
    (deps ds ≤ n ∧ rdThings (rdThing n) e f found (tl ds ++ e :: rest) = .ok (found ++ ds) rest ∧ scanD line many i high false (tl ds ++ e :: rest) = scanD line many (i + (tl ds).length + 1) (high - 1) false rest) ∨
    (n < deps ds ∧ ∃ j, j < (tl ds).length ∧ rdThings (rdThing n) e f found (tl ds ++ e :: rest) = .bad ((tl ds ++ e :: rest).drop j) ∧ scanD line many i high false (tl ds ++ e :: rest) = some (i + j)))
    (i : Nat) (high : Int) (f : Nat) (found : List D) (hf : ds.length < f) (hl : line.drop i = spell d ++ (tl ds ++ e :: rest)) (hh : high + n = many) :
    (deps (d :: ds) ≤ n ∧ (match rdThing n (spell d ++ (tl ds ++ e :: rest)) with
      | .ok d r => rdThings (rdThing n) e f (found ++ [d]) r
      | .bad r => .bad r
      | .out => .out) = .ok (found ++ d :: ds) rest ∧ scanD line many i high false (spell d ++ (tl ds ++ e :: rest)) = scanD line many (i + (spell d ++ tl ds).length + 1) (high - 1) false rest) ∨
    (n < deps (d :: ds) ∧ ∃ j, j < (spell d ++ tl ds).length ∧ (match rdThing n (spell d ++ (tl ds ++ e :: rest)) with
      | .ok d r => rdThings (rdThing n) e f (found ++ [d]) r
      | .bad r => .bad r
      | .out => .out) = .bad ((spell d ++ (tl ds ++ e :: rest)).drop j) ∧ scanD line many i high false (spell d ++ (tl ds ++ e :: rest)) = some (i + j)) := by
  rw [deps]
  rcases hd many n line _ i high (tl_clean ds (he.imp_right .inl)) hl hh with ⟨h1, h2, h3⟩ | ⟨h1, j, hj, h2, h3⟩
  · rw [h2, h3]
    rcases ih (i + (spell d).length) high f (found ++ [d]) (by simp) hf (drop_app hl) hh with ⟨g1, g2, g3⟩ | ⟨g1, j, hj, g2, g3⟩
    · refine .inl ⟨Nat.max_le.mpr ⟨h1, g1⟩, by simpa using g2, ?_⟩
      rw [g3, List.length_append]
      congr 1
      omega
    · refine .inr ⟨Nat.lt_of_lt_of_le g1 (Nat.le_max_right ..), (spell d).length + j, by rw [List.length_append]; omega, ?_, ?_⟩
      · simp only [g2]
        rw [← List.drop_drop, List.drop_left]
      · rw [g3]
        congr 1
        omega
  · refine .inr ⟨Nat.lt_of_lt_of_le h1 (Nat.le_max_left ..), j, by rw [List.length_append]; omega, ?_, h3⟩
    rw [h2]
theorem tl_good {e : Nat} (he : e = 41 ∨ e = 93) {many n : Nat} {line rest : List Nat} : ∀ (ds : List D), (∀ d ∈ ds, Good d) → ∀ (i : Nat) (high : Int) (f : Nat) (found : List D), found ≠ [] → ds.length < f → line.drop i = tl ds ++ e :: rest → high + n = many →
    (deps ds ≤ n ∧ rdThings (rdThing n) e f found (tl ds ++ e :: rest) = .ok (found ++ ds) rest ∧ scanD line many i high false (tl ds ++ e :: rest) = scanD line many (i + (tl ds).length + 1) (high - 1) false rest) ∨
    (n < deps ds ∧ ∃ j, j < (tl ds).length ∧ rdThings (rdThing n) e f found (tl ds ++ e :: rest) = .bad ((tl ds ++ e :: rest).drop j) ∧ scanD line many i high false (tl ds ++ e :: rest) = some (i + j))
  | [], hg, i, high, f, found, hfo, hf, hl, hh => by
    obtain ⟨f, rfl⟩ : ∃ m, f = m + 1 := ⟨f - 1, by simp at hf; omega⟩
    refine .inl ⟨Nat.zero_le _, ?_, ?_⟩
    · rw [rdThings, if_pos (by simp [tl, begins]), List.append_nil]
      rfl
    · exact scan_shut (he.imp_right .inl)
  | d :: ds, hg, i, high, f, found, hfo, hf, hl, hh => by
    rw [List.length_cons] at hf
    obtain ⟨f, rfl⟩ : ∃ m, f = m + 1 := ⟨f - 1, by omega⟩
    have e1 : tl (d :: ds) = 32 :: (spell d ++ tl ds) := by simp [tl]
    rw [e1, List.cons_append, List.append_assoc] at hl ⊢
    obtain ⟨t1, d1⟩ := drop_cons hl
    have hb : begins e (32 :: (spell d ++ (tl ds ++ e :: rest))) = false := by
      refine decide_eq_false ?_
      omega
    have hfe : found.isEmpty = false := by cases found with
      | nil => exact (hfo rfl).elim
      | cons _ _ => rfl
    have hstep : rdThings (rdThing n) e (f + 1) found (32 :: (spell d ++ (tl ds ++ e :: rest))) = (match rdThing n (spell d ++ (tl ds ++ e :: rest)) with
      | .ok d r => rdThings (rdThing n) e f (found ++ [d]) r
      | .bad r => .bad r
      | .out => .out) := by
      rw [rdThings, hb, hfe]
      rfl
    rw [hstep, scan_blank]
    rcases item_good he (hg d (by simp)) (tl_good he ds fun x hx => hg x (by simp [hx])) (i + 1) high f found (by omega) d1 hh with ⟨g1, g2, g3⟩ | ⟨g1, j, hj, g2, g3⟩
    · refine .inl ⟨g1, g2, ?_⟩
      rw [g3]
      congr 1
      simp only [List.length_cons, List.length_append]
      omega
    · refine .inr ⟨g1, j + 1, by rw [List.length_cons]; omega, ?_, ?_⟩
      · rw [g2]; rfl
      · rw [g3]
        congr 1
        omega
theorem things_good {e : Nat} (he : e = 41 ∨ e = 93) {many n : Nat} {line rest : List Nat} (ds : List D) (hg : ∀ d ∈ ds, Good d) (i : Nat) (high : Int) (f : Nat) (hf : ds.length < f) (hl : line.drop i = jn (spells ds) ++ e :: rest) (hh : high + n = many) :
    (deps ds ≤ n ∧ rdThings (rdThing n) e f [] (jn (spells ds) ++ e :: rest) = .ok ds rest ∧ scanD line many i high false (jn (spells ds) ++ e :: rest) = scanD line many (i + (jn (spells ds)).length + 1) (high - 1) false rest) ∨
    (n < deps ds ∧ ∃ j, j < (jn (spells ds)).length ∧ rdThings (rdThing n) e f [] (jn (spells ds) ++ e :: rest) = .bad ((jn (spells ds) ++ e :: rest).drop j) ∧ scanD line many i high false (jn (spells ds) ++ e :: rest) = some (i + j)) := by
  obtain ⟨f, rfl⟩ : ∃ m, f = m + 1 := ⟨f - 1, by omega⟩
  cases ds with
  | nil =>
    refine .inl ⟨Nat.zero_le _, ?_, ?_⟩
    · rw [rdThings, if_pos (by simp [spells, jn, TL.joinL, begins])]
      rfl
    · exact scan_shut (he.imp_right .inl)
  | cons d ds =>
    rw [List.length_cons] at hf
    rw [jn_tl, List.append_assoc] at hl ⊢
    have hb : begins e (spell d ++ (tl ds ++ e :: rest)) = false := by
      obtain ⟨c, t, ec, h1, h2, h3, h4⟩ := spell_head d
      rw [ec]
      refine decide_eq_false ?_
      omega
    have hstep : rdThings (rdThing n) e (f + 1) [] (spell d ++ (tl ds ++ e :: rest)) = (match rdThing n (spell d ++ (tl ds ++ e :: rest)) with
      | .ok d r => rdThings (rdThing n) e f ([] ++ [d]) r
      | .bad r => .bad r
      | .out => .out) := by
      rw [rdThings, hb]
      rfl
    rw [hstep]
    exact item_good he (hg d (by simp)) (tl_good he ds fun x hx => hg x (by simp [hx])) i high f [] (by omega) hl hh
abbrev RP := CL.R (List (List Nat) × List D)
theorem pairs_step {p : List Nat → CL.R D} {f : Nat} {ah : Option (List Nat)} {k0 : List (List Nat)} {d0 : List D} {k : List Nat} {r : List Nat} (ha : ∀ a, ah = some a → a < k) :
    rdPairs p (f + 1) ah k0 d0 ((if ah.isSome then [32] else []) ++ (word k ++ 32 :: r)) = (match p r with
      | .ok d r2 => rdPairs p f (some k) (k0 ++ [k]) (d0 ++ [d]) r2
      | .bad r2 => .bad r2
      | .out => .out) := by
  obtain ⟨c, t, e, h, _⟩ := word_head k
  have hc : c ≠ 125 := by
    rcases h with rfl | h
    · decide
    · have := isSm_iff.mp h; omega
  rw [rdPairs]
  cases ah with
  | none =>
    have hb : begins 125 (([] : List Nat) ++ (word k ++ 32 :: r)) = false := by rw [e]; exact decide_eq_false hc
    simp only [Option.isSome_none, Bool.false_eq_true, if_false, hb, Bool.false_and, List.nil_append]
    have hb : begins 125 (word k ++ 32 :: r) = false := hb
    rw [hb, rdKey_word (ah := none) (by simp)]
    rfl
  | some a =>
    simp only [Option.isSome_some, if_true]
    have hb : begins 125 ([32] ++ (word k ++ 32 :: r)) = false := rfl
    have hb2 : begins 32 ([32] ++ (word k ++ 32 :: r)) = true := rfl
    rw [hb, hb2]
    have e1 : ([32] ++ (word k ++ 32 :: r)).tail = word k ++ 32 :: r := rfl
    rw [e1, rdKey_word (ah := some a) (by simpa using ha a rfl)]
    rfl
/-- a pair and what stands behind it -/
theorem pair_good {ks : List (List Nat)} {ds : List D} {many n : Nat} {line rest : List Nat} {k : List Nat} {d : D} (hd : Good d)
    (ih : ∀ (i : Nat) (high : Int) (f : Nat) (k0 : List (List Nat)) (d0 : List D), ds.length < f → line.drop i = tlP ks ds ++ 125 :: rest → high + n = many →
    (deps ds ≤ n ∧ rdPairs (rdThing n) f (some k) k0 d0 (tlP ks ds ++ 125 :: rest) = .ok (k0 ++ ks, d0 ++ ds) rest ∧ scanD line many i high false (tlP ks ds ++ 125 :: rest) = scanD line many (i + (tlP ks ds).length + 1) (high - 1) false rest) ∨
    (n < deps ds ∧ ∃ j, j < (tlP ks ds).length ∧ rdPairs (rdThing n) f (some k) k0 d0 (tlP ks ds ++ 125 :: rest) = .bad ((tlP ks ds ++ 125 :: rest).drop j) ∧ scanD line many i high false (tlP ks ds ++ 125 :: rest) = some (i + j)))
    (i : Nat) (high : Int) (f : Nat) (k0 : List (List Nat)) (d0 : List D) (hf : ds.length < f) (hl : line.drop i = word k ++ 32 :: (spell d ++ (tlP ks ds ++ 125 :: rest))) (hh : high + n = many) :
    (deps (d :: ds) ≤ n ∧ (match rdThing n (spell d ++ (tlP ks ds ++ 125 :: rest)) with
      | .ok d r2 => rdPairs (rdThing n) f (some k) (k0 ++ [k]) (d0 ++ [d]) r2
      | .bad r2 => .bad r2
      | .out => .out) = .ok (k0 ++ k :: ks, d0 ++ d :: ds) rest ∧ scanD line many i high false (word k ++ 32 :: (spell d ++ (tlP ks ds ++ 125 :: rest))) = scanD line many (i + (word k ++ 32 :: (spell d ++ tlP ks ds)).length + 1) (high - 1) false rest) ∨
    (n < deps (d :: ds) ∧ ∃ j, j < (word k ++ 32 :: (spell d ++ tlP ks ds)).length ∧ (match rdThing n (spell d ++ (tlP ks ds ++ 125 :: rest)) with
      | .ok d r2 => rdPairs (rdThing n) f (some k) (k0 ++ [k]) (d0 ++ [d]) r2
      | .bad r2 => .bad r2
      | .out => .out) = .bad ((word k ++ 32 :: (spell d ++ (tlP ks ds ++ 125 :: rest))).drop j) ∧ scanD line many i high false (word k ++ 32 :: (spell d ++ (tlP ks ds ++ 125 :: rest))) = some (i + j)) := by
  have d1 := drop_app hl
  obtain ⟨_, d2⟩ := drop_cons d1
  have hsk : scanD line many i high false (word k ++ 32 :: (spell d ++ (tlP ks ds ++ 125 :: rest))) = scanD line many (i + (word k).length + 1) high false (spell d ++ (tlP ks ds ++ 125 :: rest)) := by
    rw [scan_word k i hl, scan_blank]
  have hdr : ∀ j, (word k ++ 32 :: (spell d ++ (tlP ks ds ++ 125 :: rest))).drop ((word k).length + 1 + j) = (spell d ++ (tlP ks ds ++ 125 :: rest)).drop j := by
    intro j
    rw [Nat.add_assoc, ← List.drop_drop, List.drop_left, Nat.add_comm 1 j]
    rfl
  rw [deps, hsk]
  rcases hd many n line _ _ high (tlP_clean ks ds (.inr (.inr rfl))) d2 hh with ⟨h1, h2, h3⟩ | ⟨h1, j, hj, h2, h3⟩
  · rw [h2, h3]
    rcases ih (i + (word k).length + 1 + (spell d).length) high f (k0 ++ [k]) (d0 ++ [d]) hf (drop_app d2) hh with ⟨g1, g2, g3⟩ | ⟨g1, j, hj, g2, g3⟩
    · refine .inl ⟨Nat.max_le.mpr ⟨h1, g1⟩, by simpa using g2, ?_⟩
      rw [g3]
      congr 1
      simp only [List.length_append, List.length_cons]
      omega
    · refine .inr ⟨Nat.lt_of_lt_of_le g1 (Nat.le_max_right ..), (word k).length + 1 + ((spell d).length + j), by simp only [List.length_append, List.length_cons]; omega, ?_, ?_⟩
      · rw [hdr, ← List.drop_drop, List.drop_left]
        simp only [g2]
      · rw [g3]
        congr 1
        omega
  · refine .inr ⟨Nat.lt_of_lt_of_le h1 (Nat.le_max_left ..), (word k).length + 1 + j, by simp only [List.length_append, List.length_cons]; omega, ?_, ?_⟩
    · rw [hdr, h2]
    · rw [h3]
      congr 1
      omega
theorem tlP_good {many n : Nat} {line rest : List Nat} : ∀ (ks : List (List Nat)) (ds : List D) (k : List Nat), Rises (k :: ks) → ks.length = ds.length → (∀ d ∈ ds, Good d) → ∀ (i : Nat) (high : Int) (f : Nat) (k0 : List (List Nat)) (d0 : List D), ds.length < f → line.drop i = tlP ks ds ++ 125 :: rest → high + n = many →
    (deps ds ≤ n ∧ rdPairs (rdThing n) f (some k) k0 d0 (tlP ks ds ++ 125 :: rest) = .ok (k0 ++ ks, d0 ++ ds) rest ∧ scanD line many i high false (tlP ks ds ++ 125 :: rest) = scanD line many (i + (tlP ks ds).length + 1) (high - 1) false rest) ∨
    (n < deps ds ∧ ∃ j, j < (tlP ks ds).length ∧ rdPairs (rdThing n) f (some k) k0 d0 (tlP ks ds ++ 125 :: rest) = .bad ((tlP ks ds ++ 125 :: rest).drop j) ∧ scanD line many i high false (tlP ks ds ++ 125 :: rest) = some (i + j))
  | [], [], k, hr, hlen, hg, i, high, f, k0, d0, hf, hl, hh => by
    obtain ⟨f, rfl⟩ : ∃ m, f = m + 1 := ⟨f - 1, by simp at hf; omega⟩
    refine .inl ⟨Nat.zero_le _, ?_, ?_⟩
    · rw [rdPairs, if_pos (by simp [tlP, begins]), List.append_nil, List.append_nil]
      rfl
    · exact scan_shut (.inr (.inr rfl))
  | [], d :: ds, k, hr, hlen, hg, i, high, f, k0, d0, hf, hl, hh => by cases hlen
  | k2 :: ks, [], k, hr, hlen, hg, i, high, f, k0, d0, hf, hl, hh => by cases hlen
  | k2 :: ks, d :: ds, k, hr, hlen, hg, i, high, f, k0, d0, hf, hl, hh => by
    rw [List.length_cons] at hf
    rw [List.length_cons, List.length_cons] at hlen
    obtain ⟨f, rfl⟩ : ∃ m, f = m + 1 := ⟨f - 1, by omega⟩
    obtain ⟨hr1, hr2⟩ := List.pairwise_cons.mp hr
    have e1 : tlP (k2 :: ks) (d :: ds) ++ 125 :: rest = 32 :: (word k2 ++ 32 :: (spell d ++ (tlP ks ds ++ 125 :: rest))) := by simp [tlP]
    have e2 : (tlP (k2 :: ks) (d :: ds)).length = (word k2 ++ 32 :: (spell d ++ tlP ks ds)).length + 1 := by rw [tlP, List.length_cons]
    rw [e1] at hl
    rw [e1, e2]
    obtain ⟨t1, d1⟩ := drop_cons hl
    have hstep := pairs_step (p := rdThing n) (f := f) (ah := some k) (k0 := k0) (d0 := d0) (k := k2) (r := spell d ++ (tlP ks ds ++ 125 :: rest)) (fun a ha => by cases ha; exact hr1 _ (by simp))
    have hstep : rdPairs (rdThing n) (f + 1) (some k) k0 d0 (32 :: (word k2 ++ 32 :: (spell d ++ (tlP ks ds ++ 125 :: rest)))) = _ := hstep
    rw [hstep, scan_blank]
    rcases pair_good (hg d (by simp)) (tlP_good ks ds k2 hr2 (by omega) fun x hx => hg x (by simp [hx])) (i + 1) high f k0 d0 (by omega) d1 hh with ⟨g1, g2, g3⟩ | ⟨g1, j, hj, g2, g3⟩
    · refine .inl ⟨g1, g2, ?_⟩
      rw [g3]
      congr 1
      omega
    · refine .inr ⟨g1, j + 1, by omega, ?_, ?_⟩
      · rw [g2]; rfl
      · rw [g3]
        congr 1
        omega
theorem pairs_good {many n : Nat} {line rest : List Nat} (ks : List (List Nat)) (ds : List D) (hr : Rises ks) (hlen : ks.length = ds.length) (hg : ∀ d ∈ ds, Good d) (i : Nat) (high : Int) (f : Nat) (hf : ds.length < f) (z : List Nat) (hz : z = jn (List.zipWith (fun k t => word k ++ 32 :: t) ks (spells ds))) (hl : line.drop i = z ++ 125 :: rest) (hh : high + n = many) :
    (deps ds ≤ n ∧ rdPairs (rdThing n) f none [] [] (z ++ 125 :: rest) = .ok (ks, ds) rest ∧ scanD line many i high false (z ++ 125 :: rest) = scanD line many (i + z.length + 1) (high - 1) false rest) ∨
    (n < deps ds ∧ ∃ j, j < z.length ∧ rdPairs (rdThing n) f none [] [] (z ++ 125 :: rest) = .bad ((z ++ 125 :: rest).drop j) ∧ scanD line many i high false (z ++ 125 :: rest) = some (i + j)) := by
  obtain ⟨f, rfl⟩ : ∃ m, f = m + 1 := ⟨f - 1, by omega⟩
  cases ks with
  | nil =>
    cases ds with
    | cons d ds => cases hlen
    | nil =>
      have : z = [] := by rw [hz]; rfl
      subst this
      refine .inl ⟨Nat.zero_le _, ?_, ?_⟩
      · rw [rdPairs, if_pos (by simp [begins])]
        rfl
      · exact scan_shut (.inr (.inr rfl))
  | cons k ks =>
    cases ds with
    | nil => cases hlen
    | cons d ds =>
      rw [jn_tlP] at hz
      rw [List.length_cons] at hf
      rw [List.length_cons, List.length_cons] at hlen
      have ez : z ++ 125 :: rest = word k ++ 32 :: (spell d ++ (tlP ks ds ++ 125 :: rest)) := by rw [hz]; simp
      have hstep := pairs_step (p := rdThing n) (f := f) (ah := none) (k0 := []) (d0 := []) (k := k) (r := spell d ++ (tlP ks ds ++ 125 :: rest)) nofun
      have hstep : rdPairs (rdThing n) (f + 1) none [] [] (word k ++ 32 :: (spell d ++ (tlP ks ds ++ 125 :: rest))) = _ := hstep
      rw [ez] at hl ⊢
      rw [hstep, hz]
      exact pair_good (hg d (by simp)) (tlP_good ks ds k hr (by omega) fun x hx => hg x (by simp [hx])) i high f [] [] (by omega) hl hh
/-! ### all of it -/
theorem flat_good {d : D} (hd : dep d = 0) (h1 : ∀ n rest, clean rest → rdThing n (spell d ++ rest) = .ok d rest)
    (h2 : ∀ many line i high rest, line.drop i = spell d ++ rest → scanD line many i high false (spell d ++ rest) = scanD line many (i + (spell d).length) high false rest) : Good d :=
  fun many n line rest i high hc hl hh => .inl ⟨by omega, h1 n rest hc, h2 many line i high rest hl⟩
theorem rdThing_small {n : Nat} {w rest : List Nat} (h0 : w ≠ []) (h : ∀ c ∈ w, isSm c = true) (hc : clean rest) : rdThing n (w ++ rest) = .ok ((kept w).getD (.str w)) rest := by
  obtain ⟨g1, g2⟩ := tw_app (p := isSm) (r := rest) h
  obtain ⟨f1, f2⟩ := clean_sm hc
  rw [f1, List.append_nil] at g1
  rw [f2] at g2
  cases w with
  | nil => exact (h0 rfl).elim
  | cons c t =>
    have hs := h c (by simp)
    have h39 : c ≠ 39 := fun z => by subst z; cases hs
    rw [List.cons_append] at g1 g2 ⊢
    rw [rdThing.eq_def]
    dsimp only
    rw [if_neg h39, if_pos hs, g1, g2]
theorem bracket_good {b e : Nat} {d : D} {ds : List D} {z : List Nat} (hb : b = 40 ∨ b = 91 ∨ b = 123) (hs : spell d = b :: (z ++ [e])) (hdep : dep d = 1 + deps ds)
    (h : ∀ (many n : Nat) (line rest : List Nat) (i : Nat) (high : Int), line.drop i = z ++ e :: rest → high + n = many →
      (deps ds ≤ n ∧ rdThing (n + 1) (b :: (z ++ e :: rest)) = .ok d rest ∧ scanD line many i high false (z ++ e :: rest) = scanD line many (i + z.length + 1) (high - 1) false rest) ∨
      (n < deps ds ∧ ∃ j, j < z.length ∧ rdThing (n + 1) (b :: (z ++ e :: rest)) = .bad ((z ++ e :: rest).drop j) ∧ scanD line many i high false (z ++ e :: rest) = some (i + j))) : Good d := by
  intro many n line rest i high hc hl hh
  have es : spell d ++ rest = b :: (z ++ e :: rest) := by rw [hs]; simp
  rw [es] at hl ⊢
  have hscan : scanD line many i high false (b :: (z ++ e :: rest)) = if high = (many : Nat) then some i else scanD line many (i + 1) (high + 1) false (z ++ e :: rest) := by
    rw [scanD, if_neg (by rintro ⟨q, _⟩; omega), if_pos ⟨rfl, hb⟩]
  have hl0 : 0 < (spell d).length := by rw [hs]; simp
  rw [hdep]
  cases n with
  | zero =>
    refine .inr ⟨by omega, 0, hl0, ?_, ?_⟩
    · have n1 : b ≠ 39 := by omega
      have n2 : isSm b = false := by rcases hb with rfl | rfl | rfl <;> rfl
      rw [rdThing, if_neg n1, if_neg (by rw [n2]; simp), if_neg (fun h => h hb)]
      rfl
    · rw [hscan, if_pos (by omega)]
      rfl
  | succ n =>
    rw [hscan, if_neg (by omega)]
    obtain ⟨_, d1⟩ := drop_cons hl
    have hln : (spell d).length = z.length + 2 := by rw [hs]; simp
    rcases h many n line rest (i + 1) (high + 1) d1 (by omega) with ⟨g1, g2, g3⟩ | ⟨g1, j, hj, g2, g3⟩
    · refine .inl ⟨by omega, g2, ?_⟩
      rw [g3]
      have : high + 1 - 1 = high := by omega
      rw [this]
      congr 1
      omega
    · refine .inr ⟨by omega, j + 1, by omega, ?_, ?_⟩
      · rw [g2]; rfl
      · rw [g3]
        congr 1
        omega
theorem jn_cnt (l : List (List Nat)) : l.length ≤ (jn l).length + 1 := by
  have := jn_len l
  omega
theorem seq_good {b e : Nat} {k : Kd} (hbe : b = 40 ∧ e = 41 ∧ k = .tup ∨ b = 91 ∧ e = 93 ∧ k = .lst) {ds : List D} (hg : ∀ d ∈ ds, Good d) : Good (.con k [] ds) := by
  have he : e = 41 ∨ e = 93 := by rcases hbe with ⟨_, h, _⟩ | ⟨_, h, _⟩ <;> omega
  have hb : b = 40 ∨ b = 91 := by rcases hbe with ⟨h, _, _⟩ | ⟨h, _, _⟩ <;> omega
  have hs : spell (.con k [] ds) = b :: (jn (spells ds) ++ [e]) := by rcases hbe with ⟨rfl, rfl, rfl⟩ | ⟨rfl, rfl, rfl⟩ <;> rfl
  refine bracket_good (ds := ds) (by omega) hs (by rw [dep]) fun many n line rest i high hl hh => ?_
  have hf : ds.length < (jn (spells ds) ++ e :: rest).length + 1 := by
    have := jn_cnt (spells ds)
    rw [spells_map, List.length_map] at this
    rw [spells_map, List.length_append, List.length_cons]
    omega
  have hrd : rdThing (n + 1) (b :: (jn (spells ds) ++ e :: rest)) = (match rdThings (rdThing n) e ((jn (spells ds) ++ e :: rest).length + 1) [] (jn (spells ds) ++ e :: rest) with
            | .ok ds r => .ok (.con k [] ds) r
            | .bad r => .bad r
            | .out => .out) := by
    rcases hbe with ⟨rfl, rfl, rfl⟩ | ⟨rfl, rfl, rfl⟩ <;> rfl
  rcases things_good he ds hg i high _ hf hl hh with ⟨g1, g2, g3⟩ | ⟨g1, j, hj, g2, g3⟩
  · exact .inl ⟨g1, by rw [hrd, g2], g3⟩
  · exact .inr ⟨g1, j, hj, by rw [hrd, g2], g3⟩
theorem dct_good {ks : List (List Nat)} {ds : List D} (hr : Rises ks) (hlen : ks.length = ds.length) (hg : ∀ d ∈ ds, Good d) : Good (.con .dct ks ds) := by
  refine bracket_good (ds := ds) (z := jn (List.zipWith (fun k t => word k ++ 32 :: t) ks (spells ds))) (e := 125) (.inr (.inr rfl)) (by rw [spell]) (by rw [dep]) fun many n line rest i high hl hh => ?_
  have hf : ds.length < (jn (List.zipWith (fun k t => word k ++ 32 :: t) ks (spells ds)) ++ 125 :: rest).length + 1 := by
    have := jn_cnt (List.zipWith (fun k t => word k ++ 32 :: t) ks (spells ds))
    rw [List.length_zipWith, spells_map, List.length_map] at this
    rw [spells_map, List.length_append, List.length_cons]
    omega
  generalize hz : jn (List.zipWith (fun k t => word k ++ 32 :: t) ks (spells ds)) = z at *
  have hrd : rdThing (n + 1) (123 :: (z ++ 125 :: rest)) = (match rdPairs (rdThing n) ((z ++ 125 :: rest).length + 1) none [] [] (z ++ 125 :: rest) with
            | .ok (ks, ds) r => .ok (.con .dct ks ds) r
            | .bad r => .bad r
            | .out => .out) := rfl
  rcases pairs_good ks ds hr hlen hg i high _ hf z hz.symm hl hh with ⟨g1, g2, g3⟩ | ⟨g1, j, hj, g2, g3⟩
  · exact .inl ⟨g1, by rw [hrd, g2], g3⟩
  · exact .inr ⟨g1, j, hj, by rw [hrd, g2], g3⟩
mutual
theorem good : ∀ (d : D), okD d → Good d
  | .non, _ => flat_good rfl (fun n rest hc => rdThing_small (w := wNone) (by decide) (by decide) hc) fun many line i high rest _ => scan_dull wNone i (by intro c hc; exact sm_dull (by revert c; decide))
  | .bl true, _ => flat_good rfl (fun n rest hc => rdThing_small (w := wYes) (by decide) (by decide) hc) fun many line i high rest _ => scan_dull wYes i (by intro c hc; exact sm_dull (by revert c; decide))
  | .bl false, _ => flat_good rfl (fun n rest hc => rdThing_small (w := wNo) (by decide) (by decide) hc) fun many line i high rest _ => scan_dull wNo i (by intro c hc; exact sm_dull (by revert c; decide))
  | .int i, ok => flat_good rfl (fun n rest hc => by
      have h := rdNum_num ok hc
      obtain ⟨c, t, e, hcc⟩ := num_head i
      show rdThing n (num i ++ rest) = _
      rw [e, List.cons_append] at h ⊢
      have n1 : c ≠ 39 := by omega
      have n2 : isSm c = false := by
        cases z : isSm c with
        | false => rfl
        | true => have := isSm_iff.mp z; omega
      rw [rdThing.eq_def]
      dsimp only
      rw [if_neg n1, if_neg (by rw [n2]; simp), if_pos (by omega), h]) fun many line i' high rest _ => scan_dull (num i) i' (num_dull i)
  | .str x, _ => flat_good rfl (fun n rest hc => by
      show rdThing n (word x ++ rest) = _
      cases hb : bare x with
      | true =>
        obtain ⟨h0, hk, hs⟩ := bare_facts hb
        rw [word_b hb, rdThing_small h0 hs hc, hk]
        rfl
      | false =>
        have h := rdQuo_word hb rest
        rw [word_q hb] at h ⊢
        rw [rdThing.eq_def]
        dsimp only
        rw [if_pos rfl, h]) fun many line i high rest hl => scan_word x i hl
  | .con .tup ks ds, ok => by
    obtain ⟨rfl, ok⟩ : ks = [] ∧ okDs ds := ok
    exact seq_good (.inl ⟨rfl, rfl, rfl⟩) (goods ds ok)
  | .con .lst ks ds, ok => by
    obtain ⟨rfl, ok⟩ : ks = [] ∧ okDs ds := ok
    exact seq_good (.inr ⟨rfl, rfl, rfl⟩) (goods ds ok)
  | .con .dct ks ds, ok => dct_good ok.1 ok.2.1 (goods ds ok.2.2.2)
theorem goods : ∀ (ds : List D), okDs ds → ∀ d ∈ ds, Good d
  | [], _, d, h => by simp at h
  | e :: ds, ok, d, h => by
    rcases List.mem_cons.mp h with h | h
    · rw [h]; exact good e ok.1
    · exact goods ds ok.2 d h
end
/-- what is spelt is read -/
theorem rd_ok {d : D} {n : Nat} (ok : okD d) (h : dep d ≤ n) : rdThing n (spell d) = .ok d [] := by
  rcases good d ok n n (spell d) [] 0 0 trivial (by simp) (by omega) with ⟨_, h2, _⟩ | ⟨h1, _⟩
  · rw [List.append_nil] at h2; exact h2
  · omega
/-- too deep: the place -/
theorem rd_deep {d : D} {n : Nat} (ok : okD d) (h : n < dep d) : ∃ r, rdThing n (spell d) = .bad r ∧ r.length ≤ (spell d).length ∧ scanD (spell d) n 0 0 false (spell d) = some ((spell d).length - r.length) := by
  rcases good d ok n n (spell d) [] 0 0 trivial (by simp) (by omega) with ⟨h1, _⟩ | ⟨_, j, hj, h2, h3⟩
  · omega
  · rw [List.append_nil] at h2 h3
    refine ⟨_, h2, by rw [List.length_drop]; omega, ?_⟩
    rw [h3, List.length_drop]
    congr 1
    omega
end K96
end

section
set_option Elab.async false
set_option linter.all false
set_option maxRecDepth 100000
set_option maxHeartbeats 4000000
open PySem PySem.Spec PyProof.Rows L2 CL
local macro_rules | `(tactic| walk_at "rd1") => `(tactic| first
  | (with_reducible refine g_seq ?_) | ((with_reducible apply g_var); rfl) | (with_reducible refine g_c ?_) | (with_reducible refine g_op ?_) | (with_reducible refine g_cons ?_) | (with_reducible refine g_nil ?_)
  | (with_reducible refine g_if ?_) | (with_reducible refine g_ct ?_) | (with_reducible refine g_tr ?_) | (with_reducible refine g_and ?_) | (with_reducible refine g_or ?_) | (with_reducible refine g_not ?_)
  | (with_reducible refine asB_bl ?_) | (with_reducible refine tru_bl ?_) | (with_reducible refine g_ret ?_) | (with_reducible refine g_set ?_) | (with_reducible refine g_fn ?_) | (with_reducible refine g_call ?_)
  | (with_reducible refine g_meth ?_) | (with_reducible refine g_fld ?_) | (with_reducible refine nx_seq ?_) | (with_reducible refine nx_loop ?_) | (with_reducible refine nx_top ?_) | (with_reducible refine rt_seq ?_)
  | (with_reducible refine rt_loop ?_) | (with_reducible refine rt_top ?_) | (with_reducible refine bk_seq ?_) | (with_reducible refine bk_loop ?_) | (with_reducible refine ct_seq ?_) | (with_reducible refine ct_loop ?_)
  | (with_reducible refine g_end ?_) | (with_reducible refine uAdd_i ?_) | (with_reducible refine uSub_i ?_) | (with_reducible refine uEq_i ?_) | (with_reducible refine uEq_s ?_) | (with_reducible refine uNe_i ?_) | (with_reducible refine uNe_s ?_)
  | (with_reducible refine uLt_i ?_) | (with_reducible refine uLe_i ?_) | (with_reducible refine uGt_i ?_) | (with_reducible refine uGe_i ?_) | (with_reducible refine uIs_n ?_) | (with_reducible refine uIsNot_n ?_)
  | (with_reducible refine g_tup ?_) | (with_reducible refine g_lst ?_) | (with_reducible refine g_sl ?_) | (with_reducible refine g_no ?_) | (with_reducible refine g_part ?_) | (with_reducible refine g_ifE ?_) | (with_reducible refine g_ofT ?_)
  | (with_reducible refine g_unp2 ?_) | (with_reducible refine g_put ?_) | (with_reducible refine g_retN ?_) | (with_reducible refine g_drop ?_) | (with_reducible refine g_brk ?_) | (with_reducible refine g_cnt ?_) | (with_reducible refine iAdd_i ?_)
  | ((with_reducible apply g_aug); rfl) | (with_reducible refine g_sto ?_) | (with_reducible refine g_stoA ?_) | (with_reducible refine g_for ?_) | (with_reducible refine g_wh ?_) | (with_reducible refine g_rs ?_) | (with_reducible refine g_rsX ?_)
  | (with_reducible refine g_g ?_) | (with_reducible refine g_g2 ?_) | (with_reducible refine g_callN ?_) | (with_reducible refine g_app ?_) | (with_reducible refine g_join ?_) | (with_reducible refine strA_i ?_) | (with_reducible refine g_it ?_)
  | (with_reducible refine itR_s ?_) | (with_reducible refine g_rng ?_) | (with_reducible refine g_vals ?_) | (with_reducible refine g_zip ?_) | (with_reducible refine g_rep ?_) | (with_reducible refine g_new ?_) | (with_reducible refine g_disp ?_)
  | (with_reducible refine g_andV ?_) | (with_reducible refine g_orV ?_) | (with_reducible refine g_notV ?_) | (with_reducible refine g_un ?_) | (with_reducible refine uNeg_i ?_) | (with_reducible refine g_yes ?_) | (with_reducible refine g_make ?_)
  | (with_reducible refine g_try ?_) | (with_reducible refine g_lc ?_) | (with_reducible refine intR_b ?_) | (with_reducible refine minR_i ?_) | (with_reducible refine tru_int ?_))
local macro_rules | `(tactic| walk_at "rd") => `(tactic| repeat (walk_at "rd1"))
namespace K96
open PySem PySem.Spec PyProof.Rows L2 CL
def sp_law (K : PySem.W.Frag) : Sp := sp1 fun v H Q _ => ∃ (s : Addr) (ns : List Int), v = .ref s ∧ SqL K H s (ns.map V.int) ∧ ∀ H', Q (.bl true) H'
def in_law (K : PySem.W.Frag) (w : World) (sp__law_spelt sp_paper_text sp_read_paper sp__law_like : Sp) (W : WX) : TS := (xSeq (xSet 7 (xOp (uIx K w) (xLst (xCons (xCall sp_paper_text [.int 40] W (xCons (xVar 3) xNil)) (xCons (xCallN 0 2 sp_paper_text (fun _ zs => [zs.getD 1 .non, zs.getD 0 .non]) W xNil (xCons (xOp (uAdd K) (xVar 5) (xVar 2)) (xCons (xVar 3) xNil))) xNil))) (xVar 6)))
    (xSeq (xSet 8 (xOp (uIx K w) (xLst (xCons (xCall sp_read_paper [.int 40] W (xCons (xVar 4) xNil)) (xCons (xCallN 0 2 sp_read_paper (fun _ zs => [zs.getD 1 .non, zs.getD 0 .non]) W xNil (xCons (xVar 5) (xCons (xVar 4) xNil))) xNil))) (xVar 6)))
    (xSeq (xIf (xOr (xNot (xTr K (xFn (isiR K) (xCons (xVar 7) (xCons (xC (.ty "str")) xNil))))) (xOr (xCt (xOp (uNe K) (xVar 7) (xVar 4))) (xOr (xNot (xTr K (xCall sp__law_like [] W (xCons (xVar 8) (xCons (xVar 3) xNil))))) (xCt (xOp (uNe K) (xCall sp__law_spelt [] W (xCons (xVar 3) xNil)) (xVar 4))))))
    (xRet (xC (.bl false)))
    xEnd)
    (xIf (xTr K (xFn (isiR K) (xCons (xVar 8) (xCons (xC (.ty "list")) xNil))))
    (xDrop (xApp K (xVar 8) (xC (.int 7))))
    xEnd))))
def tl_law (K : PySem.W.Frag) (w : World) (sp__law_draw sp__law_spelt sp__law_depth sp_paper_text sp_read_paper sp__law_like sp__law_too_deep : Sp) (W : WX) : TS := (xSeq (xSet 4 (xCall sp__law_spelt [] W (xCons (xVar 3) xNil)))
    (xSeq (xSet 5 (xCall sp__law_depth [] W (xCons (xVar 3) xNil)))
    (xSeq (xFor (xRng (xC (.int 2))) (xG 6)
    (in_law K w sp__law_spelt sp_paper_text sp_read_paper sp__law_like W))
    (xIf (xAnd (xCt (xOp uGt (xVar 5) (xC (.int 0)))) (xNot (xTr K (xCall sp__law_too_deep [] W (xCons (xVar 3) (xCons (xVar 4) (xCons (xCall sp__law_draw [] W (xCons (xVar 1) (xCons (xVar 5) xNil))) xNil)))))))
    (xRet (xC (.bl false)))
    xEnd))))
theorem of_fresh_keep {H H' : Hp} : Keep (fresh H H') H' := Ext.keep fun _ _ e => (of_fresh e).2
/-- a piece at hand: made since H0 -/
structure Pc (H0 H : Hp) (v : V) (d : D) : Prop where
  ok : okD d
  cp : cpD d
  dp : dep d ≤ 40
  ln : (spell d).length ≤ 45000
  r : Rep (fresh H0 H) v d
theorem Pc.rep {H0 H : Hp} {v : V} {d : D} (k : Pc H0 H v d) : Rep H v d := k.r.mono of_fresh_keep
theorem Pc.px {H0 H H' : Hp} {v : V} {d : D} {p c : Addr} {cs : List Int} {i : Nat} (k : Pc H0 H v d) (u : Pu p c cs i H0) (x : PX p c H H') : Pc H0 H' v d := ⟨k.ok, k.cp, k.dp, k.ln, k.r.mono (px_grow u x)⟩
theorem Pc.ext {H0 H H' : Hp} {v : V} {d : D} {p c : Addr} {cs : List Int} {i : Nat} (k : Pc H0 H v d) (u : Pu p c cs i H0) (x : Ext H H') : Pc H0 H' v d := k.px u (.of x)
section
variable {K : PySem.W.Frag} {w : World} {mg : Str → Option Value}
theorem two_same {x : V} {t : Nat} (h : t < 2) : [x, x][t]? = some x := by
  have : t = 0 ∨ t = 1 := by omega
  rcases this with rfl | rfl <;> rfl
theorem two_of {P : V → Prop} {x y : V} {t : Nat} (h : t < 2) (hx : P x) (hy : P y) : ∃ z, [x, y][t]? = some z ∧ P z := by
  have : t = 0 ∨ t = 1 := by omega
  rcases this with rfl | rfl
  · exact ⟨x, rfl, hx⟩
  · exact ⟨y, rfl, hy⟩
/-- one time: written and read -/
theorem w_in {H0 H : Hp} {v : V} {d : D} {D : Ends} {E : XK} {a1 a2 o7 o8 : Option V} {k : Nat} {j : Nat} {p c : Addr} {cs : List Int} {i : Nat} (pc : Pc H0 H v d) (u : Pu p c cs i H0) (hj : j < 2)
    (q : ∀ H' x y, Ext H H' → dNx D [a1, a2, some (.int (0 + (k : Nat))), some v, some (.str (S (spell d))), some (.int (dep d : Nat)), some (.int (0 + (j : Nat))), some x, some y] H') :
    in_law K w (sp__law_spelt 41) (sp_paper_text K) (sp_read_paper K) (sp__law_like 41) (fun cls d _ H' => E cls d H') D [a1, a2, some (.int (0 + (k : Nat))), some v, some (.str (S (spell d))), some (.int (dep d : Nat)), some (.int (0 + (j : Nat))), o7, o8] H := by
  have hdp := pc.dp
  have hln := pc.ln
  have ej : (0 + (j : Nat) : Int) = (j : Nat) := by omega
  rw [ej] at q ⊢
  unfold in_law
  walk_at "rd"
  refine ⟨v, .int 40, rfl, d, 40, rfl, pc.rep, pc.ok, by omega, by omega, fun _ H1 e1 => ?_, fun h => by omega⟩
  walk_at "rd"
  have ek : ((dep d : Nat) + (0 + (k : Nat)) : Int) = ((dep d + k : Nat) : Int) := by omega
  rw [ek]
  have pc := pc.ext u e1
  refine calN_i rfl rfl ⟨v, .int ((dep d + k : Nat) : Int), rfl, d, dep d + k, rfl, pc.rep, pc.ok, by omega, by omega, fun _ H2 e2 => ?_, fun h => by omega⟩
  have pc := pc.ext u e2
  walk_at "rd"
  refine ⟨sb (by simp), fun b hb => ?_⟩
  walk_at "rd"
  have e3 := Ext.new (o := .lst [.str (S (spell d)), .str (S (spell d))]) hb
  refine uIx_l (SqL.of upd_same) (atI_nat (two_same hj)) ?_
  have pc := pc.ext u e3
  have e13 := (e1.trans e2).trans e3
  generalize upd H2 b (.lst [.str (S (spell d)), .str (S (spell d))]) = H3 at pc e13
  walk_at "rd"
  refine ⟨.str (S (spell d)), .int 40, rfl, spell d, 40, rfl, rfl, by omega, ?_⟩
  have e40 : rdThing (min 40 100) (spell d) = .ok d [] := rd_ok pc.ok hdp
  rw [e40]
  intro H4 x1 e4 r1
  have pc := pc.ext u e4
  walk_at "rd"
  refine calN_i rfl rfl ⟨.str (S (spell d)), .int (dep d : Nat), rfl, spell d, dep d, rfl, rfl, by omega, ?_⟩
  rw [rd_ok pc.ok (show dep d ≤ min (dep d) 100 by omega)]
  intro H5 x2 e5 r2
  have pc := pc.ext u e5
  walk_at "rd"
  refine ⟨sb (by simp), fun b2 hb2 => ?_⟩
  walk_at "rd"
  have e6 := Ext.new (o := .lst [x1, x2]) hb2
  have f1 : Rep (fresh H3 (upd H5 b2 (.lst [x1, x2]))) x1 d := r1.mono (Ext.keep fun a o h => by
    obtain ⟨h1, h2⟩ := of_fresh h
    rw [fresh_at h1]
    exact e6 _ _ (e5 _ _ h2))
  have f2 : Rep (fresh H3 (upd H5 b2 (.lst [x1, x2]))) x2 d := r2.mono (Ext.keep fun a o h => by
    obtain ⟨h1, h2⟩ := of_fresh h
    rw [fresh_at (e4.none h1)]
    exact e6 _ _ h2)
  obtain ⟨y, hy, ry⟩ := two_of (P := fun z => Rep (fresh H3 (upd H5 b2 (.lst [x1, x2]))) z d) hj f1 f2
  refine uIx_l (SqL.of upd_same) (atI_nat hy) ?_
  have pc := pc.ext u e6
  have e16 := ((e13.trans e4).trans e5).trans e6
  have e36 := (e4.trans e5).trans e6
  generalize upd H5 b2 (.lst [x1, x2]) = H6 at pc e16 ry e36
  walk_at "rd"
  refine isi_1 (m := "str") (b := true) (.base (.str _)) (by decide +kernel) ?_
  walk_at "rd"
  refine br_f ?_
  walk_at "rd"
  refine br_c (fun h => by simp at h) (fun _ => ?_)
  walk_at "rd"
  refine like_go (ry.mono of_fresh_keep) pc.rep pc.ok pc.cp hdp (by omega) fun H7 e7 => ?_
  have pc := pc.ext u e7
  walk_at "rd"
  refine br_f ?_
  walk_at "rd"
  refine spelt_go pc.rep pc.ok hdp (by omega) fun H8 e8 => ?_
  have pc := pc.ext u e8
  walk_at "rd"
  refine br_c (fun h => by simp at h) (fun _ => ?_)
  walk_at "rd"
  have e38 := (e36.trans e7).trans e8
  have ry : Rep (fresh H3 H8) y d := ry.mono (Ext.keep fun a o h => by
    obtain ⟨h1, h2⟩ := of_fresh h
    rw [fresh_at h1]
    exact e8 _ _ (e7 _ _ h2))
  by_cases hl : tyN d = "list"
  · refine isiA "list" true (ry.mono of_fresh_keep) hl (by decide +kernel) ?_
    walk_at "rd"
    refine br_t ?_
    walk_at "rd"
    have hz : ∃ a us, y = .ref a ∧ H3 a = none ∧ H8 a = some (.lst us) ∧ us.length ≤ 50000 := by
      cases ry with
      | @lst a us ds h rs =>
        obtain ⟨h1, h2⟩ := of_fresh h
        refine ⟨a, us, rfl, h1, h2, ?_⟩
        have hn : (spell (.con .lst [] ds)).length ≤ 45000 := hln
        have e : spell (.con .lst [] ds) = 91 :: (jn (spells ds) ++ [93]) := rfl
        rw [e] at hn
        have := jn_cnt (spells ds)
        rw [spells_map, List.length_map] at this
        rw [spells_map] at hn
        simp only [List.length_cons, List.length_append, List.length_nil] at hn
        rw [rs.len]
        omega
      | tup => exact absurd hl (by simp [tyN])
      | dct => exact absurd hl (by simp [tyN])
      | non => exact absurd hl (by simp [tyN])
      | bl => exact absurd hl (by simp [tyN])
      | int => exact absurd hl (by simp [tyN])
      | str => exact absurd hl (by simp [tyN])
    obtain ⟨a, us, rfl, ha, hb8, hus⟩ := hz
    refine lstA_i hb8 ?_
    walk_at "rd"
    refine appR_i hb8 (Nat.lt_of_le_of_lt hus (by rw [sizeLine_eq]; omega)) ?_
    walk_at "rd"
    exact q _ _ _ (e13.trans (ext_put e38 ha))
  · have hk : ∃ b, kitB (tyN d) "list" = some b ∧ b = false := by
      cases d with
      | con k ks ds =>
        cases k with
        | lst => exact (hl rfl).elim
        | tup => exact ⟨_, by show kitB "tuple" "list" = some false; decide +kernel, rfl⟩
        | dct => exact ⟨_, by show kitB "dict" "list" = some false; decide +kernel, rfl⟩
      | non => exact ⟨_, by show kitB "NoneType" "list" = some false; decide +kernel, rfl⟩
      | bl => exact ⟨_, by show kitB "bool" "list" = some false; decide +kernel, rfl⟩
      | int => exact ⟨_, by show kitB "int" "list" = some false; decide +kernel, rfl⟩
      | str => exact ⟨_, by show kitB "str" "list" = some false; decide +kernel, rfl⟩
    obtain ⟨b, hk, rfl⟩ := hk
    refine isiA _ false (ry.mono of_fresh_keep) rfl hk ?_
    walk_at "rd"
    refine br_f ?_
    walk_at "rd"
    exact q _ _ _ (e13.trans e38)
theorem w_tail {H0 H : Hp} {v : V} {d : D} {D : Ends} {E : XK} {a1 o4 o5 o6 o7 o8 : Option V} {k : Nat} {p c : Addr} {cs cs0 : List Int} {i i0 : Nat} (pc : Pc H0 H v d) (u0 : Pu p c cs0 i0 H0) (u : Pu p c cs i H) (hi : i ≤ 900000)
    (q : ∀ H' o4 o5 o6 o7 o8 cs' i', Pu p c cs' i' H' → i' ≤ i + 1 → dNx D [a1, some (.ref p), some (.int (0 + (k : Nat))), some v, o4, o5, o6, o7, o8] H') :
    tl_law K w sp__law_draw (sp__law_spelt 41) (sp__law_depth 41) (sp_paper_text K) (sp_read_paper K) (sp__law_like 41) sp__law_too_deep (fun cls d _ H' => E cls d H') D [a1, some (.ref p), some (.int (0 + (k : Nat))), some v, o4, o5, o6, o7, o8] H := by
  unfold tl_law
  walk_at "rd"
  refine spelt_go pc.rep pc.ok pc.dp (by have := pc.ln; omega) fun H1 e1 => ?_
  have pc := pc.ext u0 e1
  have u := u.ext e1
  walk_at "rd"
  refine depth_go pc.rep pc.ok pc.dp (by have := pc.ln; omega) fun H2 e2 => ?_
  have pc := pc.ext u0 e2
  have u := u.ext e2
  walk_at "rd"
  refine rngR_i (by decide) (by decide) ?_
  refine for_w walk_range (fun t σ H' => ∃ o6 o7 o8, σ = [a1, some (.ref p), some (.int (0 + (k : Nat))), some v, some (.str (S (spell d))), some (.int (dep d : Nat)), o6, o7, o8] ∧ Pc H0 H' v d ∧ Pu p c cs i H') ⟨o6, o7, o8, rfl, pc, u⟩ (fun _ _ _ _ _ => trivial) ?_ ?_
  · rintro t x σ H3 H4 ht ⟨o6, o7, o8, rfl, pc3, u3⟩ ⟨rfl, rfl⟩
    have ht : t < 2 := ht
    walk_at "rd"
    refine w_in pc3 u0 ht fun H5 x y e5 => ?_
    walk_at "rd"
    exact ⟨_, _, _, rfl, pc3.ext u0 e5, u3.ext e5⟩
  · rintro σ H3 ⟨o6, o7, o8, rfl, pc3, u3⟩
    walk_at "rd"
    refine br_c (fun h0 => ?_) (fun h0 => ?_)
    rotate_left
    · refine br_f ?_
      walk_at "rd"
      exact q _ _ _ _ _ _ _ _ u3 (by omega)
    have h0 : 0 < dep d := by have := of_decide_eq_true h0; omega
    have hdp := pc3.dp
    have hln := pc3.ln
    walk_at "rd"
    refine draw_go u3 (by omega) (by omega) (by omega) fun H4 cs4 m x4 u4 hm => ?_
    have pc4 := pc3.px u0 x4
    walk_at "rd"
    refine ⟨_, _, _, d, m, rfl, pc4.rep, pc4.ok, by omega, by omega, rfl, rfl, by omega, ?_, fun H5 e5 => ?_⟩
    · obtain ⟨r, h1, h2, h3⟩ := rd_deep (d := d) (n := m) pc4.ok (by omega)
      have em : min m 100 = m := by omega
      exact ⟨r, by rw [em]; exact h1, h2, h3⟩
    · walk_at "rd"
      refine br_f ?_
      walk_at "rd"
      exact q _ _ _ _ _ _ _ _ (u4.ext e5) (by omega)
theorem w_law (M : MF K mg) {H : Hp} {vs : List V} {Q : VK} {E : XK} (h : sp_law K vs H Q E) :
    t_law K w (sp__law_purse K) (sp__law_thing 5) sp__law_nested sp__law_draw (sp__law_spelt 41) (sp__law_depth 41) (sp_paper_text K) (sp_read_paper K) (sp__law_like 41) sp__law_too_deep (fun cls d _ H' => E cls d H') (topE Q) (start N_law vs) H := by
  obtain ⟨v, rfl, s, ns, rfl, hs, q⟩ := h
  unfold t_law
  walk_at "rd"
  refine sp1_go ⟨s, ns, rfl, hs, fun H1 p c cs _ _ _ u => ?_⟩
  walk_at "rd"
  refine br_f ?_
  walk_at "rd"
  refine rngR_i (by decide) (by decide) ?_
  have hbT : bT 4 ≤ 20000 := by decide
  have hbL : bL 4 ≤ 40000 := by decide
  refine for_w walk_range (fun t σ H' => ∃ cs i o2 o3 o4 o5 o6 o7 o8, σ = [some (.ref s), some (.ref p), o2, o3, o4, o5, o6, o7, o8] ∧ Pu p c cs i H' ∧ i ≤ t * 30000) ⟨cs, 0, none, none, none, none, none, none, none, rfl, u, by omega⟩ (fun _ _ _ _ _ => trivial) ?_ ?_
  rotate_left
  · rintro σ H2 ⟨cs2, i2, o2, o3, o4, o5, o6, o7, o8, rfl, u2, hi2⟩
    walk_at "rd"
    exact q H2
  rintro t x σ H2 HZ ht ⟨cs2, i2, o2, o3, o4, o5, o6, o7, o8, rfl, u2, hi2⟩ ⟨rfl, rfl⟩
  have ht : t < 8 := ht
  walk_at "rd"
  refine thing_go (k := 4) (by decide) u2 (by omega) fun H3 v d cs3 i3 x3 u3 hi3 sm r3 => ?_
  have pc : Pc HZ H3 v d := ⟨sm.ok, sm.cp, by have := sm.dp; omega, by have := sm.ln; omega, r3⟩
  walk_at "rd"
  refine uMod_i (by decide) ?_
  walk_at "rd"
  refine br_c (fun h => ?_) (fun h => ?_)
  · walk_at "rd"
    refine ⟨sb (by simp), fun b hb => ?_⟩
    walk_at "rd"
    have e4 := Ext.new (o := .lst [.int 1, .int 2, .int 7, .int 39, .int 40]) hb
    refine draw_go (u3.ext e4) (by omega) (by decide) (by decide) fun H5 cs5 m x5 u5 hm => ?_
    have hbp : b ≠ p := fun z => by rw [z, u3.hp] at hb; cases hb
    have hbc : b ≠ c := fun z => by rw [z, u3.hc] at hb; cases hb
    have hb5 := x5 _ _ hbp hbc upd_same
    have hn : ∃ n : Nat, [V.int 1, .int 2, .int 7, .int 39, .int 40][m]? = some (.int (n : Nat)) ∧ n ≤ 40 := by
      have hm : m < 5 := by omega
      match m, hm with
      | 0, _ => exact ⟨1, rfl, by decide⟩
      | 1, _ => exact ⟨2, rfl, by decide⟩
      | 2, _ => exact ⟨7, rfl, by decide⟩
      | 3, _ => exact ⟨39, rfl, by decide⟩
      | 4, _ => exact ⟨40, rfl, by decide⟩
    obtain ⟨n, hn, hn40⟩ := hn
    refine uIx_l (SqL.of hb5) (atI_nat hn) ?_
    walk_at "rd"
    refine ⟨_, _, rfl, p, c, cs5, i3 + 1, n, rfl, rfl, hn40, u5, by omega, fun H6 v6 d6 cs6 i6 x6 u6 hi6 ok6 cp6 dp6 ln6 r6 => ?_⟩
    refine nx_seq ?_
    have x36 := ((x3.trans (.of e4)).trans x5)
    have pc : Pc HZ H6 v6 d6 := ⟨ok6, cp6, by omega, by omega, r6.mono (px_fresh x36 u5)⟩
    refine w_tail pc u2 u6 (by omega) fun H7 o4 o5 o6 o7 o8 cs7 i7 u7 hi7 => ?_
    walk_at "rd"
    exact ⟨cs7, i7, _, _, _, _, _, _, _, rfl, u7, by omega⟩
  · refine g_end ?_
    refine nx_seq ?_
    refine w_tail pc u2 u3 (by omega) fun H7 o4 o5 o6 o7 o8 cs7 i7 u7 hi7 => ?_
    walk_at "rd"
    exact ⟨cs7, i7, _, _, _, _, _, _, _, rfl, u7, by omega⟩
end
end K96
end

section
set_option Elab.async false
set_option linter.all false
set_option maxRecDepth 100000
set_option maxHeartbeats 4000000
namespace K96
open PySem PySem.Spec PyProof.Rows L2 CL
theorem len1 {p : P1} {vs : List V} {H : Hp} {Q : VK} {E : XK} (h : sp1 p vs H Q E) : vs.length = 1 := by obtain ⟨_, rfl, _⟩ := h; rfl
theorem len2 {p : P2} {vs : List V} {H : Hp} {Q : VK} {E : XK} (h : sp2 p vs H Q E) : vs.length = 2 := by obtain ⟨_, _, rfl, _⟩ := h; rfl
theorem len3 {p : P3} {vs : List V} {H : Hp} {Q : VK} {E : XK} (h : sp3 p vs H Q E) : vs.length = 3 := by obtain ⟨_, _, _, rfl, _⟩ := h; rfl
theorem Cal.up {P : Program} {w : World} {K : PySem.W.Frag} {mg : Str → Option Value} {base : Heap} {j k : Nat} {x : Str} {sp : Sp} {dvs : List V} (c : Cal P w K mg base j x sp dvs) (h : j ≤ k) : Cal P w K mg base k x sp dvs := by
  obtain ⟨f, fd, ps, ds, h1, h2, F, h3, h4⟩ := c.ex
  exact ⟨⟨f, fd, ps, ds, h1, h2, F.mono h, h3, h4⟩⟩
theorem Met.up {P : Program} {w : World} {K : PySem.W.Frag} {mg : Str → Option Value} {base : Heap} {j k : Nat} {C : Addr} {m : Str} {sp : Sp} {dvs : List V} (c : Met P w K mg base j C m sp dvs) (h : j ≤ k) : Met P w K mg base k C m sp dvs := by
  obtain ⟨f, fd, ps, ds, h1, h2, F, h3, h4⟩ := c.ex
  exact ⟨⟨f, fd, ps, ds, h1, h2, F.mono h, h3, h4⟩⟩
theorem kbn_of {K : PySem.W.Frag} {fd : FuncData} {ps ks : List Str} {n : Nat} {g g' : List Value → List Value → List Value} {gV gV' : List V → List V → List V} (b : KBn K fd ps n ks g gV) (h : ∀ us ws, us.length = n → ws.length = ks.length → g us ws = g' us ws)
    (r : ∀ {vs : List V} {us : List Value} {zs : List V} {ws : List Value}, Vals vs us → Vals zs ws → Vals (gV' vs zs) (g' us ws)) : KBn K fd ps n ks g' gV' :=
  ⟨fun s us ws X l1 l2 => by rw [← h us ws l1 l2]; exact b.to s us ws X l1 l2, r⟩
theorem vals_getD : ∀ {vs : List V} {us : List Value}, Vals vs us → ∀ i, RelV (vs.getD i .non) (us.getD i .none)
  | _, _, .nil, i => rfl
  | _, _, .cons r _, 0 => r
  | _, _, .cons _ q, i + 1 => vals_getD q i
section
variable {P : Program} {w : World} {K : PySem.W.Frag} {mg : Str → Option Value} {base : Heap} (M : MF K mg) (T : TF K w) (c : SaysC fa fn ts ex w K)
include M T c
theorem ok_NoText : ∃ fd, FnOk P w K mg base (L2.CX P w) 1 (He.ma K (He.ga K "NoText") "__init__") fd ["self", "row", "at"] (spInit (He.ga K "NoText") ["row", "at"]) ∧ Binds K fd ["self", "row", "at"] [] := by
  obtain ⟨fd, F⟩ := c.t.d.def_ 0 (d := d_NoText_init) rfl
  have F : FunD K "__init__" "NoText.__init__" (defArgs s_NoText_init) (defBody s_NoText_init) (defScope s_NoText_init) [] [] (He.ma K (He.ga K "NoText") "__init__") fd := F
  refine ⟨fd, F.ok (N := ["self", "row", "at"]) ⟨rfl, rfl, rfl, by decide +kernel, rfl, by decide +kernel, by decide +kernel⟩ (fun vs H Q E h => ?_) (fun cdv A outer s H vs Q E hr h => ⟨_,
    pss_cons (ps_expr (pe_baseinit (M.base "LoomError") rfl (M.glo "LoomError") (pa_cons (pv 0) (pa_cons pe_str pa_nil)))) (pss_cons (ps_ost (pv 0) (pv 1)) (pss_one (ps_ost (pv 0) (pv 2)))), ?_⟩), F.bindsN fun _ _ _ _ _ _ us hl => match us, hl with | [_, _, _], _ => rfl⟩
  · obtain ⟨a, ws, rfl, hl, _⟩ := h
    rw [List.length_cons, hl]
    rfl
  · obtain ⟨a, ws, rfl, hl, ha, q⟩ := h
    match ws, hl with
    | [r, t], _ =>
      have eC := (M.err "NoText").ox
      refine ⟨_, rfl, a, _, _, rfl, by simp, eC, ha, ?_⟩
      refine ⟨r, rfl, .ref a, rfl, a, _, rfl, eC, M.noat "NoText" "row", .inl ⟨ha, fun d hd hda => ?_⟩⟩
      refine ⟨t, rfl, .ref a, rfl, a, _, rfl, eC, M.noat "NoText" "at", .inr ⟨d, [("row", r)], upd_same, ?_, by simp only [List.length_cons, List.length_nil]; omega, ?_⟩⟩
      · rw [upd_ne hda, upd_same]
      · have q := q d hd hda
        have e : upd (upd (upd H d (exd d [("row", r)])) a (exo a (He.ga K "NoText") (some d))) d (exd d [("at", t), ("row", r)]) = upd (upd H d (exd d [("at", t), ("row", r)])) a (exo a (He.ga K "NoText") (some d)) := by
          funext b
          by_cases h1 : b = d
          · subst h1; rw [upd_same, upd_ne hda, upd_same]
          · rw [upd_ne h1]
            by_cases h2 : b = a
            · subst h2; rw [upd_same, upd_same]
            · rw [upd_ne h2, upd_ne h2, upd_ne h1, upd_ne h1]
        show Q V.non _
        rw [e]
        exact q
theorem C_is_bare : Cal P w K mg base 1 "is_bare" sp_is_bare [] := by
  obtain ⟨fd, F⟩ := c.t.d.def_ 1 (d := d_is_bare) rfl
  have F : FunD K "is_bare" "is_bare" (defArgs s_is_bare) (defBody s_is_bare) (defScope s_is_bare) [] [] (He.ga K "is_bare") fd := F
  exact ⟨⟨_, fd, ["text"], [], M.glo "is_bare", F.kp, okT F sc_is_bare (fun _ _ _ _ h => (by obtain ⟨_, rfl, _⟩ := h; rfl)) (t_is_bare K w) (fun cdv A outer s H E hr => pr_is_bare M hr) (fun H vs Q E h => w_is_bare T h), (F.bindsN fun _ _ _ _ _ _ us hl => match us, hl with | [_], _ => rfl), .nil⟩⟩
theorem C_sign_text : Cal P w K mg base 1 "sign_text" sp_sign_text [] := by
  obtain ⟨fd, F⟩ := c.t.d.def_ 2 (d := d_sign_text) rfl
  have F : FunD K "sign_text" "sign_text" (defArgs s_sign_text) (defBody s_sign_text) (defScope s_sign_text) [] [] (He.ga K "sign_text") fd := F
  exact ⟨⟨_, fd, ["sign"], [], M.glo "sign_text", F.kp, okT F sc_sign_text (fun _ _ _ _ h => (by obtain ⟨_, rfl, _⟩ := h; rfl)) (t_sign_text K w) (fun cdv A outer s H E hr => pr_sign_text M hr) (fun H vs Q E h => w_sign_text h), (F.bindsN fun _ _ _ _ _ _ us hl => match us, hl with | [_], _ => rfl), .nil⟩⟩
theorem C_word_text : Cal P w K mg base 2 "word_text" sp_word_text [] := by
  obtain ⟨fd, F⟩ := c.t.d.def_ 3 (d := d_word_text) rfl
  have F : FunD K "word_text" "word_text" (defArgs s_word_text) (defBody s_word_text) (defScope s_word_text) [] [] (He.ga K "word_text") fd := F
  exact ⟨⟨_, fd, ["text"], [], M.glo "word_text", F.kp, okT F sc_word_text (fun _ _ _ _ h => (by obtain ⟨_, rfl, _⟩ := h; rfl)) (t_word_text K w sp_is_bare sp_sign_text) (fun cdv A outer s H E hr => pr_word_text M hr (C_is_bare M T c) (by omega) (C_sign_text M T c) (by omega)) (fun H vs Q E h => w_word_text h), (F.bindsN fun _ _ _ _ _ _ us hl => match us, hl with | [_], _ => rfl), .nil⟩⟩
theorem C_plain_text : Cal P w K mg base 3 "plain_text" sp_plain_text [] := by
  obtain ⟨fd, F⟩ := c.t.d.def_ 4 (d := d_plain_text) rfl
  have F : FunD K "plain_text" "plain_text" (defArgs s_plain_text) (defBody s_plain_text) (defScope s_plain_text) [] [] (He.ga K "plain_text") fd := F
  exact ⟨⟨_, fd, ["thing"], [], M.glo "plain_text", F.kp, okT F sc_plain_text (fun _ _ _ _ h => (by obtain ⟨_, rfl, _⟩ := h; rfl)) (t_plain_text K w sp_word_text) (fun cdv A outer s H E hr => pr_plain_text M hr (C_word_text M T c) (by omega)) (fun H vs Q E h => w_plain_text h), (F.bindsN fun _ _ _ _ _ _ us hl => match us, hl with | [_], _ => rfl), .nil⟩⟩
theorem C_texts (n : Nat) : Cal P w K mg base (2 * n + 4) "text_of" (sp_text_of K n) [] ∧ Cal P w K mg base (2 * n + 5) "things_text" (sp_things_text K n) [] := by
  induction n with
  | zero =>
    refine ⟨?_, ?_⟩
    · obtain ⟨fd, F⟩ := c.t.d.def_ 6 (d := d_text_of) rfl
      have F : FunD K "text_of" "text_of" (defArgs s_text_of) (defBody s_text_of) (defScope s_text_of) [] [] (He.ga K "text_of") fd := F
      exact ⟨⟨_, fd, ["thing", "deep"], [], M.glo "text_of", F.kp, F.ok sc_text_of (fun _ _ _ _ h => h.elim) fun _ _ _ _ _ _ _ _ _ h => h.elim, (F.bindsN fun _ _ _ _ _ _ us hl => match us, hl with | [_, _], _ => rfl), .nil⟩⟩
    · obtain ⟨fd, F⟩ := c.t.d.def_ 5 (d := d_things_text) rfl
      have F : FunD K "things_text" "things_text" (defArgs s_things_text) (defBody s_things_text) (defScope s_things_text) [] [] (He.ga K "things_text") fd := F
      exact ⟨⟨_, fd, ["things", "deep"], [], M.glo "things_text", F.kp, F.ok sc_things_text (fun _ _ _ _ h => h.elim) fun _ _ _ _ _ _ _ _ _ h => h.elim, (F.bindsN fun _ _ _ _ _ _ us hl => match us, hl with | [_, _], _ => rfl), .nil⟩⟩
  | succ n ih =>
    have CA : Cal P w K mg base (2 * (n + 1) + 4) "text_of" (sp_text_of K (n + 1)) [] := by
      obtain ⟨fd, F⟩ := c.t.d.def_ 6 (d := d_text_of) rfl
      have F : FunD K "text_of" "text_of" (defArgs s_text_of) (defBody s_text_of) (defScope s_text_of) [] [] (He.ga K "text_of") fd := F
      exact ⟨⟨_, fd, ["thing", "deep"], [], M.glo "text_of", F.kp, okT F sc_text_of (fun _ _ _ _ h => (by obtain ⟨_, _, rfl, _⟩ := h; rfl)) (t_text_of K w sp_plain_text (sp_things_text K n) sp_word_text (sp_text_of K n)) (fun cdv A outer s H E hr => pr_text_of M hr (C_plain_text M T c) (by omega) ih.2 (by omega) (C_word_text M T c) (by omega) ih.1 (by omega)) (fun H vs Q E h => w_text_of h), (F.bindsN fun _ _ _ _ _ _ us hl => match us, hl with | [_, _], _ => rfl), .nil⟩⟩
    refine ⟨CA, ?_⟩
    obtain ⟨fd, F⟩ := c.t.d.def_ 5 (d := d_things_text) rfl
    have F : FunD K "things_text" "things_text" (defArgs s_things_text) (defBody s_things_text) (defScope s_things_text) [] [] (He.ga K "things_text") fd := F
    exact ⟨⟨_, fd, ["things", "deep"], [], M.glo "things_text", F.kp, okT F sc_things_text (fun _ _ _ _ h => (by obtain ⟨_, _, rfl, _⟩ := h; rfl)) (t_things_text K w (sp_text_of K (n + 1))) (fun cdv A outer s H E hr => pr_things_text M hr CA (by omega)) (fun H vs Q E h => w_things_text h), (F.bindsN fun _ _ _ _ _ _ us hl => match us, hl with | [_, _], _ => rfl), .nil⟩⟩
theorem C_Strip_init : Mak P w K mg base 1 "Strip" (He.ga K "Strip") (sp_Strip_init K) [] := by
  obtain ⟨fd, F⟩ := c.t.d.def_ 8 (d := d_Strip_init) rfl
  have F : FunD K "__init__" "Strip.__init__" (defArgs s_Strip_init) (defBody s_Strip_init) (defScope s_Strip_init) [] [] (He.ma K (He.ga K "Strip") "__init__") fd := F
  exact ⟨⟨_, fd, ["self", "text"], [], M.glo "Strip", M.mkr "Strip", okT F sc_Strip_init (fun _ _ _ _ h => (by obtain ⟨_, _, rfl, _⟩ := h; rfl)) (t_Strip_init K w) (fun cdv A outer s H E hr => pr_Strip_init M hr) (fun H vs Q E h => w_Strip_init M h), (F.bindsN fun _ _ _ _ _ _ us hl => match us, hl with | [_, _], _ => rfl), .nil⟩⟩
theorem C_Strip_sign : Met P w K mg base 1 (He.ga K "Strip") "sign" (sp_Strip_sign K) [] := by
  obtain ⟨fd, F⟩ := c.t.d.def_ 9 (d := d_Strip_sign) rfl
  have F : FunD K "sign" "Strip.sign" (defArgs s_Strip_sign) (defBody s_Strip_sign) (defScope s_Strip_sign) [] [] (He.ma K (He.ga K "Strip") "sign") fd := F
  exact ⟨⟨_, fd, ["self"], [], M.cls "Strip", M.meth "Strip" "sign", okT F sc_Strip_sign (fun _ _ _ _ h => (by obtain ⟨_, rfl, _⟩ := h; rfl)) (t_Strip_sign K w) (fun cdv A outer s H E hr => pr_Strip_sign M hr) (fun H vs Q E h => w_Strip_sign M h), (F.bindsN fun _ _ _ _ _ _ us hl => match us, hl with | [_], _ => rfl), .nil⟩⟩
theorem C_Strip_must_be : Met P w K mg base 3 (He.ga K "Strip") "must_be" (sp_Strip_must_be K) [] := by
  obtain ⟨fx, FX, BX⟩ := ok_NoText M T c
  obtain ⟨fd, F⟩ := c.t.d.def_ 10 (d := d_Strip_must_be) rfl
  have F : FunD K "must_be" "Strip.must_be" (defArgs s_Strip_must_be) (defBody s_Strip_must_be) (defScope s_Strip_must_be) [] [] (He.ma K (He.ga K "Strip") "must_be") fd := F
  exact ⟨⟨_, fd, ["self", "good"], [], M.cls "Strip", M.meth "Strip" "must_be", okT F sc_Strip_must_be (fun _ _ _ _ h => (by obtain ⟨_, _, rfl, _⟩ := h; rfl)) (t_Strip_must_be K w) (fun cdv A outer s H E hr => pr_Strip_must_be M hr FX (by omega) BX) (fun H vs Q E h => w_Strip_must_be M h), (F.bindsN fun _ _ _ _ _ _ us hl => match us, hl with | [_, _], _ => rfl), .nil⟩⟩
theorem C_Strip_may : Met P w K mg base 2 (He.ga K "Strip") "may" (sp_Strip_may K) [] := by
  obtain ⟨fd, F⟩ := c.t.d.def_ 11 (d := d_Strip_may) rfl
  have F : FunD K "may" "Strip.may" (defArgs s_Strip_may) (defBody s_Strip_may) (defScope s_Strip_may) [] [] (He.ma K (He.ga K "Strip") "may") fd := F
  exact ⟨⟨_, fd, ["self", "sign"], [], M.cls "Strip", M.meth "Strip" "may", okT F sc_Strip_may (fun _ _ _ _ h => (by obtain ⟨_, _, rfl, _⟩ := h; rfl)) (t_Strip_may K w (sp_Strip_sign K)) (fun cdv A outer s H E hr => pr_Strip_may M hr (C_Strip_sign M T c) (by omega)) (fun H vs Q E h => w_Strip_may M h), (F.bindsN fun _ _ _ _ _ _ us hl => match us, hl with | [_, _], _ => rfl), .nil⟩⟩
theorem C_Strip_run : Met P w K mg base 2 (He.ga K "Strip") "run" (sp_Strip_run K) [] := by
  obtain ⟨fd, F⟩ := c.t.d.def_ 12 (d := d_Strip_run) rfl
  have F : FunD K "run" "Strip.run" (defArgs s_Strip_run) (defBody s_Strip_run) (defScope s_Strip_run) [] [] (He.ma K (He.ga K "Strip") "run") fd := F
  exact ⟨⟨_, fd, ["self", "signs"], [], M.cls "Strip", M.meth "Strip" "run", okT F sc_Strip_run (fun _ _ _ _ h => (by obtain ⟨_, _, rfl, _⟩ := h; rfl)) (t_Strip_run K w (sp_Strip_sign K)) (fun cdv A outer s H E hr => pr_Strip_run M hr (C_Strip_sign M T c) (by omega)) (fun H vs Q E h => w_Strip_run M h), (F.bindsN fun _ _ _ _ _ _ us hl => match us, hl with | [_, _], _ => rfl), .nil⟩⟩
theorem C_Strip_whole_number : Met P w K mg base 4 (He.ga K "Strip") "whole_number" (sp_Strip_whole_number K) [] := by
  obtain ⟨fd, F⟩ := c.t.d.def_ 13 (d := d_Strip_whole_number) rfl
  have F : FunD K "whole_number" "Strip.whole_number" (defArgs s_Strip_whole_number) (defBody s_Strip_whole_number) (defScope s_Strip_whole_number) [] [] (He.ma K (He.ga K "Strip") "whole_number") fd := F
  exact ⟨⟨_, fd, ["self"], [], M.cls "Strip", M.meth "Strip" "whole_number", okT F sc_Strip_whole_number (fun _ _ _ _ h => (by obtain ⟨_, rfl, _⟩ := h; rfl)) (t_Strip_whole_number K w (sp_Strip_may K) (sp_Strip_must_be K) (sp_Strip_sign K) (sp_Strip_run K)) (fun cdv A outer s H E hr => pr_Strip_whole_number M hr (C_Strip_may M T c) (by omega) (C_Strip_must_be M T c) (by omega) (C_Strip_sign M T c) (by omega) (C_Strip_run M T c) (by omega)) (fun H vs Q E h => w_Strip_whole_number h), (F.bindsN fun _ _ _ _ _ _ us hl => match us, hl with | [_], _ => rfl), .nil⟩⟩
theorem C_Strip_quoted : Met P w K mg base 4 (He.ga K "Strip") "quoted" (sp_Strip_quoted K) [] := by
  obtain ⟨fd, F⟩ := c.t.d.def_ 14 (d := d_Strip_quoted) rfl
  have F : FunD K "quoted" "Strip.quoted" (defArgs s_Strip_quoted) (defBody s_Strip_quoted) (defScope s_Strip_quoted) [] [] (He.ma K (He.ga K "Strip") "quoted") fd := F
  exact ⟨⟨_, fd, ["self"], [], M.cls "Strip", M.meth "Strip" "quoted", okT F sc_Strip_quoted (fun _ _ _ _ h => (by obtain ⟨_, rfl, _⟩ := h; rfl)) (t_Strip_quoted K w (sp_Strip_may K) (sp_Strip_must_be K) (sp_Strip_sign K) sp_is_bare) (fun cdv A outer s H E hr => pr_Strip_quoted M hr (C_Strip_may M T c) (by omega) (C_Strip_must_be M T c) (by omega) (C_Strip_sign M T c) (by omega) (C_is_bare M T c) (by omega)) (fun H vs Q E h => w_Strip_quoted M h), (F.bindsN fun _ _ _ _ _ _ us hl => match us, hl with | [_], _ => rfl), .nil⟩⟩
theorem C_Strip_key : Met P w K mg base 5 (He.ga K "Strip") "key" (sp_Strip_key K) [] := by
  obtain ⟨fd, F⟩ := c.t.d.def_ 15 (d := d_Strip_key) rfl
  have F : FunD K "key" "Strip.key" (defArgs s_Strip_key) (defBody s_Strip_key) (defScope s_Strip_key) [] [] (He.ma K (He.ga K "Strip") "key") fd := F
  exact ⟨⟨_, fd, ["self", "ahead"], [], M.cls "Strip", M.meth "Strip" "key", okT F sc_Strip_key (fun _ _ _ _ h => (by obtain ⟨_, _, rfl, _⟩ := h; rfl)) (t_Strip_key K w (sp_Strip_sign K) (sp_Strip_quoted K) (sp_Strip_run K) (sp_Strip_must_be K) sp_is_bare) (fun cdv A outer s H E hr => pr_Strip_key M hr (C_Strip_sign M T c) (by omega) (C_Strip_quoted M T c) (by omega) (C_Strip_run M T c) (by omega) (C_Strip_must_be M T c) (by omega) (C_is_bare M T c) (by omega)) (fun H vs Q E h => w_Strip_key M h), (F.bindsN fun _ _ _ _ _ _ us hl => match us, hl with | [_, _], _ => rfl), .nil⟩⟩
theorem C_rd (n : Nat) : Met P w K mg base (2 * n + 6) (He.ga K "Strip") "thing" (sp_Strip_thing K n) [] ∧ Met P w K mg base (2 * n + 7) (He.ga K "Strip") "things" (sp_Strip_things K n) [] ∧ Met P w K mg base (2 * n + 7) (He.ga K "Strip") "pairs" (sp_Strip_pairs K n) [] := by
  induction n with
  | zero =>
    refine ⟨?_, ?_, ?_⟩
    · obtain ⟨fd, F⟩ := c.t.d.def_ 16 (d := d_Strip_thing) rfl
      have F : FunD K "thing" "Strip.thing" (defArgs s_Strip_thing) (defBody s_Strip_thing) (defScope s_Strip_thing) [] [] (He.ma K (He.ga K "Strip") "thing") fd := F
      exact ⟨⟨_, fd, ["self", "deep"], [], M.cls "Strip", M.meth "Strip" "thing", F.ok sc_Strip_thing (fun _ _ _ _ h => h.elim) fun _ _ _ _ _ _ _ _ _ h => h.elim, (F.bindsN fun _ _ _ _ _ _ us hl => match us, hl with | [_, _], _ => rfl), .nil⟩⟩
    · obtain ⟨fd, F⟩ := c.t.d.def_ 17 (d := d_Strip_things) rfl
      have F : FunD K "things" "Strip.things" (defArgs s_Strip_things) (defBody s_Strip_things) (defScope s_Strip_things) [] [] (He.ma K (He.ga K "Strip") "things") fd := F
      exact ⟨⟨_, fd, ["self", "end", "deep"], [], M.cls "Strip", M.meth "Strip" "things", F.ok sc_Strip_things (fun _ _ _ _ h => h.elim) fun _ _ _ _ _ _ _ _ _ h => h.elim, (F.bindsN fun _ _ _ _ _ _ us hl => match us, hl with | [_, _, _], _ => rfl), .nil⟩⟩
    · obtain ⟨fd, F⟩ := c.t.d.def_ 18 (d := d_Strip_pairs) rfl
      have F : FunD K "pairs" "Strip.pairs" (defArgs s_Strip_pairs) (defBody s_Strip_pairs) (defScope s_Strip_pairs) [] [] (He.ma K (He.ga K "Strip") "pairs") fd := F
      exact ⟨⟨_, fd, ["self", "deep"], [], M.cls "Strip", M.meth "Strip" "pairs", F.ok sc_Strip_pairs (fun _ _ _ _ h => h.elim) fun _ _ _ _ _ _ _ _ _ h => h.elim, (F.bindsN fun _ _ _ _ _ _ us hl => match us, hl with | [_, _], _ => rfl), .nil⟩⟩
  | succ n ih =>
    have CA : Met P w K mg base (2 * (n + 1) + 6) (He.ga K "Strip") "thing" (sp_Strip_thing K (n + 1)) [] := by
      obtain ⟨fd, F⟩ := c.t.d.def_ 16 (d := d_Strip_thing) rfl
      have F : FunD K "thing" "Strip.thing" (defArgs s_Strip_thing) (defBody s_Strip_thing) (defScope s_Strip_thing) [] [] (He.ma K (He.ga K "Strip") "thing") fd := F
      exact ⟨⟨_, fd, ["self", "deep"], [], M.cls "Strip", M.meth "Strip" "thing", okT F sc_Strip_thing (fun _ _ _ _ h => (by obtain ⟨_, _, rfl, _⟩ := h; rfl)) (t_Strip_thing K w (sp_Strip_sign K) (sp_Strip_must_be K) (sp_Strip_quoted K) (sp_Strip_run K) (sp_Strip_whole_number K) (sp_Strip_pairs K n) (sp_Strip_things K n)) (fun cdv A outer s H E hr => pr_Strip_thing M hr (C_Strip_sign M T c) (by omega) (C_Strip_must_be M T c) (by omega) (C_Strip_quoted M T c) (by omega) (C_Strip_run M T c) (by omega) (C_Strip_whole_number M T c) (by omega) ih.2.2 (by omega) ih.2.1 (by omega)) (fun H vs Q E h => w_Strip_thing M T h), (F.bindsN fun _ _ _ _ _ _ us hl => match us, hl with | [_, _], _ => rfl), .nil⟩⟩
    refine ⟨CA, ?_, ?_⟩
    · obtain ⟨fd, F⟩ := c.t.d.def_ 17 (d := d_Strip_things) rfl
      have F : FunD K "things" "Strip.things" (defArgs s_Strip_things) (defBody s_Strip_things) (defScope s_Strip_things) [] [] (He.ma K (He.ga K "Strip") "things") fd := F
      exact ⟨⟨_, fd, ["self", "end", "deep"], [], M.cls "Strip", M.meth "Strip" "things", okT F sc_Strip_things (fun _ _ _ _ h => (by obtain ⟨_, _, _, rfl, _⟩ := h; rfl)) (t_Strip_things K w (sp_Strip_may K) (sp_Strip_must_be K) (sp_Strip_thing K (n + 1))) (fun cdv A outer s H E hr => pr_Strip_things M hr (C_Strip_may M T c) (by omega) (C_Strip_must_be M T c) (by omega) CA (by omega)) (fun H vs Q E h => w_Strip_things  h), (F.bindsN fun _ _ _ _ _ _ us hl => match us, hl with | [_, _, _], _ => rfl), .nil⟩⟩
    · obtain ⟨fd, F⟩ := c.t.d.def_ 18 (d := d_Strip_pairs) rfl
      have F : FunD K "pairs" "Strip.pairs" (defArgs s_Strip_pairs) (defBody s_Strip_pairs) (defScope s_Strip_pairs) [] [] (He.ma K (He.ga K "Strip") "pairs") fd := F
      exact ⟨⟨_, fd, ["self", "deep"], [], M.cls "Strip", M.meth "Strip" "pairs", okT F sc_Strip_pairs (fun _ _ _ _ h => (by obtain ⟨_, _, rfl, _⟩ := h; rfl)) (t_Strip_pairs K w (sp_Strip_may K) (sp_Strip_must_be K) (sp_Strip_key K) (sp_Strip_thing K (n + 1))) (fun cdv A outer s H E hr => pr_Strip_pairs M hr (C_Strip_may M T c) (by omega) (C_Strip_must_be M T c) (by omega) (C_Strip_key M T c) (by omega) CA (by omega)) (fun H vs Q E h => w_Strip_pairs h), (F.bindsN fun _ _ _ _ _ _ us hl => match us, hl with | [_, _], _ => rfl), .nil⟩⟩
theorem K_paper_text : (Cal P w K mg base 207 "paper_text" (sp_paper_text K) [.int 40]) ∧ (CalN P w K mg base 207 "paper_text" (sp_paper_text K) 1 ["deep"] fun vs zs => [vs.getD 0 .non, zs.getD 0 .non]) ∧ CalN P w K mg base 207 "paper_text" (sp_paper_text K) 0 ["deep", "thing"] fun _ zs => [zs.getD 1 .non, zs.getD 0 .non] := by
  obtain ⟨fd, F⟩ := c.t.d.def_ 7 (d := d_paper_text) rfl
  have F : FunD K "paper_text" "paper_text" (defArgs s_paper_text) (defBody s_paper_text) (defScope s_paper_text) [] [("deep", .int 40)] (He.ga K "paper_text") fd := F
  have O : FnOk P w K mg base (L2.CX P w) 207 (He.ga K "paper_text") fd ["thing", "deep"] (sp_paper_text K) := okT F sc_paper_text (fun _ _ _ _ h => (by obtain ⟨_, _, rfl, _⟩ := h; rfl)) (t_paper_text K w (sp_text_of K 101)) (fun cdv A outer s H E hr => pr_paper_text M hr (C_texts M T c 101).1 (by omega)) (fun H vs Q E h => w_paper_text h)
  refine ⟨?_, ?_, ?_⟩
  · obtain ⟨ds, hv, hb⟩ := F.binds0 (ps := ["thing", "deep"]) 1 (by simp) rfl fun D doc pm an cdv ct us ks hu hk => match us, ks, hu, hk with | [_], [_], _, _ => ⟨_, _, _, _, _, _, rfl, rfl, rfl⟩
    exact ⟨⟨_, fd, ["thing", "deep"], ds, M.glo "paper_text", F.kp, O, hb, hv⟩⟩
  · obtain ⟨mv, b⟩ := F.kbinds0 (ps := ["thing", "deep"]) 1 ["deep"] [] (fun vs _ zs => vs ++ zs) (by simp) (by simp) (fun h1 _ h3 => h1.append h3) fun D doc pm an cdv ct us mv ws hu hm hw => match us, mv, ws, hu, hm, hw with | [_], [], [_], _, _, _ => rfl
    refine ⟨⟨_, fd, ["thing", "deep"], _, M.glo "paper_text", F.kp, O, kbn_of (g' := fun us ws => [us.getD 0 .none, ws.getD 0 .none]) b (fun us ws hu hw => match us, ws, hu, hw with | [_], [_], _, _ => rfl) fun h1 h2 => .cons (vals_getD h1 0) (.cons (vals_getD h2 0) .nil)⟩⟩
  · obtain ⟨mv, b⟩ := F.kbinds0 (ps := ["thing", "deep"]) 0 ["deep", "thing"] [] (fun _ _ zs => zs.reverse) (by simp) (by simp) (fun h1 _ h3 => h3.reverse) fun D doc pm an cdv ct us mv ws hu hm hw => match us, mv, ws, hu, hm, hw with | [], [], [_, _], _, _, _ => rfl
    refine ⟨⟨_, fd, ["thing", "deep"], _, M.glo "paper_text", F.kp, O, kbn_of (g' := fun _ ws => [ws.getD 1 .none, ws.getD 0 .none]) b (fun us ws hu hw => match us, ws, hu, hw with | [], [_, _], _, _ => rfl) fun h1 h2 => .cons (vals_getD h2 1) (.cons (vals_getD h2 0) .nil)⟩⟩
theorem K_read_paper : (Cal P w K mg base 209 "read_paper" (sp_read_paper K) [.int 40]) ∧ (CalN P w K mg base 209 "read_paper" (sp_read_paper K) 1 ["deep"] fun vs zs => [vs.getD 0 .non, zs.getD 0 .non]) ∧ CalN P w K mg base 209 "read_paper" (sp_read_paper K) 0 ["deep", "text"] fun _ zs => [zs.getD 1 .non, zs.getD 0 .non] := by
  obtain ⟨fd, F⟩ := c.t.d.def_ 19 (d := d_read_paper) rfl
  have F : FunD K "read_paper" "read_paper" (defArgs s_read_paper) (defBody s_read_paper) (defScope s_read_paper) [] [("deep", .int 40)] (He.ga K "read_paper") fd := F
  have O : FnOk P w K mg base (L2.CX P w) 209 (He.ga K "read_paper") fd ["text", "deep"] (sp_read_paper K) := okT F sc_read_paper (fun _ _ _ _ h => (by obtain ⟨_, _, rfl, _⟩ := h; rfl)) (t_read_paper K w (sp_Strip_init K) (sp_Strip_thing K 101) (sp_Strip_must_be K) (sp_Strip_sign K)) (fun cdv A outer s H E hr => pr_read_paper M hr (C_Strip_init M T c) (by omega) (C_rd M T c 101).1 (by omega) (C_Strip_must_be M T c) (by omega) (C_Strip_sign M T c) (by omega)) (fun H vs Q E h => w_read_paper h)
  refine ⟨?_, ?_, ?_⟩
  · obtain ⟨ds, hv, hb⟩ := F.binds0 (ps := ["text", "deep"]) 1 (by simp) rfl fun D doc pm an cdv ct us ks hu hk => match us, ks, hu, hk with | [_], [_], _, _ => ⟨_, _, _, _, _, _, rfl, rfl, rfl⟩
    exact ⟨⟨_, fd, ["text", "deep"], ds, M.glo "read_paper", F.kp, O, hb, hv⟩⟩
  · obtain ⟨mv, b⟩ := F.kbinds0 (ps := ["text", "deep"]) 1 ["deep"] [] (fun vs _ zs => vs ++ zs) (by simp) (by simp) (fun h1 _ h3 => h1.append h3) fun D doc pm an cdv ct us mv ws hu hm hw => match us, mv, ws, hu, hm, hw with | [_], [], [_], _, _, _ => rfl
    refine ⟨⟨_, fd, ["text", "deep"], _, M.glo "read_paper", F.kp, O, kbn_of (g' := fun us ws => [us.getD 0 .none, ws.getD 0 .none]) b (fun us ws hu hw => match us, ws, hu, hw with | [_], [_], _, _ => rfl) fun h1 h2 => .cons (vals_getD h1 0) (.cons (vals_getD h2 0) .nil)⟩⟩
  · obtain ⟨mv, b⟩ := F.kbinds0 (ps := ["text", "deep"]) 0 ["deep", "text"] [] (fun _ _ zs => zs.reverse) (by simp) (by simp) (fun h1 _ h3 => h3.reverse) fun D doc pm an cdv ct us mv ws hu hm hw => match us, mv, ws, hu, hm, hw with | [], [], [_, _], _, _, _ => rfl
    refine ⟨⟨_, fd, ["text", "deep"], _, M.glo "read_paper", F.kp, O, kbn_of (g' := fun _ ws => [ws.getD 1 .none, ws.getD 0 .none]) b (fun us ws hu hw => match us, ws, hu, hw with | [], [_, _], _, _ => rfl) fun h1 h2 => .cons (vals_getD h2 1) (.cons (vals_getD h2 0) .nil)⟩⟩
theorem C__law_purse : Cal P w K mg base 1 "_law_purse" (sp__law_purse K) [] := by
  obtain ⟨fd, F⟩ := c.t.d.def_ 20 (d := d__law_purse) rfl
  have F : FunD K "_law_purse" "_law_purse" (defArgs s__law_purse) (defBody s__law_purse) (defScope s__law_purse) [] [] (He.ga K "_law_purse") fd := F
  exact ⟨⟨_, fd, ["_law_script"], [], M.glo "_law_purse", F.kp, okT F sc__law_purse (fun _ _ _ _ h => (by obtain ⟨_, rfl, _⟩ := h; rfl)) (t__law_purse K w) (fun cdv A outer s H E hr => pr__law_purse M hr) (fun H vs Q E h => w__law_purse h), (F.bindsN fun _ _ _ _ _ _ us hl => match us, hl with | [_], _ => rfl), .nil⟩⟩
theorem C__law_draw : Cal P w K mg base 1 "_law_draw" sp__law_draw [] := by
  obtain ⟨fd, F⟩ := c.t.d.def_ 21 (d := d__law_draw) rfl
  have F : FunD K "_law_draw" "_law_draw" (defArgs s__law_draw) (defBody s__law_draw) (defScope s__law_draw) [] [] (He.ga K "_law_draw") fd := F
  exact ⟨⟨_, fd, ["_law_purse_here", "_law_out_of"], [], M.glo "_law_draw", F.kp, okT F sc__law_draw (fun _ _ _ _ h => (by obtain ⟨_, _, rfl, _⟩ := h; rfl)) (t__law_draw K w) (fun cdv A outer s H E hr => pr__law_draw M hr) (fun H vs Q E h => w__law_draw h), (F.bindsN fun _ _ _ _ _ _ us hl => match us, hl with | [_, _], _ => rfl), .nil⟩⟩
theorem C__law_text : Cal P w K mg base 2 "_law_text" sp__law_text [] := by
  obtain ⟨fd, F⟩ := c.t.d.def_ 22 (d := d__law_text) rfl
  have F : FunD K "_law_text" "_law_text" (defArgs s__law_text) (defBody s__law_text) (defScope s__law_text) [] [] (He.ga K "_law_text") fd := F
  exact ⟨⟨_, fd, ["_law_purse_here"], [], M.glo "_law_text", F.kp, okT F sc__law_text (fun _ _ _ _ h => (by obtain ⟨_, rfl, _⟩ := h; rfl)) (t__law_text K w sp__law_draw) (fun cdv A outer s H E hr => pr__law_text M hr (C__law_draw M T c) (by omega)) (fun H vs Q E h => w__law_text h), (F.bindsN fun _ _ _ _ _ _ us hl => match us, hl with | [_], _ => rfl), .nil⟩⟩
theorem C__law_plain : Cal P w K mg base 3 "_law_plain" sp__law_plain [] := by
  obtain ⟨fd, F⟩ := c.t.d.def_ 23 (d := d__law_plain) rfl
  have F : FunD K "_law_plain" "_law_plain" (defArgs s__law_plain) (defBody s__law_plain) (defScope s__law_plain) [] [] (He.ga K "_law_plain") fd := F
  exact ⟨⟨_, fd, ["_law_purse_here"], [], M.glo "_law_plain", F.kp, okT F sc__law_plain (fun _ _ _ _ h => (by obtain ⟨_, rfl, _⟩ := h; rfl)) (t__law_plain K w sp__law_draw sp__law_text) (fun cdv A outer s H E hr => pr__law_plain M hr (C__law_draw M T c) (by omega) (C__law_text M T c) (by omega)) (fun H vs Q E h => w__law_plain h), (F.bindsN fun _ _ _ _ _ _ us hl => match us, hl with | [_], _ => rfl), .nil⟩⟩
theorem C__law_thing (n : Nat) : Cal P w K mg base (n + 4) "_law_thing" (sp__law_thing n) [] := by
  induction n with
  | zero =>
    obtain ⟨fd, F⟩ := c.t.d.def_ 24 (d := d__law_thing) rfl
    have F : FunD K "_law_thing" "_law_thing" (defArgs s__law_thing) (defBody s__law_thing) (defScope s__law_thing) [] [] (He.ga K "_law_thing") fd := F
    exact ⟨⟨_, fd, ["_law_purse_here", "_law_low"], [], M.glo "_law_thing", F.kp, F.ok sc__law_thing (fun _ _ _ _ h => h.elim) fun _ _ _ _ _ _ _ _ _ h => h.elim, (F.bindsN fun _ _ _ _ _ _ us hl => match us, hl with | [_, _], _ => rfl), .nil⟩⟩
  | succ n ih =>
    obtain ⟨fd, F⟩ := c.t.d.def_ 24 (d := d__law_thing) rfl
    have F : FunD K "_law_thing" "_law_thing" (defArgs s__law_thing) (defBody s__law_thing) (defScope s__law_thing) [] [] (He.ga K "_law_thing") fd := F
    exact ⟨⟨_, fd, ["_law_purse_here", "_law_low"], [], M.glo "_law_thing", F.kp, okT F sc__law_thing (fun _ _ _ _ h => (by obtain ⟨_, _, rfl, _⟩ := h; rfl)) (t__law_thing K w sp__law_draw sp__law_plain (sp__law_thing n) sp__law_text) (fun cdv A outer s H E hr => pr__law_thing M hr (C__law_draw M T c) (by omega) (C__law_plain M T c) (by omega) ih (by omega) (C__law_text M T c) (by omega)) (fun H vs Q E h => w__law_thing h), (F.bindsN fun _ _ _ _ _ _ us hl => match us, hl with | [_, _], _ => rfl), .nil⟩⟩
theorem C__law_nested : Cal P w K mg base 4 "_law_nested" sp__law_nested [] := by
  obtain ⟨fd, F⟩ := c.t.d.def_ 25 (d := d__law_nested) rfl
  have F : FunD K "_law_nested" "_law_nested" (defArgs s__law_nested) (defBody s__law_nested) (defScope s__law_nested) [] [] (He.ga K "_law_nested") fd := F
  exact ⟨⟨_, fd, ["_law_purse_here", "_law_many"], [], M.glo "_law_nested", F.kp, okT F sc__law_nested (fun _ _ _ _ h => (by obtain ⟨_, _, rfl, _⟩ := h; rfl)) (t__law_nested K w sp__law_plain sp__law_draw) (fun cdv A outer s H E hr => pr__law_nested M hr (C__law_plain M T c) (by omega) (C__law_draw M T c) (by omega)) (fun H vs Q E h => w__law_nested h), (F.bindsN fun _ _ _ _ _ _ us hl => match us, hl with | [_, _], _ => rfl), .nil⟩⟩
theorem C__law_is_bare : Cal P w K mg base 1 "_law_is_bare" sp_is_bare [] := by
  obtain ⟨fd, F⟩ := c.t.d.def_ 26 (d := d__law_is_bare) rfl
  have F : FunD K "_law_is_bare" "_law_is_bare" (defArgs s__law_is_bare) (defBody s__law_is_bare) (defScope s__law_is_bare) [] [] (He.ga K "_law_is_bare") fd := F
  exact ⟨⟨_, fd, ["_law_shown"], [], M.glo "_law_is_bare", F.kp, okT F sc__law_is_bare (fun _ _ _ _ h => (by obtain ⟨_, rfl, _⟩ := h; rfl)) (t__law_is_bare K w) (fun cdv A outer s H E hr => pr__law_is_bare M hr) (fun H vs Q E h => w__law_is_bare h), (F.bindsN fun _ _ _ _ _ _ us hl => match us, hl with | [_], _ => rfl), .nil⟩⟩
theorem C__law_word : Cal P w K mg base 2 "_law_word" sp__law_word [] := by
  obtain ⟨fd, F⟩ := c.t.d.def_ 27 (d := d__law_word) rfl
  have F : FunD K "_law_word" "_law_word" (defArgs s__law_word) (defBody s__law_word) (defScope s__law_word) [] [] (He.ga K "_law_word") fd := F
  exact ⟨⟨_, fd, ["_law_shown"], [], M.glo "_law_word", F.kp, okT F sc__law_word (fun _ _ _ _ h => (by obtain ⟨_, rfl, _⟩ := h; rfl)) (t__law_word K w sp_is_bare) (fun cdv A outer s H E hr => pr__law_word M hr (C__law_is_bare M T c) (by omega)) (fun H vs Q E h => w__law_word h), (F.bindsN fun _ _ _ _ _ _ us hl => match us, hl with | [_], _ => rfl), .nil⟩⟩
theorem C__law_spelt (n : Nat) : Cal P w K mg base (n + 3) "_law_spelt" (sp__law_spelt n) [] := by
  induction n with
  | zero =>
    obtain ⟨fd, F⟩ := c.t.d.def_ 28 (d := d__law_spelt) rfl
    have F : FunD K "_law_spelt" "_law_spelt" (defArgs s__law_spelt) (defBody s__law_spelt) (defScope s__law_spelt) [] [] (He.ga K "_law_spelt") fd := F
    exact ⟨⟨_, fd, ["_law_piece"], [], M.glo "_law_spelt", F.kp, F.ok sc__law_spelt (fun _ _ _ _ h => h.elim) fun _ _ _ _ _ _ _ _ _ h => h.elim, (F.bindsN fun _ _ _ _ _ _ us hl => match us, hl with | [_], _ => rfl), .nil⟩⟩
  | succ n ih =>
    obtain ⟨fd, F⟩ := c.t.d.def_ 28 (d := d__law_spelt) rfl
    have F : FunD K "_law_spelt" "_law_spelt" (defArgs s__law_spelt) (defBody s__law_spelt) (defScope s__law_spelt) [] [] (He.ga K "_law_spelt") fd := F
    exact ⟨⟨_, fd, ["_law_piece"], [], M.glo "_law_spelt", F.kp, okT F sc__law_spelt (fun _ _ _ _ h => (by obtain ⟨_, rfl, _⟩ := h; rfl)) (t__law_spelt K w sp__law_word (sp__law_spelt n)) (fun cdv A outer s H E hr => pr__law_spelt M hr (C__law_word M T c) (by omega) ih (by omega)) (fun H vs Q E h => w__law_spelt h), (F.bindsN fun _ _ _ _ _ _ us hl => match us, hl with | [_], _ => rfl), .nil⟩⟩
theorem C__law_depth (n : Nat) : Cal P w K mg base (n + 1) "_law_depth" (sp__law_depth n) [] := by
  induction n with
  | zero =>
    obtain ⟨fd, F⟩ := c.t.d.def_ 29 (d := d__law_depth) rfl
    have F : FunD K "_law_depth" "_law_depth" (defArgs s__law_depth) (defBody s__law_depth) (defScope s__law_depth) [] [] (He.ga K "_law_depth") fd := F
    exact ⟨⟨_, fd, ["_law_piece"], [], M.glo "_law_depth", F.kp, F.ok sc__law_depth (fun _ _ _ _ h => h.elim) fun _ _ _ _ _ _ _ _ _ h => h.elim, (F.bindsN fun _ _ _ _ _ _ us hl => match us, hl with | [_], _ => rfl), .nil⟩⟩
  | succ n ih =>
    obtain ⟨fd, F⟩ := c.t.d.def_ 29 (d := d__law_depth) rfl
    have F : FunD K "_law_depth" "_law_depth" (defArgs s__law_depth) (defBody s__law_depth) (defScope s__law_depth) [] [] (He.ga K "_law_depth") fd := F
    exact ⟨⟨_, fd, ["_law_piece"], [], M.glo "_law_depth", F.kp, okT F sc__law_depth (fun _ _ _ _ h => (by obtain ⟨_, rfl, _⟩ := h; rfl)) (t__law_depth K w (sp__law_depth n)) (fun cdv A outer s H E hr => pr__law_depth M hr ih (by omega)) (fun H vs Q E h => w__law_depth h), (F.bindsN fun _ _ _ _ _ _ us hl => match us, hl with | [_], _ => rfl), .nil⟩⟩
theorem C__law_kind : Cal P w K mg base 1 "_law_kind" sp__law_kind [] := by
  obtain ⟨fd, F⟩ := c.t.d.def_ 30 (d := d__law_kind) rfl
  have F : FunD K "_law_kind" "_law_kind" (defArgs s__law_kind) (defBody s__law_kind) (defScope s__law_kind) [] [] (He.ga K "_law_kind") fd := F
  exact ⟨⟨_, fd, ["_law_one"], [], M.glo "_law_kind", F.kp, okT F sc__law_kind (fun _ _ _ _ h => (by obtain ⟨_, rfl, _⟩ := h; rfl)) (t__law_kind K w) (fun cdv A outer s H E hr => pr__law_kind M hr) (fun H vs Q E h => w__law_kind h), (F.bindsN fun _ _ _ _ _ _ us hl => match us, hl with | [_], _ => rfl), .nil⟩⟩
theorem C__law_like (n : Nat) : Cal P w K mg base (n + 2) "_law_like" (sp__law_like n) [] := by
  induction n with
  | zero =>
    obtain ⟨fd, F⟩ := c.t.d.def_ 31 (d := d__law_like) rfl
    have F : FunD K "_law_like" "_law_like" (defArgs s__law_like) (defBody s__law_like) (defScope s__law_like) [] [] (He.ga K "_law_like") fd := F
    exact ⟨⟨_, fd, ["_law_one", "_law_other"], [], M.glo "_law_like", F.kp, F.ok sc__law_like (fun _ _ _ _ h => h.elim) fun _ _ _ _ _ _ _ _ _ h => h.elim, (F.bindsN fun _ _ _ _ _ _ us hl => match us, hl with | [_, _], _ => rfl), .nil⟩⟩
  | succ n ih =>
    obtain ⟨fd, F⟩ := c.t.d.def_ 31 (d := d__law_like) rfl
    have F : FunD K "_law_like" "_law_like" (defArgs s__law_like) (defBody s__law_like) (defScope s__law_like) [] [] (He.ga K "_law_like") fd := F
    exact ⟨⟨_, fd, ["_law_one", "_law_other"], [], M.glo "_law_like", F.kp, okT F sc__law_like (fun _ _ _ _ h => (by obtain ⟨_, _, rfl, _⟩ := h; rfl)) (t__law_like K w sp__law_kind (sp__law_like n)) (fun cdv A outer s H E hr => pr__law_like M hr (C__law_kind M T c) (by omega) ih (by omega)) (fun H vs Q E h => w__law_like h), (F.bindsN fun _ _ _ _ _ _ us hl => match us, hl with | [_, _], _ => rfl), .nil⟩⟩
theorem C__law_plain_end : Cal P w K mg base 1 "_law_plain_end" sp__law_plain_end [] := by
  obtain ⟨fd, F⟩ := c.t.d.def_ 33 (d := d__law_plain_end) rfl
  have F : FunD K "_law_plain_end" "_law_plain_end" (defArgs s__law_plain_end) (defBody s__law_plain_end) (defScope s__law_plain_end) [] [] (He.ga K "_law_plain_end") fd := F
  exact ⟨⟨_, fd, ["_law_line", "_law_at"], [], M.glo "_law_plain_end", F.kp, okT F sc__law_plain_end (fun _ _ _ _ h => (by obtain ⟨_, _, rfl, _⟩ := h; rfl)) (t__law_plain_end K w) (fun cdv A outer s H E hr => pr__law_plain_end M hr) (fun H vs Q E h => w__law_plain_end h), (F.bindsN fun _ _ _ _ _ _ us hl => match us, hl with | [_, _], _ => rfl), .nil⟩⟩
theorem C__law_too_deep : Cal P w K mg base 210 "_law_too_deep" sp__law_too_deep [] := by
  obtain ⟨fd, F⟩ := c.t.d.def_ 32 (d := d__law_too_deep) rfl
  have F : FunD K "_law_too_deep" "_law_too_deep" (defArgs s__law_too_deep) (defBody s__law_too_deep) (defScope s__law_too_deep) [] [] (He.ga K "_law_too_deep") fd := F
  exact ⟨⟨_, fd, ["_law_piece", "_law_line", "_law_many"], [], M.glo "_law_too_deep", F.kp, okT F sc__law_too_deep (fun _ _ _ _ h => (by obtain ⟨_, _, _, _, _, rfl, _⟩ := h; rfl)) (t__law_too_deep K w (sp_paper_text K) (sp_read_paper K) sp__law_plain_end) (fun cdv A outer s H E hr => pr__law_too_deep M hr (K_paper_text M T c).2.1 (by omega) (K_read_paper M T c).2.1 (by omega) (C__law_plain_end M T c) (by omega)) (fun H vs Q E h => w__law_too_deep M h), (F.bindsN fun _ _ _ _ _ _ us hl => match us, hl with | [_, _, _], _ => rfl), .nil⟩⟩
theorem ok_law {fd : FuncData} (F : FunD K "law" "law" (defArgs s_law) (defBody s_law) (defScope s_law) [] [] (He.ga K "law") fd) : FnOk P w K mg base (L2.CX P w) 211 (He.ga K "law") fd ["_law_script"] (sp_law K) :=
  okT F sc_law (fun _ _ _ _ h => (by obtain ⟨_, rfl, _⟩ := h; rfl)) (t_law K w (sp__law_purse K) (sp__law_thing 5) sp__law_nested sp__law_draw (sp__law_spelt 41) (sp__law_depth 41) (sp_paper_text K) (sp_read_paper K) (sp__law_like 41) sp__law_too_deep) (fun cdv A outer s H E hr => pr_law M hr (C__law_purse M T c) (by omega) (C__law_thing M T c 5) (by omega) (C__law_nested M T c) (by omega) (C__law_draw M T c) (by omega) (C__law_spelt M T c 41) (by omega) (C__law_depth M T c 41) (by omega) (K_paper_text M T c).1 (by omega) (K_paper_text M T c).2.2 (by omega) (K_read_paper M T c).1 (by omega) (K_read_paper M T c).2.2 (by omega) (C__law_like M T c 41) (by omega) (C__law_too_deep M T c) (by omega)) (fun H vs Q E h => w_law M h)
end
theorem tf_of {w : World} {K : PySem.W.Frag} {mg : Str → Option Value} (M : MF K mg) (c : SaysC fa fn ts ex w K) : TF K w := by
  have e : ts.map (fun t => He.dicW K (t.1 K)) = ts.map fun t => some (He.keysIn w.params t.2) := congrArg (fun z : He.AlT => z.2) c.t
  have e : [He.dicW K (He.ga K "KEPT"), He.dicW K (He.ga K "ENDS")] = [some (He.keysIn w.params ["none", "yes", "no"]), some (He.keysIn w.params ["(", "[", "{"])] := e
  obtain ⟨e1, e2⟩ := List.cons.inj e
  obtain ⟨e2, _⟩ := List.cons.inj e2
  obtain ⟨m1, m2⟩ := and2 M.more
  refine ⟨fun z => ?_, fun c => ?_⟩
  · have h := tab_at e1 m1 rfl (S z)
    have q : (([("none", .non), ("yes", .bl true), ("no", .bl false)] : List (Str × He.Dv)).lookup (S z)).map (He.Dv.v K) = keptV z := by
      have b : ∀ (a : Str) (l : List Nat), a = S l → (S z == a) = decide (z = l) := fun a l e => by rw [e, SX.S_beq_eq]
      simp only [List.lookup_cons, List.lookup_nil, b "none" wNone (by decide +kernel), b "yes" wYes (by decide +kernel), b "no" wNo (by decide +kernel)]
      unfold keptV
      by_cases h1 : z = wNone
      · subst h1; rfl
      by_cases h2 : z = wYes
      · subst h2; rfl
      by_cases h3 : z = wNo
      · subst h3; rfl
      simp [h1, h2, h3]
    rw [q] at h
    exact h
  · have h := tab_at e2 m2 rfl (S [c])
    have q : (([("(", .str ")"), ("[", .str "]"), ("{", .str "}")] : List (Str × He.Dv)).lookup (S [c])).map (He.Dv.v K) = if c = 40 then some (.str (S [41])) else if c = 91 then some (.str (S [93])) else if c = 123 then some (.str (S [125])) else none := by
      have b : ∀ (a : Str) (l : Nat), a = S [l] → (S [c] == a) = decide (c = l) := fun a l e => by rw [e, SX.S_beq_eq]; simp
      have r1 : (")" : Str) = S [41] := by decide +kernel
      have r2 : ("]" : Str) = S [93] := by decide +kernel
      have r3 : ("}" : Str) = S [125] := by decide +kernel
      simp only [List.lookup_cons, List.lookup_nil, b "(" 40 (by decide +kernel), b "[" 91 (by decide +kernel), b "{" 123 (by decide +kernel)]
      by_cases h1 : c = 40
      · simp [h1, He.Dv.v, r1]
      by_cases h2 : c = 91
      · simp [h1, h2, He.Dv.v, r2]
      by_cases h3 : c = 123
      · simp [h1, h2, h3, He.Dv.v, r3]
      simp [h1, h2, h3]
    rw [q] at h
    exact h
theorem facts {P : Program} {w : World} {K : PySem.W.Frag} {h : Heap} {mg : Str → Option Value} {f : Addr} (X : K.In h) (G : h.Ns mainGlobals mg) (hfa : mg ("law" : Str) = some (.ref f)) (c : SaysC fa fn ts ex w K) :
    ∃ fd : FuncData, (∀ (s : Shared) (v : Value), BindsTo s fd ⟨[v], []⟩ [("_law_script", v)]) ∧ ∀ base : Heap, K.In base → base.Ns mainGlobals mg → FnOk P w K mg base (L2.CX P w) 211 f fd ["_law_script"] (sp_law K) := by
  have M := mf_of X G c
  have e := hfa.symm.trans (M.glo "law")
  cases e
  obtain ⟨fd, F⟩ := c.t.d.def_ 34 (d := d_law) rfl
  have F : FunD K "law" "law" (defArgs s_law) (defBody s_law) (defScope s_law) [] [] (He.ga K "law") fd := F
  exact ⟨fd, fun s v => FunD.bindsA (ps := ["_law_script"]) F (fun _ _ _ _ _ _ us hl => match us, hl with | [_], _ => rfl) s [v] rfl, fun base _ _ => ok_law M (tf_of M c) c F⟩
end K96
end

section
set_option Elab.async false
set_option linter.all false
set_option maxRecDepth 100000
set_option maxHeartbeats 0
open PySem PySem.W PySem.Calls PyProof.Rows
theorem PySem.Challenge.cw_clockloom_k96_papers_written_holds : PySem.Challenge.rw_clockloom_k96_papers_written.Holds := by
  w_on; o_law
  refine HandSHeadRun.head_any (r := OpenLaw.row PySem.Challenge.rw_clockloom_k96_papers_written) (q := view (OpenLaw.row PySem.Challenge.rw_clockloom_k96_papers_written).prog [35]) (H := K96.hk) (ob := K96.ob) (M := 4000) (loose := K96.loose) (d := HandSHeadRun.topDef (OpenLaw.row PySem.Challenge.rw_clockloom_k96_papers_written).prog 35) (kwd := []) K96.ob_eq
    (by kernel_rfl) (fun s => by kernel_rfl) K96.run (by kernel_rfl) (by kernel_rfl) (by kernel_rfl) (by rfl) (by first | assumption | decide +kernel) (by decide +kernel) ⟨rfl, rfl, rfl, rfl, rfl, by decide +kernel⟩ ?hw ?hc
  case hw => w_witness2
  case hc =>
    refine CL.walk_w (l := PySem.Challenge.rw_clockloom_k96_papers_written) (n := 63) (k := 211) (x := "_law_script") (CX := fun w => L2.CX (PySem.Challenge.rw_clockloom_k96_papers_written).prog w) rfl (by decide) (by kernel_rfl) ⟨rfl, by decide, by decide⟩ ?F (fun w H s e s' ⟨_, _, _, _, _, _, _, _, _, _, _, _, z⟩ => z)
    intro w mg fa h Y G hmg0
    obtain ⟨K, KX, c⟩ := Y
    have hmg : mg ("law" : PySem.Str) = some (.ref fa) := by
      have e : (HandSHeadRun.topDef (OpenLaw.row PySem.Challenge.rw_clockloom_k96_papers_written).prog 35).name = ("law" : PySem.Str) := by kernel_rfl
      rw [← e]
      exact hmg0
    obtain ⟨fd, hb, hF⟩ := K96.facts (P := (PySem.Challenge.rw_clockloom_k96_papers_written).prog) (w := w) KX G hmg c
    exact ⟨K, fd, K96.sp_law K, KX, hb, fun H a ns hl hS => ⟨.ref a, rfl, a, ns, rfl, hS, fun _ => rfl⟩, hF⟩
end
